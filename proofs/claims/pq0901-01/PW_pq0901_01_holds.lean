import PyProof.Rows.All
import Wide.All
import OpenK.AllK
import Wide.FinOn
import PySem.Challenge.RW_pq0901_01
set_option Elab.async false
section
open PySem PySem.W PyProof.Rows
namespace Mine
/-- the built-in names' dict, its texts as numbers -/
noncomputable def dict0 (P : Params) : Obj := ⟨(.type "dict"), (.none), (.dict ⟨[⟨(PyData.keyHash P ⟨⟨[95, 95, 110, 97, 109, 101, 95, 95]⟩⟩), (.str ⟨⟨[95, 95, 110, 97, 109, 101, 95, 95]⟩⟩ 1), (.str ⟨⟨[98, 117, 105, 108, 116, 105, 110, 115]⟩⟩ 160)⟩, ⟨(PyData.keyHash P ⟨⟨[95, 95, 100, 111, 99, 95, 95]⟩⟩), (.str ⟨⟨[95, 95, 100, 111, 99, 95, 95]⟩⟩ 2), (.builtin "builtins.__doc__:str#opaque")⟩, ⟨(PyData.keyHash P ⟨⟨[95, 95, 112, 97, 99, 107, 97, 103, 101, 95, 95]⟩⟩), (.str ⟨⟨[95, 95, 112, 97, 99, 107, 97, 103, 101, 95, 95]⟩⟩ 3), (.builtin "builtins.__package__:str#opaque")⟩, ⟨(PyData.keyHash P ⟨⟨[95, 95, 108, 111, 97, 100, 101, 114, 95, 95]⟩⟩), (.str ⟨⟨[95, 95, 108, 111, 97, 100, 101, 114, 95, 95]⟩⟩ 4), (.builtin "builtins.__loader__:shared#opaque")⟩, ⟨(PyData.keyHash P ⟨⟨[95, 95, 115, 112, 101, 99, 95, 95]⟩⟩), (.str ⟨⟨[95, 95, 115, 112, 101, 99, 95, 95]⟩⟩ 5), (.builtin "builtins.__spec__#opaque")⟩, ⟨(PyData.keyHash P ⟨⟨[95, 95, 98, 117, 105, 108, 100, 95, 99, 108, 97, 115, 115, 95, 95]⟩⟩), (.str ⟨⟨[95, 95, 98, 117, 105, 108, 100, 95, 99, 108, 97, 115, 115, 95, 95]⟩⟩ 6), (.builtin "__build_class__")⟩, ⟨(PyData.keyHash P ⟨⟨[95, 95, 105, 109, 112, 111, 114, 116, 95, 95]⟩⟩), (.str ⟨⟨[95, 95, 105, 109, 112, 111, 114, 116, 95, 95]⟩⟩ 7), (.builtin "__import__")⟩, ⟨(PyData.keyHash P ⟨⟨[97, 98, 115]⟩⟩), (.str ⟨⟨[97, 98, 115]⟩⟩ 8), (.builtin "abs")⟩, ⟨(PyData.keyHash P ⟨⟨[97, 108, 108]⟩⟩), (.str ⟨⟨[97, 108, 108]⟩⟩ 9), (.builtin "all")⟩, ⟨(PyData.keyHash P ⟨⟨[97, 110, 121]⟩⟩), (.str ⟨⟨[97, 110, 121]⟩⟩ 10), (.builtin "any")⟩, ⟨(PyData.keyHash P ⟨⟨[97, 115, 99, 105, 105]⟩⟩), (.str ⟨⟨[97, 115, 99, 105, 105]⟩⟩ 11), (.builtin "ascii")⟩, ⟨(PyData.keyHash P ⟨⟨[98, 105, 110]⟩⟩), (.str ⟨⟨[98, 105, 110]⟩⟩ 12), (.builtin "bin")⟩, ⟨(PyData.keyHash P ⟨⟨[98, 114, 101, 97, 107, 112, 111, 105, 110, 116]⟩⟩), (.str ⟨⟨[98, 114, 101, 97, 107, 112, 111, 105, 110, 116]⟩⟩ 13), (.builtin "breakpoint")⟩, ⟨(PyData.keyHash P ⟨⟨[99, 97, 108, 108, 97, 98, 108, 101]⟩⟩), (.str ⟨⟨[99, 97, 108, 108, 97, 98, 108, 101]⟩⟩ 14), (.builtin "callable")⟩, ⟨(PyData.keyHash P ⟨⟨[99, 104, 114]⟩⟩), (.str ⟨⟨[99, 104, 114]⟩⟩ 15), (.builtin "chr")⟩, ⟨(PyData.keyHash P ⟨⟨[99, 111, 109, 112, 105, 108, 101]⟩⟩), (.str ⟨⟨[99, 111, 109, 112, 105, 108, 101]⟩⟩ 16), (.builtin "compile")⟩, ⟨(PyData.keyHash P ⟨⟨[100, 101, 108, 97, 116, 116, 114]⟩⟩), (.str ⟨⟨[100, 101, 108, 97, 116, 116, 114]⟩⟩ 17), (.builtin "delattr")⟩, ⟨(PyData.keyHash P ⟨⟨[100, 105, 114]⟩⟩), (.str ⟨⟨[100, 105, 114]⟩⟩ 18), (.builtin "dir")⟩, ⟨(PyData.keyHash P ⟨⟨[100, 105, 118, 109, 111, 100]⟩⟩), (.str ⟨⟨[100, 105, 118, 109, 111, 100]⟩⟩ 19), (.builtin "divmod")⟩, ⟨(PyData.keyHash P ⟨⟨[101, 118, 97, 108]⟩⟩), (.str ⟨⟨[101, 118, 97, 108]⟩⟩ 20), (.builtin "eval")⟩, ⟨(PyData.keyHash P ⟨⟨[101, 120, 101, 99]⟩⟩), (.str ⟨⟨[101, 120, 101, 99]⟩⟩ 21), (.builtin "exec")⟩, ⟨(PyData.keyHash P ⟨⟨[102, 111, 114, 109, 97, 116]⟩⟩), (.str ⟨⟨[102, 111, 114, 109, 97, 116]⟩⟩ 22), (.builtin "format")⟩, ⟨(PyData.keyHash P ⟨⟨[103, 101, 116, 97, 116, 116, 114]⟩⟩), (.str ⟨⟨[103, 101, 116, 97, 116, 116, 114]⟩⟩ 23), (.builtin "getattr")⟩, ⟨(PyData.keyHash P ⟨⟨[103, 108, 111, 98, 97, 108, 115]⟩⟩), (.str ⟨⟨[103, 108, 111, 98, 97, 108, 115]⟩⟩ 24), (.builtin "globals")⟩, ⟨(PyData.keyHash P ⟨⟨[104, 97, 115, 97, 116, 116, 114]⟩⟩), (.str ⟨⟨[104, 97, 115, 97, 116, 116, 114]⟩⟩ 25), (.builtin "hasattr")⟩, ⟨(PyData.keyHash P ⟨⟨[104, 97, 115, 104]⟩⟩), (.str ⟨⟨[104, 97, 115, 104]⟩⟩ 26), (.builtin "hash")⟩, ⟨(PyData.keyHash P ⟨⟨[104, 101, 120]⟩⟩), (.str ⟨⟨[104, 101, 120]⟩⟩ 27), (.builtin "hex")⟩, ⟨(PyData.keyHash P ⟨⟨[105, 100]⟩⟩), (.str ⟨⟨[105, 100]⟩⟩ 28), (.builtin "id")⟩, ⟨(PyData.keyHash P ⟨⟨[105, 110, 112, 117, 116]⟩⟩), (.str ⟨⟨[105, 110, 112, 117, 116]⟩⟩ 29), (.builtin "input")⟩, ⟨(PyData.keyHash P ⟨⟨[105, 115, 105, 110, 115, 116, 97, 110, 99, 101]⟩⟩), (.str ⟨⟨[105, 115, 105, 110, 115, 116, 97, 110, 99, 101]⟩⟩ 30), (.builtin "isinstance")⟩, ⟨(PyData.keyHash P ⟨⟨[105, 115, 115, 117, 98, 99, 108, 97, 115, 115]⟩⟩), (.str ⟨⟨[105, 115, 115, 117, 98, 99, 108, 97, 115, 115]⟩⟩ 31), (.builtin "issubclass")⟩, ⟨(PyData.keyHash P ⟨⟨[105, 116, 101, 114]⟩⟩), (.str ⟨⟨[105, 116, 101, 114]⟩⟩ 32), (.builtin "iter")⟩, ⟨(PyData.keyHash P ⟨⟨[97, 105, 116, 101, 114]⟩⟩), (.str ⟨⟨[97, 105, 116, 101, 114]⟩⟩ 33), (.builtin "aiter")⟩, ⟨(PyData.keyHash P ⟨⟨[108, 101, 110]⟩⟩), (.str ⟨⟨[108, 101, 110]⟩⟩ 34), (.builtin "len")⟩, ⟨(PyData.keyHash P ⟨⟨[108, 111, 99, 97, 108, 115]⟩⟩), (.str ⟨⟨[108, 111, 99, 97, 108, 115]⟩⟩ 35), (.builtin "locals")⟩, ⟨(PyData.keyHash P ⟨⟨[109, 97, 120]⟩⟩), (.str ⟨⟨[109, 97, 120]⟩⟩ 36), (.builtin "max")⟩, ⟨(PyData.keyHash P ⟨⟨[109, 105, 110]⟩⟩), (.str ⟨⟨[109, 105, 110]⟩⟩ 37), (.builtin "min")⟩, ⟨(PyData.keyHash P ⟨⟨[110, 101, 120, 116]⟩⟩), (.str ⟨⟨[110, 101, 120, 116]⟩⟩ 38), (.builtin "next")⟩, ⟨(PyData.keyHash P ⟨⟨[97, 110, 101, 120, 116]⟩⟩), (.str ⟨⟨[97, 110, 101, 120, 116]⟩⟩ 39), (.builtin "anext")⟩, ⟨(PyData.keyHash P ⟨⟨[111, 99, 116]⟩⟩), (.str ⟨⟨[111, 99, 116]⟩⟩ 40), (.builtin "oct")⟩, ⟨(PyData.keyHash P ⟨⟨[111, 114, 100]⟩⟩), (.str ⟨⟨[111, 114, 100]⟩⟩ 41), (.builtin "ord")⟩, ⟨(PyData.keyHash P ⟨⟨[112, 111, 119]⟩⟩), (.str ⟨⟨[112, 111, 119]⟩⟩ 42), (.builtin "pow")⟩, ⟨(PyData.keyHash P ⟨⟨[112, 114, 105, 110, 116]⟩⟩), (.str ⟨⟨[112, 114, 105, 110, 116]⟩⟩ 43), (.builtin "print")⟩, ⟨(PyData.keyHash P ⟨⟨[114, 101, 112, 114]⟩⟩), (.str ⟨⟨[114, 101, 112, 114]⟩⟩ 44), (.builtin "repr")⟩, ⟨(PyData.keyHash P ⟨⟨[114, 111, 117, 110, 100]⟩⟩), (.str ⟨⟨[114, 111, 117, 110, 100]⟩⟩ 45), (.builtin "round")⟩, ⟨(PyData.keyHash P ⟨⟨[115, 101, 116, 97, 116, 116, 114]⟩⟩), (.str ⟨⟨[115, 101, 116, 97, 116, 116, 114]⟩⟩ 46), (.builtin "setattr")⟩, ⟨(PyData.keyHash P ⟨⟨[115, 111, 114, 116, 101, 100]⟩⟩), (.str ⟨⟨[115, 111, 114, 116, 101, 100]⟩⟩ 47), (.builtin "sorted")⟩, ⟨(PyData.keyHash P ⟨⟨[115, 117, 109]⟩⟩), (.str ⟨⟨[115, 117, 109]⟩⟩ 48), (.builtin "sum")⟩, ⟨(PyData.keyHash P ⟨⟨[118, 97, 114, 115]⟩⟩), (.str ⟨⟨[118, 97, 114, 115]⟩⟩ 49), (.builtin "vars")⟩, ⟨(PyData.keyHash P ⟨⟨[78, 111, 110, 101]⟩⟩), (.str ⟨⟨[78, 111, 110, 101]⟩⟩ 50), Value.none⟩, ⟨(PyData.keyHash P ⟨⟨[69, 108, 108, 105, 112, 115, 105, 115]⟩⟩), (.str ⟨⟨[69, 108, 108, 105, 112, 115, 105, 115]⟩⟩ 51), Value.ellipsis⟩, ⟨(PyData.keyHash P ⟨⟨[78, 111, 116, 73, 109, 112, 108, 101, 109, 101, 110, 116, 101, 100]⟩⟩), (.str ⟨⟨[78, 111, 116, 73, 109, 112, 108, 101, 109, 101, 110, 116, 101, 100]⟩⟩ 52), Value.notImplemented⟩, ⟨(PyData.keyHash P ⟨⟨[70, 97, 108, 115, 101]⟩⟩), (.str ⟨⟨[70, 97, 108, 115, 101]⟩⟩ 53), (.bool Bool.false)⟩, ⟨(PyData.keyHash P ⟨⟨[84, 114, 117, 101]⟩⟩), (.str ⟨⟨[84, 114, 117, 101]⟩⟩ 54), (.bool Bool.true)⟩, ⟨(PyData.keyHash P ⟨⟨[98, 111, 111, 108]⟩⟩), (.str ⟨⟨[98, 111, 111, 108]⟩⟩ 55), (.type "bool")⟩, ⟨(PyData.keyHash P ⟨⟨[109, 101, 109, 111, 114, 121, 118, 105, 101, 119]⟩⟩), (.str ⟨⟨[109, 101, 109, 111, 114, 121, 118, 105, 101, 119]⟩⟩ 56), (.type "memoryview")⟩, ⟨(PyData.keyHash P ⟨⟨[98, 121, 116, 101, 97, 114, 114, 97, 121]⟩⟩), (.str ⟨⟨[98, 121, 116, 101, 97, 114, 114, 97, 121]⟩⟩ 57), (.type "bytearray")⟩, ⟨(PyData.keyHash P ⟨⟨[98, 121, 116, 101, 115]⟩⟩), (.str ⟨⟨[98, 121, 116, 101, 115]⟩⟩ 58), (.type "bytes")⟩, ⟨(PyData.keyHash P ⟨⟨[99, 108, 97, 115, 115, 109, 101, 116, 104, 111, 100]⟩⟩), (.str ⟨⟨[99, 108, 97, 115, 115, 109, 101, 116, 104, 111, 100]⟩⟩ 59), (.type "classmethod")⟩, ⟨(PyData.keyHash P ⟨⟨[99, 111, 109, 112, 108, 101, 120]⟩⟩), (.str ⟨⟨[99, 111, 109, 112, 108, 101, 120]⟩⟩ 60), (.type "complex")⟩, ⟨(PyData.keyHash P ⟨⟨[100, 105, 99, 116]⟩⟩), (.str ⟨⟨[100, 105, 99, 116]⟩⟩ 61), (.type "dict")⟩, ⟨(PyData.keyHash P ⟨⟨[101, 110, 117, 109, 101, 114, 97, 116, 101]⟩⟩), (.str ⟨⟨[101, 110, 117, 109, 101, 114, 97, 116, 101]⟩⟩ 62), (.type "enumerate")⟩, ⟨(PyData.keyHash P ⟨⟨[102, 105, 108, 116, 101, 114]⟩⟩), (.str ⟨⟨[102, 105, 108, 116, 101, 114]⟩⟩ 63), (.type "filter")⟩, ⟨(PyData.keyHash P ⟨⟨[102, 108, 111, 97, 116]⟩⟩), (.str ⟨⟨[102, 108, 111, 97, 116]⟩⟩ 64), (.type "float")⟩, ⟨(PyData.keyHash P ⟨⟨[102, 114, 111, 122, 101, 110, 115, 101, 116]⟩⟩), (.str ⟨⟨[102, 114, 111, 122, 101, 110, 115, 101, 116]⟩⟩ 65), (.type "frozenset")⟩, ⟨(PyData.keyHash P ⟨⟨[112, 114, 111, 112, 101, 114, 116, 121]⟩⟩), (.str ⟨⟨[112, 114, 111, 112, 101, 114, 116, 121]⟩⟩ 66), (.type "property")⟩, ⟨(PyData.keyHash P ⟨⟨[105, 110, 116]⟩⟩), (.str ⟨⟨[105, 110, 116]⟩⟩ 67), (.type "int")⟩, ⟨(PyData.keyHash P ⟨⟨[108, 105, 115, 116]⟩⟩), (.str ⟨⟨[108, 105, 115, 116]⟩⟩ 68), (.type "list")⟩, ⟨(PyData.keyHash P ⟨⟨[109, 97, 112]⟩⟩), (.str ⟨⟨[109, 97, 112]⟩⟩ 69), (.type "map")⟩, ⟨(PyData.keyHash P ⟨⟨[111, 98, 106, 101, 99, 116]⟩⟩), (.str ⟨⟨[111, 98, 106, 101, 99, 116]⟩⟩ 70), (.type "object")⟩, ⟨(PyData.keyHash P ⟨⟨[114, 97, 110, 103, 101]⟩⟩), (.str ⟨⟨[114, 97, 110, 103, 101]⟩⟩ 71), (.type "range")⟩, ⟨(PyData.keyHash P ⟨⟨[114, 101, 118, 101, 114, 115, 101, 100]⟩⟩), (.str ⟨⟨[114, 101, 118, 101, 114, 115, 101, 100]⟩⟩ 72), (.type "reversed")⟩, ⟨(PyData.keyHash P ⟨⟨[115, 101, 116]⟩⟩), (.str ⟨⟨[115, 101, 116]⟩⟩ 73), (.type "set")⟩, ⟨(PyData.keyHash P ⟨⟨[115, 108, 105, 99, 101]⟩⟩), (.str ⟨⟨[115, 108, 105, 99, 101]⟩⟩ 74), (.type "slice")⟩, ⟨(PyData.keyHash P ⟨⟨[115, 116, 97, 116, 105, 99, 109, 101, 116, 104, 111, 100]⟩⟩), (.str ⟨⟨[115, 116, 97, 116, 105, 99, 109, 101, 116, 104, 111, 100]⟩⟩ 75), (.type "staticmethod")⟩, ⟨(PyData.keyHash P ⟨⟨[115, 116, 114]⟩⟩), (.str ⟨⟨[115, 116, 114]⟩⟩ 76), (.type "str")⟩, ⟨(PyData.keyHash P ⟨⟨[115, 117, 112, 101, 114]⟩⟩), (.str ⟨⟨[115, 117, 112, 101, 114]⟩⟩ 77), (.type "super")⟩, ⟨(PyData.keyHash P ⟨⟨[116, 117, 112, 108, 101]⟩⟩), (.str ⟨⟨[116, 117, 112, 108, 101]⟩⟩ 78), (.type "tuple")⟩, ⟨(PyData.keyHash P ⟨⟨[116, 121, 112, 101]⟩⟩), (.str ⟨⟨[116, 121, 112, 101]⟩⟩ 79), (.type "type")⟩, ⟨(PyData.keyHash P ⟨⟨[122, 105, 112]⟩⟩), (.str ⟨⟨[122, 105, 112]⟩⟩ 80), (.type "zip")⟩, ⟨(PyData.keyHash P ⟨⟨[95, 95, 100, 101, 98, 117, 103, 95, 95]⟩⟩), (.str ⟨⟨[95, 95, 100, 101, 98, 117, 103, 95, 95]⟩⟩ 81), (.bool Bool.true)⟩, ⟨(PyData.keyHash P ⟨⟨[66, 97, 115, 101, 69, 120, 99, 101, 112, 116, 105, 111, 110]⟩⟩), (.str ⟨⟨[66, 97, 115, 101, 69, 120, 99, 101, 112, 116, 105, 111, 110]⟩⟩ 82), (.type "BaseException")⟩, ⟨(PyData.keyHash P ⟨⟨[66, 97, 115, 101, 69, 120, 99, 101, 112, 116, 105, 111, 110, 71, 114, 111, 117, 112]⟩⟩), (.str ⟨⟨[66, 97, 115, 101, 69, 120, 99, 101, 112, 116, 105, 111, 110, 71, 114, 111, 117, 112]⟩⟩ 83), (.type "BaseExceptionGroup")⟩, ⟨(PyData.keyHash P ⟨⟨[69, 120, 99, 101, 112, 116, 105, 111, 110]⟩⟩), (.str ⟨⟨[69, 120, 99, 101, 112, 116, 105, 111, 110]⟩⟩ 84), (.type "Exception")⟩, ⟨(PyData.keyHash P ⟨⟨[71, 101, 110, 101, 114, 97, 116, 111, 114, 69, 120, 105, 116]⟩⟩), (.str ⟨⟨[71, 101, 110, 101, 114, 97, 116, 111, 114, 69, 120, 105, 116]⟩⟩ 85), (.type "GeneratorExit")⟩, ⟨(PyData.keyHash P ⟨⟨[75, 101, 121, 98, 111, 97, 114, 100, 73, 110, 116, 101, 114, 114, 117, 112, 116]⟩⟩), (.str ⟨⟨[75, 101, 121, 98, 111, 97, 114, 100, 73, 110, 116, 101, 114, 114, 117, 112, 116]⟩⟩ 86), (.type "KeyboardInterrupt")⟩, ⟨(PyData.keyHash P ⟨⟨[83, 121, 115, 116, 101, 109, 69, 120, 105, 116]⟩⟩), (.str ⟨⟨[83, 121, 115, 116, 101, 109, 69, 120, 105, 116]⟩⟩ 87), (.type "SystemExit")⟩, ⟨(PyData.keyHash P ⟨⟨[65, 114, 105, 116, 104, 109, 101, 116, 105, 99, 69, 114, 114, 111, 114]⟩⟩), (.str ⟨⟨[65, 114, 105, 116, 104, 109, 101, 116, 105, 99, 69, 114, 114, 111, 114]⟩⟩ 88), (.type "ArithmeticError")⟩, ⟨(PyData.keyHash P ⟨⟨[65, 115, 115, 101, 114, 116, 105, 111, 110, 69, 114, 114, 111, 114]⟩⟩), (.str ⟨⟨[65, 115, 115, 101, 114, 116, 105, 111, 110, 69, 114, 114, 111, 114]⟩⟩ 89), (.type "AssertionError")⟩, ⟨(PyData.keyHash P ⟨⟨[65, 116, 116, 114, 105, 98, 117, 116, 101, 69, 114, 114, 111, 114]⟩⟩), (.str ⟨⟨[65, 116, 116, 114, 105, 98, 117, 116, 101, 69, 114, 114, 111, 114]⟩⟩ 90), (.type "AttributeError")⟩, ⟨(PyData.keyHash P ⟨⟨[66, 117, 102, 102, 101, 114, 69, 114, 114, 111, 114]⟩⟩), (.str ⟨⟨[66, 117, 102, 102, 101, 114, 69, 114, 114, 111, 114]⟩⟩ 91), (.type "BufferError")⟩, ⟨(PyData.keyHash P ⟨⟨[69, 79, 70, 69, 114, 114, 111, 114]⟩⟩), (.str ⟨⟨[69, 79, 70, 69, 114, 114, 111, 114]⟩⟩ 92), (.type "EOFError")⟩, ⟨(PyData.keyHash P ⟨⟨[73, 109, 112, 111, 114, 116, 69, 114, 114, 111, 114]⟩⟩), (.str ⟨⟨[73, 109, 112, 111, 114, 116, 69, 114, 114, 111, 114]⟩⟩ 93), (.type "ImportError")⟩, ⟨(PyData.keyHash P ⟨⟨[76, 111, 111, 107, 117, 112, 69, 114, 114, 111, 114]⟩⟩), (.str ⟨⟨[76, 111, 111, 107, 117, 112, 69, 114, 114, 111, 114]⟩⟩ 94), (.type "LookupError")⟩, ⟨(PyData.keyHash P ⟨⟨[77, 101, 109, 111, 114, 121, 69, 114, 114, 111, 114]⟩⟩), (.str ⟨⟨[77, 101, 109, 111, 114, 121, 69, 114, 114, 111, 114]⟩⟩ 95), (.type "MemoryError")⟩, ⟨(PyData.keyHash P ⟨⟨[78, 97, 109, 101, 69, 114, 114, 111, 114]⟩⟩), (.str ⟨⟨[78, 97, 109, 101, 69, 114, 114, 111, 114]⟩⟩ 96), (.type "NameError")⟩, ⟨(PyData.keyHash P ⟨⟨[79, 83, 69, 114, 114, 111, 114]⟩⟩), (.str ⟨⟨[79, 83, 69, 114, 114, 111, 114]⟩⟩ 97), (.type "OSError")⟩, ⟨(PyData.keyHash P ⟨⟨[82, 101, 102, 101, 114, 101, 110, 99, 101, 69, 114, 114, 111, 114]⟩⟩), (.str ⟨⟨[82, 101, 102, 101, 114, 101, 110, 99, 101, 69, 114, 114, 111, 114]⟩⟩ 98), (.type "ReferenceError")⟩, ⟨(PyData.keyHash P ⟨⟨[82, 117, 110, 116, 105, 109, 101, 69, 114, 114, 111, 114]⟩⟩), (.str ⟨⟨[82, 117, 110, 116, 105, 109, 101, 69, 114, 114, 111, 114]⟩⟩ 99), (.type "RuntimeError")⟩, ⟨(PyData.keyHash P ⟨⟨[83, 116, 111, 112, 65, 115, 121, 110, 99, 73, 116, 101, 114, 97, 116, 105, 111, 110]⟩⟩), (.str ⟨⟨[83, 116, 111, 112, 65, 115, 121, 110, 99, 73, 116, 101, 114, 97, 116, 105, 111, 110]⟩⟩ 100), (.type "StopAsyncIteration")⟩, ⟨(PyData.keyHash P ⟨⟨[83, 116, 111, 112, 73, 116, 101, 114, 97, 116, 105, 111, 110]⟩⟩), (.str ⟨⟨[83, 116, 111, 112, 73, 116, 101, 114, 97, 116, 105, 111, 110]⟩⟩ 101), (.type "StopIteration")⟩, ⟨(PyData.keyHash P ⟨⟨[83, 121, 110, 116, 97, 120, 69, 114, 114, 111, 114]⟩⟩), (.str ⟨⟨[83, 121, 110, 116, 97, 120, 69, 114, 114, 111, 114]⟩⟩ 102), (.type "SyntaxError")⟩, ⟨(PyData.keyHash P ⟨⟨[83, 121, 115, 116, 101, 109, 69, 114, 114, 111, 114]⟩⟩), (.str ⟨⟨[83, 121, 115, 116, 101, 109, 69, 114, 114, 111, 114]⟩⟩ 103), (.type "SystemError")⟩, ⟨(PyData.keyHash P ⟨⟨[84, 121, 112, 101, 69, 114, 114, 111, 114]⟩⟩), (.str ⟨⟨[84, 121, 112, 101, 69, 114, 114, 111, 114]⟩⟩ 104), (.type "TypeError")⟩, ⟨(PyData.keyHash P ⟨⟨[86, 97, 108, 117, 101, 69, 114, 114, 111, 114]⟩⟩), (.str ⟨⟨[86, 97, 108, 117, 101, 69, 114, 114, 111, 114]⟩⟩ 105), (.type "ValueError")⟩, ⟨(PyData.keyHash P ⟨⟨[87, 97, 114, 110, 105, 110, 103]⟩⟩), (.str ⟨⟨[87, 97, 114, 110, 105, 110, 103]⟩⟩ 106), (.type "Warning")⟩, ⟨(PyData.keyHash P ⟨⟨[70, 108, 111, 97, 116, 105, 110, 103, 80, 111, 105, 110, 116, 69, 114, 114, 111, 114]⟩⟩), (.str ⟨⟨[70, 108, 111, 97, 116, 105, 110, 103, 80, 111, 105, 110, 116, 69, 114, 114, 111, 114]⟩⟩ 107), (.type "FloatingPointError")⟩, ⟨(PyData.keyHash P ⟨⟨[79, 118, 101, 114, 102, 108, 111, 119, 69, 114, 114, 111, 114]⟩⟩), (.str ⟨⟨[79, 118, 101, 114, 102, 108, 111, 119, 69, 114, 114, 111, 114]⟩⟩ 108), (.type "OverflowError")⟩, ⟨(PyData.keyHash P ⟨⟨[90, 101, 114, 111, 68, 105, 118, 105, 115, 105, 111, 110, 69, 114, 114, 111, 114]⟩⟩), (.str ⟨⟨[90, 101, 114, 111, 68, 105, 118, 105, 115, 105, 111, 110, 69, 114, 114, 111, 114]⟩⟩ 109), (.type "ZeroDivisionError")⟩, ⟨(PyData.keyHash P ⟨⟨[66, 121, 116, 101, 115, 87, 97, 114, 110, 105, 110, 103]⟩⟩), (.str ⟨⟨[66, 121, 116, 101, 115, 87, 97, 114, 110, 105, 110, 103]⟩⟩ 110), (.type "BytesWarning")⟩, ⟨(PyData.keyHash P ⟨⟨[68, 101, 112, 114, 101, 99, 97, 116, 105, 111, 110, 87, 97, 114, 110, 105, 110, 103]⟩⟩), (.str ⟨⟨[68, 101, 112, 114, 101, 99, 97, 116, 105, 111, 110, 87, 97, 114, 110, 105, 110, 103]⟩⟩ 111), (.type "DeprecationWarning")⟩, ⟨(PyData.keyHash P ⟨⟨[69, 110, 99, 111, 100, 105, 110, 103, 87, 97, 114, 110, 105, 110, 103]⟩⟩), (.str ⟨⟨[69, 110, 99, 111, 100, 105, 110, 103, 87, 97, 114, 110, 105, 110, 103]⟩⟩ 112), (.type "EncodingWarning")⟩, ⟨(PyData.keyHash P ⟨⟨[70, 117, 116, 117, 114, 101, 87, 97, 114, 110, 105, 110, 103]⟩⟩), (.str ⟨⟨[70, 117, 116, 117, 114, 101, 87, 97, 114, 110, 105, 110, 103]⟩⟩ 113), (.type "FutureWarning")⟩, ⟨(PyData.keyHash P ⟨⟨[73, 109, 112, 111, 114, 116, 87, 97, 114, 110, 105, 110, 103]⟩⟩), (.str ⟨⟨[73, 109, 112, 111, 114, 116, 87, 97, 114, 110, 105, 110, 103]⟩⟩ 114), (.type "ImportWarning")⟩, ⟨(PyData.keyHash P ⟨⟨[80, 101, 110, 100, 105, 110, 103, 68, 101, 112, 114, 101, 99, 97, 116, 105, 111, 110, 87, 97, 114, 110, 105, 110, 103]⟩⟩), (.str ⟨⟨[80, 101, 110, 100, 105, 110, 103, 68, 101, 112, 114, 101, 99, 97, 116, 105, 111, 110, 87, 97, 114, 110, 105, 110, 103]⟩⟩ 115), (.type "PendingDeprecationWarning")⟩, ⟨(PyData.keyHash P ⟨⟨[82, 101, 115, 111, 117, 114, 99, 101, 87, 97, 114, 110, 105, 110, 103]⟩⟩), (.str ⟨⟨[82, 101, 115, 111, 117, 114, 99, 101, 87, 97, 114, 110, 105, 110, 103]⟩⟩ 116), (.type "ResourceWarning")⟩, ⟨(PyData.keyHash P ⟨⟨[82, 117, 110, 116, 105, 109, 101, 87, 97, 114, 110, 105, 110, 103]⟩⟩), (.str ⟨⟨[82, 117, 110, 116, 105, 109, 101, 87, 97, 114, 110, 105, 110, 103]⟩⟩ 117), (.type "RuntimeWarning")⟩, ⟨(PyData.keyHash P ⟨⟨[83, 121, 110, 116, 97, 120, 87, 97, 114, 110, 105, 110, 103]⟩⟩), (.str ⟨⟨[83, 121, 110, 116, 97, 120, 87, 97, 114, 110, 105, 110, 103]⟩⟩ 118), (.type "SyntaxWarning")⟩, ⟨(PyData.keyHash P ⟨⟨[85, 110, 105, 99, 111, 100, 101, 87, 97, 114, 110, 105, 110, 103]⟩⟩), (.str ⟨⟨[85, 110, 105, 99, 111, 100, 101, 87, 97, 114, 110, 105, 110, 103]⟩⟩ 119), (.type "UnicodeWarning")⟩, ⟨(PyData.keyHash P ⟨⟨[85, 115, 101, 114, 87, 97, 114, 110, 105, 110, 103]⟩⟩), (.str ⟨⟨[85, 115, 101, 114, 87, 97, 114, 110, 105, 110, 103]⟩⟩ 120), (.type "UserWarning")⟩, ⟨(PyData.keyHash P ⟨⟨[66, 108, 111, 99, 107, 105, 110, 103, 73, 79, 69, 114, 114, 111, 114]⟩⟩), (.str ⟨⟨[66, 108, 111, 99, 107, 105, 110, 103, 73, 79, 69, 114, 114, 111, 114]⟩⟩ 121), (.type "BlockingIOError")⟩, ⟨(PyData.keyHash P ⟨⟨[67, 104, 105, 108, 100, 80, 114, 111, 99, 101, 115, 115, 69, 114, 114, 111, 114]⟩⟩), (.str ⟨⟨[67, 104, 105, 108, 100, 80, 114, 111, 99, 101, 115, 115, 69, 114, 114, 111, 114]⟩⟩ 122), (.type "ChildProcessError")⟩, ⟨(PyData.keyHash P ⟨⟨[67, 111, 110, 110, 101, 99, 116, 105, 111, 110, 69, 114, 114, 111, 114]⟩⟩), (.str ⟨⟨[67, 111, 110, 110, 101, 99, 116, 105, 111, 110, 69, 114, 114, 111, 114]⟩⟩ 123), (.type "ConnectionError")⟩, ⟨(PyData.keyHash P ⟨⟨[70, 105, 108, 101, 69, 120, 105, 115, 116, 115, 69, 114, 114, 111, 114]⟩⟩), (.str ⟨⟨[70, 105, 108, 101, 69, 120, 105, 115, 116, 115, 69, 114, 114, 111, 114]⟩⟩ 124), (.type "FileExistsError")⟩, ⟨(PyData.keyHash P ⟨⟨[70, 105, 108, 101, 78, 111, 116, 70, 111, 117, 110, 100, 69, 114, 114, 111, 114]⟩⟩), (.str ⟨⟨[70, 105, 108, 101, 78, 111, 116, 70, 111, 117, 110, 100, 69, 114, 114, 111, 114]⟩⟩ 125), (.type "FileNotFoundError")⟩, ⟨(PyData.keyHash P ⟨⟨[73, 110, 116, 101, 114, 114, 117, 112, 116, 101, 100, 69, 114, 114, 111, 114]⟩⟩), (.str ⟨⟨[73, 110, 116, 101, 114, 114, 117, 112, 116, 101, 100, 69, 114, 114, 111, 114]⟩⟩ 126), (.type "InterruptedError")⟩, ⟨(PyData.keyHash P ⟨⟨[73, 115, 65, 68, 105, 114, 101, 99, 116, 111, 114, 121, 69, 114, 114, 111, 114]⟩⟩), (.str ⟨⟨[73, 115, 65, 68, 105, 114, 101, 99, 116, 111, 114, 121, 69, 114, 114, 111, 114]⟩⟩ 127), (.type "IsADirectoryError")⟩, ⟨(PyData.keyHash P ⟨⟨[78, 111, 116, 65, 68, 105, 114, 101, 99, 116, 111, 114, 121, 69, 114, 114, 111, 114]⟩⟩), (.str ⟨⟨[78, 111, 116, 65, 68, 105, 114, 101, 99, 116, 111, 114, 121, 69, 114, 114, 111, 114]⟩⟩ 128), (.type "NotADirectoryError")⟩, ⟨(PyData.keyHash P ⟨⟨[80, 101, 114, 109, 105, 115, 115, 105, 111, 110, 69, 114, 114, 111, 114]⟩⟩), (.str ⟨⟨[80, 101, 114, 109, 105, 115, 115, 105, 111, 110, 69, 114, 114, 111, 114]⟩⟩ 129), (.type "PermissionError")⟩, ⟨(PyData.keyHash P ⟨⟨[80, 114, 111, 99, 101, 115, 115, 76, 111, 111, 107, 117, 112, 69, 114, 114, 111, 114]⟩⟩), (.str ⟨⟨[80, 114, 111, 99, 101, 115, 115, 76, 111, 111, 107, 117, 112, 69, 114, 114, 111, 114]⟩⟩ 130), (.type "ProcessLookupError")⟩, ⟨(PyData.keyHash P ⟨⟨[84, 105, 109, 101, 111, 117, 116, 69, 114, 114, 111, 114]⟩⟩), (.str ⟨⟨[84, 105, 109, 101, 111, 117, 116, 69, 114, 114, 111, 114]⟩⟩ 131), (.type "TimeoutError")⟩, ⟨(PyData.keyHash P ⟨⟨[73, 110, 100, 101, 110, 116, 97, 116, 105, 111, 110, 69, 114, 114, 111, 114]⟩⟩), (.str ⟨⟨[73, 110, 100, 101, 110, 116, 97, 116, 105, 111, 110, 69, 114, 114, 111, 114]⟩⟩ 132), (.type "IndentationError")⟩, ⟨(PyData.keyHash P ⟨⟨[95, 73, 110, 99, 111, 109, 112, 108, 101, 116, 101, 73, 110, 112, 117, 116, 69, 114, 114, 111, 114]⟩⟩), (.str ⟨⟨[95, 73, 110, 99, 111, 109, 112, 108, 101, 116, 101, 73, 110, 112, 117, 116, 69, 114, 114, 111, 114]⟩⟩ 133), (.type "_IncompleteInputError")⟩, ⟨(PyData.keyHash P ⟨⟨[73, 110, 100, 101, 120, 69, 114, 114, 111, 114]⟩⟩), (.str ⟨⟨[73, 110, 100, 101, 120, 69, 114, 114, 111, 114]⟩⟩ 134), (.type "IndexError")⟩, ⟨(PyData.keyHash P ⟨⟨[75, 101, 121, 69, 114, 114, 111, 114]⟩⟩), (.str ⟨⟨[75, 101, 121, 69, 114, 114, 111, 114]⟩⟩ 135), (.type "KeyError")⟩, ⟨(PyData.keyHash P ⟨⟨[77, 111, 100, 117, 108, 101, 78, 111, 116, 70, 111, 117, 110, 100, 69, 114, 114, 111, 114]⟩⟩), (.str ⟨⟨[77, 111, 100, 117, 108, 101, 78, 111, 116, 70, 111, 117, 110, 100, 69, 114, 114, 111, 114]⟩⟩ 136), (.type "ModuleNotFoundError")⟩, ⟨(PyData.keyHash P ⟨⟨[78, 111, 116, 73, 109, 112, 108, 101, 109, 101, 110, 116, 101, 100, 69, 114, 114, 111, 114]⟩⟩), (.str ⟨⟨[78, 111, 116, 73, 109, 112, 108, 101, 109, 101, 110, 116, 101, 100, 69, 114, 114, 111, 114]⟩⟩ 137), (.type "NotImplementedError")⟩, ⟨(PyData.keyHash P ⟨⟨[80, 121, 116, 104, 111, 110, 70, 105, 110, 97, 108, 105, 122, 97, 116, 105, 111, 110, 69, 114, 114, 111, 114]⟩⟩), (.str ⟨⟨[80, 121, 116, 104, 111, 110, 70, 105, 110, 97, 108, 105, 122, 97, 116, 105, 111, 110, 69, 114, 114, 111, 114]⟩⟩ 138), (.type "PythonFinalizationError")⟩, ⟨(PyData.keyHash P ⟨⟨[82, 101, 99, 117, 114, 115, 105, 111, 110, 69, 114, 114, 111, 114]⟩⟩), (.str ⟨⟨[82, 101, 99, 117, 114, 115, 105, 111, 110, 69, 114, 114, 111, 114]⟩⟩ 139), (.type "RecursionError")⟩, ⟨(PyData.keyHash P ⟨⟨[85, 110, 98, 111, 117, 110, 100, 76, 111, 99, 97, 108, 69, 114, 114, 111, 114]⟩⟩), (.str ⟨⟨[85, 110, 98, 111, 117, 110, 100, 76, 111, 99, 97, 108, 69, 114, 114, 111, 114]⟩⟩ 140), (.type "UnboundLocalError")⟩, ⟨(PyData.keyHash P ⟨⟨[85, 110, 105, 99, 111, 100, 101, 69, 114, 114, 111, 114]⟩⟩), (.str ⟨⟨[85, 110, 105, 99, 111, 100, 101, 69, 114, 114, 111, 114]⟩⟩ 141), (.type "UnicodeError")⟩, ⟨(PyData.keyHash P ⟨⟨[66, 114, 111, 107, 101, 110, 80, 105, 112, 101, 69, 114, 114, 111, 114]⟩⟩), (.str ⟨⟨[66, 114, 111, 107, 101, 110, 80, 105, 112, 101, 69, 114, 114, 111, 114]⟩⟩ 142), (.type "BrokenPipeError")⟩, ⟨(PyData.keyHash P ⟨⟨[67, 111, 110, 110, 101, 99, 116, 105, 111, 110, 65, 98, 111, 114, 116, 101, 100, 69, 114, 114, 111, 114]⟩⟩), (.str ⟨⟨[67, 111, 110, 110, 101, 99, 116, 105, 111, 110, 65, 98, 111, 114, 116, 101, 100, 69, 114, 114, 111, 114]⟩⟩ 143), (.type "ConnectionAbortedError")⟩, ⟨(PyData.keyHash P ⟨⟨[67, 111, 110, 110, 101, 99, 116, 105, 111, 110, 82, 101, 102, 117, 115, 101, 100, 69, 114, 114, 111, 114]⟩⟩), (.str ⟨⟨[67, 111, 110, 110, 101, 99, 116, 105, 111, 110, 82, 101, 102, 117, 115, 101, 100, 69, 114, 114, 111, 114]⟩⟩ 144), (.type "ConnectionRefusedError")⟩, ⟨(PyData.keyHash P ⟨⟨[67, 111, 110, 110, 101, 99, 116, 105, 111, 110, 82, 101, 115, 101, 116, 69, 114, 114, 111, 114]⟩⟩), (.str ⟨⟨[67, 111, 110, 110, 101, 99, 116, 105, 111, 110, 82, 101, 115, 101, 116, 69, 114, 114, 111, 114]⟩⟩ 145), (.type "ConnectionResetError")⟩, ⟨(PyData.keyHash P ⟨⟨[84, 97, 98, 69, 114, 114, 111, 114]⟩⟩), (.str ⟨⟨[84, 97, 98, 69, 114, 114, 111, 114]⟩⟩ 146), (.type "TabError")⟩, ⟨(PyData.keyHash P ⟨⟨[85, 110, 105, 99, 111, 100, 101, 68, 101, 99, 111, 100, 101, 69, 114, 114, 111, 114]⟩⟩), (.str ⟨⟨[85, 110, 105, 99, 111, 100, 101, 68, 101, 99, 111, 100, 101, 69, 114, 114, 111, 114]⟩⟩ 147), (.type "UnicodeDecodeError")⟩, ⟨(PyData.keyHash P ⟨⟨[85, 110, 105, 99, 111, 100, 101, 69, 110, 99, 111, 100, 101, 69, 114, 114, 111, 114]⟩⟩), (.str ⟨⟨[85, 110, 105, 99, 111, 100, 101, 69, 110, 99, 111, 100, 101, 69, 114, 114, 111, 114]⟩⟩ 148), (.type "UnicodeEncodeError")⟩, ⟨(PyData.keyHash P ⟨⟨[85, 110, 105, 99, 111, 100, 101, 84, 114, 97, 110, 115, 108, 97, 116, 101, 69, 114, 114, 111, 114]⟩⟩), (.str ⟨⟨[85, 110, 105, 99, 111, 100, 101, 84, 114, 97, 110, 115, 108, 97, 116, 101, 69, 114, 114, 111, 114]⟩⟩ 149), (.type "UnicodeTranslateError")⟩, ⟨(PyData.keyHash P ⟨⟨[69, 120, 99, 101, 112, 116, 105, 111, 110, 71, 114, 111, 117, 112]⟩⟩), (.str ⟨⟨[69, 120, 99, 101, 112, 116, 105, 111, 110, 71, 114, 111, 117, 112]⟩⟩ 150), (.type "ExceptionGroup")⟩, ⟨(PyData.keyHash P ⟨⟨[69, 110, 118, 105, 114, 111, 110, 109, 101, 110, 116, 69, 114, 114, 111, 114]⟩⟩), (.str ⟨⟨[69, 110, 118, 105, 114, 111, 110, 109, 101, 110, 116, 69, 114, 114, 111, 114]⟩⟩ 151), (.type "OSError")⟩, ⟨(PyData.keyHash P ⟨⟨[73, 79, 69, 114, 114, 111, 114]⟩⟩), (.str ⟨⟨[73, 79, 69, 114, 114, 111, 114]⟩⟩ 152), (.type "OSError")⟩, ⟨(PyData.keyHash P ⟨⟨[111, 112, 101, 110]⟩⟩), (.str ⟨⟨[111, 112, 101, 110]⟩⟩ 153), (.builtin "open")⟩, ⟨(PyData.keyHash P ⟨⟨[113, 117, 105, 116]⟩⟩), (.str ⟨⟨[113, 117, 105, 116]⟩⟩ 154), (.builtin "builtins.quit#opaque")⟩, ⟨(PyData.keyHash P ⟨⟨[101, 120, 105, 116]⟩⟩), (.str ⟨⟨[101, 120, 105, 116]⟩⟩ 155), (.builtin "builtins.exit#opaque")⟩, ⟨(PyData.keyHash P ⟨⟨[99, 111, 112, 121, 114, 105, 103, 104, 116]⟩⟩), (.str ⟨⟨[99, 111, 112, 121, 114, 105, 103, 104, 116]⟩⟩ 156), (.builtin "builtins.copyright#opaque")⟩, ⟨(PyData.keyHash P ⟨⟨[99, 114, 101, 100, 105, 116, 115]⟩⟩), (.str ⟨⟨[99, 114, 101, 100, 105, 116, 115]⟩⟩ 157), (.builtin "builtins.credits#opaque")⟩, ⟨(PyData.keyHash P ⟨⟨[108, 105, 99, 101, 110, 115, 101]⟩⟩), (.str ⟨⟨[108, 105, 99, 101, 110, 115, 101]⟩⟩ 158), (.builtin "builtins.license#opaque")⟩, ⟨(PyData.keyHash P ⟨⟨[104, 101, 108, 112]⟩⟩), (.str ⟨⟨[104, 101, 108, 112]⟩⟩ 159), (.builtin "builtins.help#opaque")⟩]⟩ 159), ⟨[]⟩⟩
noncomputable def KA : Params → Frag := fun P => [(0, dict0 P)]
/-- two hooks at once -/
noncomputable def hookBoth (H1 H2 : Hook) : Hook where
  α := H1.α × H2.α
  obs := fun s => (H1.obs s, H2.obs s)
  val := fun w => (H1.val w, H2.val w)
  says := fun w h => H1.says w h ∧ H2.says w h
  of := fun w s x => ⟨H1.of w s (Prod.mk.inj x).1, H2.of w s (Prod.mk.inj x).2⟩
  keeps := fun w h h' x k => ⟨H1.keeps w h h' x.1 k, H2.keeps w h h' x.2 k⟩
/-- the top's run in one, from the opening that all such texts share -/
theorem left_of_boot {p q : Program} {loose : List Str} {Xt : Shared → Bool} {α : Type} {Yf : Shared → α} {Ya : World → α} {N : Nat} {g0 : Bool} {m₀ : Nat} {ann : Option Value}
    (e : opening p = plainProg p.main.scope.names) (hN : Nat.ble 600 N = true) (f : ∀ s, fenceModules? p s = some s)
    (size : ∀ P : Params, ((boot_heap P).isNs mainGlobals, (boot_heap P).objs.size, (boot_heap P).nsMap mainGlobals (Str.ofString "__annotations__")) = (true, m₀, ann))
    (run : ∀ (w : World) (os : OsState), (PySem.W.Fast.tw14082659384304107361 PySem.W.Fast.tw14364793385576792824 p w m₀ ann N ⟨boot_heap w.params, Array.mk [], boot_drawn, boot_toks, os⟩ (topStub p)).map (fun s₁ => ((staticsOk (importedModules p.main.body) (boot_heap w.params) s₁.heap && namesBound p s₁.heap && gensDone s₁ && laidKept (boot_heap w.params) s₁.heap),
        openSeen q loose (importedModules p.main.body) Xt g0 s₁, Yf s₁)) = some (true, openGood q loose, Ya w)) : LeftO p q loose Xt Yf Ya N g0 := fun w => by
  obtain ⟨⟨h, gs, d, k, os⟩, e1, e'⟩ := Option.map_eq_some_iff.mp (boot_open e hN f w)
  obtain ⟨rfl, rfl, rfl, rfl⟩ : h = boot_heap w.params ∧ gs = Array.mk [] ∧ d = boot_drawn ∧ k = boot_toks := by simpa using e'
  obtain ⟨z1, z2, z3⟩ : _ ∧ _ ∧ _ := by simpa only [Prod.mk.injEq] using size w.params
  have hr := run w os
  rw [← PySem.W.Fast.te14082659384304107361, ← PySem.W.Fast.te14364793385576792824] at hr
  obtain ⟨s₁, r, hs⟩ := Option.map_eq_some_iff.mp hr
  obtain ⟨l1, l2, l3⟩ : _ ∧ _ ∧ _ := by simpa only [Prod.mk.injEq] using hs
  have t : topFrom treeTable p w N ⟨boot_heap w.params, Array.mk [], boot_drawn, boot_toks, os⟩ = some s₁ := by
    unfold topFrom
    dsimp only
    rw [z1, z2, z3]
    show (match true with | true => (topRun treeTable p w m₀ ann N _ _).bind _ | false => none) = _
    rw [r]
    show (match staticsOk (importedModules p.main.body) (boot_heap w.params) s₁.heap && namesBound p s₁.heap && gensDone s₁ && laidKept (boot_heap w.params) s₁.heap with | true => _ | false => _) = _
    rw [l1]
  unfold openEnds
  rw [e1]
  show (topFrom treeTable p w N _).map _ = _
  rw [t]
  exact congrArg some (Prod.ext l2 l3)
noncomputable def qv : Program := view PySem.Challenge.pw_pq0901_01 [0, 2, 3, 4, 5, 6, 8, 9, 10, 12, 13, 14, 15, 16, 17, 18]
abbrev rv : OpenRow := PySem.Challenge.rw_pq0901_01.row
noncomputable abbrev hkv (K : Params → Frag) (as : List Addr) (e : ∀ P, as = (K P).map (·.1)) (ts : List Addr) : Hook := hookBoth (kmHook K as e ts) (kHook KA [0] (fun _ => by kernel_rfl))
theorem head_of (K : Params → Frag) (as : List Addr) (e : ∀ P, as = (K P).map (·.1)) (ts : List Addr) {d : DefRec} {kwd : List (Str × Expr)}
    (run : ∀ (w : World) (os : OsState), (PySem.W.Fast.tw14082659384304107361 PySem.W.Fast.tw14364793385576792824 rv.prog w 11 (some (.ref 6)) 5576 ⟨boot_heap w.params, Array.mk [], boot_drawn, boot_toks, os⟩ (topStub rv.prog)).map (fun s₁ => ((staticsOk (importedModules rv.prog.main.body) (boot_heap w.params) s₁.heap && namesBound rv.prog s₁.heap && gensDone s₁ && laidKept (boot_heap w.params) s₁.heap),
        openSeen qv [Str.ofString "BoardError", Str.ofString "Plic"] (importedModules rv.prog.main.body) (fun s => xlAt qv [] s && recOk (RowW.records rv.toRowW) s) true s₁, Hook.obs (hkv K as e ts) s₁)) = some (true, openGood qv [Str.ofString "BoardError", Str.ofString "Plic"], Hook.val (hkv K as e ts) w))
    (said : rv.wellSaid = true) (hdef : defOf qv rv.name = some (d, kwd)) (hp : rv.prog.theDef rv.name = some (d.params, d.body, d.scope)) (hk : kwWritten? d.params.kwonlyargs d.params.kw_defaults = some kwd)
    (hw : rv.toRowW.promised) (hc : WalkO qv [Str.ofString "BoardError", Str.ofString "Plic"] (XL qv []) (Hook.says (hkv K as e ts)) rv.toRowW d kwd fun f vs => PySem.call f vs) : rv.Holds :=
  holds_open (q := qv) (Xt := fun s => xlAt qv [] s && recOk (RowW.records rv.toRowW) s)
    (left_of_boot (m₀ := 11) (ann := some (.ref 6)) (by kernel_rfl) (by decide) (fun s => by kernel_rfl) (fun P => by kernel_rfl) run) (Hook.of (hkv K as e ts)) (Hook.keeps (hkv K as e ts))
    (fun s e => xl_of s (Bool.and_eq_true_iff.mp e).1) XL.keeps hdef hp hk (fun s e => recFacts_of (Bool.and_eq_true_iff.mp e).2) (by rfl) said (by decide +kernel) ⟨rfl, rfl, rfl, rfl, rfl, by decide +kernel⟩ hw hc
section
local macro_rules | `(tactic| o_law) => `(tactic| refine holds_law (by decide +kernel) fun said => ?_)
local macro_rules | `(tactic| o_head (kmHook $k $a $e $t)) => `(tactic| refine head_of $k $a $e $t (fun w os => by kernel_rfl) (by assumption) (by rfl) (by rfl) (by rfl) ?hw ?hc)
set_option maxRecDepth 100000 in
set_option maxHeartbeats 8000000 in
open_top hd for PySem.Challenge.rw_pq0901_01
end
end Mine
end
section
open PySem PySem.W PySem.W.X PySem.W.XRun PyProof.Rows PySem.Calls
set_option linter.unusedVariables false
namespace Mine
/-- what the runs know: the walk's own fragment, and the built-in names -/
noncomputable def KB : Params → Frag := fun P => (0, dict0 P) :: hd.heap_1 P
theorem KB_of {P : Params} {h : Heap} (x : (KA P).In h) (y : (hd.heap_1 P).In h) : (KB P).In h := fun a o e => by
  unfold KB at e
  rw [List.lookup_cons] at e
  split at e
  · exact x a o (by unfold KA; rw [List.lookup_cons]; simp_all)
  · exact y a o e
/-- what is so of a call at one Around is so at each that is no deeper -/
theorem wp_weak {α : Type} {M : Model} {A A' : Around} {t : Sem α} {Q : α → Shared → Prop} {E : Value → Shared → Prop} {s : Shared} (h : wpAny M A' t Q E s)
    (hh : A.handled = A'.handled) (hd : A.depth ≤ A'.depth) (hf : A'.frames = none) (hg : A'.guards = none) (hu : A.units ≤ A'.units) : wpAny M A t Q E s := fun Γ p hΓ =>
  h Γ p ⟨hΓ.1.trans hh, Nat.le_trans hΓ.2.1 hd, fun l hl => (by rw [hf] at hl; cases hl), fun l hl => (by rw [hg] at hl; cases hl), Nat.le_trans hΓ.2.2.2.2 hu⟩
/-- a call that may raise, looked at from outside -/
theorem wp_of_attempt {α : Type} {M : Model} {A : Around} {t : Sem α} {Q : α → Shared → Prop} {E E' : Value → Shared → Prop} {s : Shared}
    (h : wpAny M A t.attempt (fun r s' => match r with | .ok a => Q a s' | .error e => E e s') E' s) : wpAny M A t Q E s := fun Γ p hΓ => by
  have := h Γ p hΓ
  rw [Sem.wp_attempt] at this
  exact this
def AX : Around := { handled := none, depth := 400, frames := none, guards := none, units := 400 }
theorem keeps_of {h₀ h : Heap} {news : List (Addr × Obj)} (D : Mem h₀ h [] news) : ∀ b o, h₀.get? b = some o → h.get? b = some o := fun b o e => D.keep b o e (by simp [away])

section
set_option hygiene false in
local macro_rules | `(tactic| x_close) => `(tactic| exact hret _ _)
set_option maxRecDepth 100000 in
set_option maxHeartbeats 0 in
theorem bytes_int_x (prog : Program) (w : World) (h : Heap) (gs : Array GenState) (d : Drawn) (tk : Nat) (os : OsState) (n : Int) (t : Tok) (Q E : Value → Shared → Prop) (h0 : 0 ≤ n) (h1 : n ≤ 100)
   (hret : ∀ tk' t', Q (.bytes (Array.replicate n.toNat 0) t') ⟨h, gs, d, tk', os⟩) :
    wpAny (model prog w) AX (call (.type "bytes") [.int n t]) Q E ⟨h, gs, d, tk, os⟩ := by
  have hsz : (Array.replicate n.toNat (0 : UInt8)).size ≤ 100 := by simp; omega
  x_run
end
/-- an exception of a built-in class, new -/
theorem newExc_of {h₀ h : Heap} {a : Addr} {X : String} {ob : Obj} {t : Value} {news : List (Addr × Obj)} (D : Mem h₀ h [] ((a, ob) :: news)) (hc : ob.cls = .type X) (hd : ob.data = .fields #[t, .none, .none, .none, .bool false, .none]) : Heap.NewExc h₀ h a X :=
  ⟨keeps_of D, (D.nw _ (.head _)).2, ob, t, (D.nw _ (.head _)).1, hc, hd⟩
section
set_option hygiene false in
local macro_rules | `(tactic| x_close) => `(tactic| exact herr _ _ _ (newExc_of D rfl rfl))
set_option maxRecDepth 100000 in
set_option maxHeartbeats 0 in
theorem bytes_none_x (prog : Program) (w : World) (h : Heap) (X : (KB w.params).In h) (gs : Array GenState) (d : Drawn) (tk : Nat) (os : OsState) (Q E : Value → Shared → Prop) 
   (herr : ∀ h' e tk', Heap.NewExc h h' e "TypeError" → E (.ref e) ⟨h', gs, d, tk', os⟩) :
    wpAny (model prog w) AX (call (.type "bytes") [.none]) Q E ⟨h, gs, d, tk, os⟩ := by
  refine wp_of_attempt (E' := fun _ _ => False) ?_
  x_run
theorem bytes_str_x (prog : Program) (w : World) (h : Heap) (X : (KB w.params).In h) (gs : Array GenState) (d : Drawn) (tk : Nat) (os : OsState) (x : Str) (t : Tok) (Q E : Value → Shared → Prop) 
   (herr : ∀ h' e tk', Heap.NewExc h h' e "TypeError" → E (.ref e) ⟨h', gs, d, tk', os⟩) :
    wpAny (model prog w) AX (call (.type "bytes") [.str x t]) Q E ⟨h, gs, d, tk, os⟩ := by
  refine wp_of_attempt (E' := fun _ _ => False) ?_
  x_run
theorem bytes_list1_x (prog : Program) (w : World) (h : Heap) (X : (KB w.params).In h) (gs : Array GenState) (d : Drawn) (tk : Nat) (os : OsState) (l : Addr) (n : Int) (t : Tok) (lc : Nat) (hl : h.get? l = some ⟨.type "list", none, .seq #[.int n t] lc, #[]⟩) (hn : n < 0 ∨ 256 ≤ n) (hb : -1000 < n ∧ n < 1000) (Q E : Value → Shared → Prop) 
   (herr : ∀ h' e tk', Heap.NewExc h h' e "ValueError" → E (.ref e) ⟨h', gs, d, tk', os⟩) :
    wpAny (model prog w) AX (call (.type "bytes") [.ref l]) Q E ⟨h, gs, d, tk, os⟩ := by
  refine wp_of_attempt (E' := fun _ _ => False) ?_
  x_run
theorem bytes_list2_x (prog : Program) (w : World) (h : Heap) (X : (KB w.params).In h) (gs : Array GenState) (d : Drawn) (tk : Nat) (os : OsState) (l : Addr) (n : Int) (t t1 t2 t3 : Tok) (lc : Nat) (hl : h.get? l = some ⟨.type "list", none, .seq #[.int 0 t1, .int 0 t2, .int 0 t3, .int n t] lc, #[]⟩) (hn : n < 0 ∨ 256 ≤ n) (hb : -1000 < n ∧ n < 1000) (Q E : Value → Shared → Prop) 
   (herr : ∀ h' e tk', Heap.NewExc h h' e "ValueError" → E (.ref e) ⟨h', gs, d, tk', os⟩) :
    wpAny (model prog w) AX (call (.type "bytes") [.ref l]) Q E ⟨h, gs, d, tk, os⟩ := by
  refine wp_of_attempt (E' := fun _ _ => False) ?_
  x_run
theorem bytes_list22_x (prog : Program) (w : World) (h : Heap) (X : (KB w.params).In h) (gs : Array GenState) (d : Drawn) (tk : Nat) (os : OsState) (l : Addr) (n : Int) (t t1 : Tok) (lc : Nat) (hl : h.get? l = some ⟨.type "list", none, .seq #[.int 0 t1, .int n t] lc, #[]⟩) (hn : n < 0 ∨ 256 ≤ n) (hb : -1000 < n ∧ n < 1000) (Q E : Value → Shared → Prop) 
   (herr : ∀ h' e tk', Heap.NewExc h h' e "ValueError" → E (.ref e) ⟨h', gs, d, tk', os⟩) :
    wpAny (model prog w) AX (call (.type "bytes") [.ref l]) Q E ⟨h, gs, d, tk, os⟩ := by
  refine wp_of_attempt (E' := fun _ _ => False) ?_
  x_run
theorem bytes_list23_x (prog : Program) (w : World) (h : Heap) (X : (KB w.params).In h) (gs : Array GenState) (d : Drawn) (tk : Nat) (os : OsState) (l : Addr) (n : Int) (t t1 t2 : Tok) (lc : Nat) (hl : h.get? l = some ⟨.type "list", none, .seq #[.int 0 t1, .int 0 t2, .int n t] lc, #[]⟩) (hn : n < 0 ∨ 256 ≤ n) (hb : -1000 < n ∧ n < 1000) (Q E : Value → Shared → Prop) 
   (herr : ∀ h' e tk', Heap.NewExc h h' e "ValueError" → E (.ref e) ⟨h', gs, d, tk', os⟩) :
    wpAny (model prog w) AX (call (.type "bytes") [.ref l]) Q E ⟨h, gs, d, tk, os⟩ := by
  refine wp_of_attempt (E' := fun _ _ => False) ?_
  x_run
end
end Mine
end
section
open PySem PySem.W PySem.W.X PySem.W.XRun PyProof.Rows PySem.Calls
set_option linter.unusedVariables false
namespace Mine
def AXh (v : Option Value) : Around := { handled := v, depth := 400, frames := none, guards := none, units := 400 }
/-- an exception of an own class, new, its attributes in a dict of its own -/
structure MadeX (h h' : Heap) (e : Addr) (C : Addr) : Prop where
  keeps : ∀ b o, h.get? b = some o → h'.get? b = some o
  new : h.get? e = none
  there : ∃ d t, h'.get? e = some { cls := .ref C, dict := some d, data := .fields #[.ref t, .none, .none, .none, .bool false, .none] }
theorem madeX_of {h₀ h : Heap} {a C d t : Addr} {news : List (Addr × Obj)} (D : Mem h₀ h [] news) (i : Nat)
    (hi : news[i]? = some (a, { cls := .ref C, dict := some d, data := .fields #[.ref t, .none, .none, .none, .bool false, .none] })) : MadeX h₀ h a C :=
  have hm := List.mem_of_getElem? hi
  ⟨keeps_of D, (D.nw _ hm).2, d, t, (D.nw _ hm).1⟩
section
set_option hygiene false in
local macro_rules | `(tactic| x_close) => `(tactic| exact hret _ _ _ (madeX_of D 3 rfl))
set_option maxRecDepth 100000 in
set_option maxHeartbeats 0 in
theorem mk_disk_x (prog : Program) (w : World) (h : Heap) (X : (KB w.params).In h) (gs : Array GenState) (d : Drawn) (tk : Nat) (os : OsState) (hv : Option Value) (x : Str) (t : Tok) (Q E : Value → Shared → Prop)
   (hret : ∀ h' e tk', MadeX h h' e 83 → Q (.ref e) ⟨h', gs, d, tk', os⟩) :
    wpAny (model prog w) (AXh hv) (call (.ref 83) [.str x t]) Q E ⟨h, gs, d, tk, os⟩ := by
  x_run
theorem mk_arg_x (prog : Program) (w : World) (h : Heap) (X : (KB w.params).In h) (gs : Array GenState) (d : Drawn) (tk : Nat) (os : OsState) (hv : Option Value) (x : Str) (t : Tok) (Q E : Value → Shared → Prop)
   (hret : ∀ h' e tk', MadeX h h' e 52 → Q (.ref e) ⟨h', gs, d, tk', os⟩) :
    wpAny (model prog w) (AXh hv) (call (.ref 52) [.str x t]) Q E ⟨h, gs, d, tk, os⟩ := by
  x_run
end
section
set_option hygiene false in
local macro_rules | `(tactic| x_close) => `(tactic| (first | exact hret _ _ _ (madeX_of D 3 rfl) | exact hret _ _ _ (madeX_of D 4 rfl) | exact hret _ _ _ (madeX_of D 5 rfl)))
set_option maxRecDepth 100000 in
set_option maxHeartbeats 0 in
theorem mk_crash_x (prog : Program) (w : World) (h : Heap) (X : (KB w.params).In h) (gs : Array GenState) (d : Drawn) (tk : Nat) (os : OsState) (hv : Option Value) (n : Int) (h0 : 0 ≤ n) (h1 : n < 3) (t : Tok) (Q E : Value → Shared → Prop)
   (hret : ∀ h' e tk', MadeX h h' e 102 → Q (.ref e) ⟨h', gs, d, tk', os⟩) :
    wpAny (model prog w) (AXh hv) (call (.ref 102) [.int n t]) Q E ⟨h, gs, d, tk, os⟩ := by
  have hn : n = 0 ∨ n = 1 ∨ n = 2 := by omega
  rcases hn with rfl | rfl | rfl
  · x_run
  · x_run
  · x_run
end
end Mine
end
section
open PySem PySem.W PyProof.Rows PySem.Calls
set_option linter.unusedVariables false
namespace Mine
section
variable {a k M N p q r : Nat}
theorem rm0 (h : a + k < M) (c : M ≤ N + k) : a < N := by omega
theorem rm1 (h : a + k < M) (c : M + p ≤ N + k) : a + p < N := by omega
theorem rm2 (h : a + k < M) (c : M + (p + q) ≤ N + k) : a + p + q < N := by omega
theorem rm3 (h : a + k < M) (c : M + (p + q + r) ≤ N + k) : a + p + q + r < N := by omega
theorem rn0 (h : a + k < M) (c : M ≤ N + k) : a ≤ N := by omega
theorem rn1 (h : a + k < M) (c : M + p ≤ N + k) : a + p ≤ N := by omega
theorem rn2 (h : a + k < M) (c : M + (p + q) ≤ N + k) : a + p + q ≤ N := by omega
theorem rn3 (h : a + k < M) (c : M + (p + q + r) ≤ N + k) : a + p + q + r ≤ N := by omega
end
/-- all those addresses are below d -/
def AL (d : Nat) (l : List Nat) : Prop := ∀ b ∈ l, b < d
theorem AL.of {d : Nat} {l : List (Addr × Obj)} (h : ∀ p ∈ l, @LT.lt Nat _ p.1 d) {r : List Nat} (e : l.map (fun p => p.1) = r) : AL d r := fun b hb => by
  subst e
  obtain ⟨p, hp, rfl⟩ := List.mem_map.mp hb
  exact h p hp
/-- the same, as a conjunction that omega sees -/
def AllL (d : Nat) : List Nat → Prop
  | [] => True
  | b :: r => b < d ∧ AllL d r
theorem AL.conj {d : Nat} : ∀ {l : List Nat}, AL d l → AllL d l
  | [], _ => trivial
  | _ :: _, h => ⟨h _ (.head _), AL.conj fun b hb => h b (.tail _ hb)⟩
theorem AL.ofAll {d : Nat} : ∀ {l : List (Addr × Obj)}, AllLt d l → AL d (l.map fun p => p.1)
  | [], _ => fun _ h => nomatch h
  | _ :: _, h => fun b hb => by
    rcases List.mem_cons.mp hb with rfl | hb
    · exact h.1
    · exact AL.ofAll h.2 b hb
theorem step_nonneg {k k' : Int} (h : k' = k + 1) (h0 : 0 ≤ k) : 0 ≤ k' := by omega
theorem AL.step {d x : Nat} {l : List Nat} (h : AL d l) (q : d < x) : AL x (d :: l) := fun b hb => by
  rcases List.mem_cons.mp hb with rfl | hb
  · exact q
  · exact Nat.lt_trans (h b hb) q
theorem AL.cells {L d : Nat} {l : List Nat} (h : AL L l) (c : L + 3 < d) : AL d ((L + 1 + 1 + 1) :: (L + 1 + 1) :: (L + 1) :: L :: l) := fun b hb => by
  have hb' : b = L + 1 + 1 + 1 ∨ b = L + 1 + 1 ∨ b = L + 1 ∨ b = L ∨ b ∈ l := by simpa using hb
  rcases hb' with rfl | rfl | rfl | rfl | hb'
  · omega
  · omega
  · omega
  · omega
  · have := h b hb'; omega
theorem AL.nil {d : Nat} : AL d [] := fun _ h => nomatch h
theorem AL.lt {a b : Nat} {l : List Nat} (h : AL a l) (m : b ∈ l) : b < a := h b m
theorem AL.en {a b : Nat} {l : List Nat} (h : AL a l) (m : b ∈ l) : b ≠ a := Nat.ne_of_lt (h b m)
theorem AL.ne {a b : Nat} {l : List Nat} (h : AL a l) (m : b ∈ l) : a ≠ b := Nat.ne_of_gt (h b m)
theorem AL.en1 {a b : Nat} {l : List Nat} (h : AL a l) (m : b ∈ l) : b ≠ a + 1 := by have := h b m; omega
theorem AL.en2 {a b : Nat} {l : List Nat} (h : AL a l) (m : b ∈ l) : b ≠ a + 1 + 1 := by have := h b m; omega
theorem AL.en3 {a b : Nat} {l : List Nat} (h : AL a l) (m : b ∈ l) : b ≠ a + 1 + 1 + 1 := by have := h b m; omega
theorem AL.ne1 {a b : Nat} {l : List Nat} (h : AL a l) (m : b ∈ l) : a + 1 ≠ b := by have := h b m; omega
theorem AL.ne2 {a b : Nat} {l : List Nat} (h : AL a l) (m : b ∈ l) : a + 1 + 1 ≠ b := by have := h b m; omega
theorem AL.ne3 {a b : Nat} {l : List Nat} (h : AL a l) (m : b ∈ l) : a + 1 + 1 + 1 ≠ b := by have := h b m; omega
theorem AL.all {d : Nat} {rest : List (Addr × Obj)} {l : List Nat} (h : AL d l) (e : rest.map (fun p => p.1) = l) : ∀ p ∈ rest, p.1 ≠ d := fun p hp => by
  subst e
  exact Nat.ne_of_lt (h _ (List.mem_map.mpr ⟨p, hp, rfl⟩))
theorem AL.all_drop {d : Nat} {L : List Nat} {l : List (Addr × Obj)} (k : Nat) (h : AL d L) (e : L.drop k = l.map (fun p => p.1)) : AllLt d l :=
  allLt_of fun p hp => h p.1 (List.mem_of_mem_drop (i := k) (e ▸ List.mem_map.mpr ⟨p, hp, rfl⟩))
section
variable {α : Type} {b w x y z : α} {r : List α}
theorem m0 : b ∈ b :: r := .head _
theorem m1 : b ∈ x :: b :: r := .tail _ (.head _)
theorem m2 : b ∈ x :: y :: b :: r := .tail _ (.tail _ (.head _))
theorem m3 : b ∈ x :: y :: z :: b :: r := .tail _ (.tail _ (.tail _ (.head _)))
theorem m4 (h : b ∈ r) : b ∈ w :: x :: y :: z :: r := .tail _ (.tail _ (.tail _ (.tail _ h)))
end
/-- the number of tokens drawn so far is forgotten at a statement's start -/
theorem forget_toks {M : Model} {A : Around} {st : Stmt} {r : List Stmt} {env : Env} {Q : Flow → Shared → Prop} {E : Value → Shared → Prop} {h : Heap} {gs : Array GenState} {d : Drawn} {tk n : Nat} {os : OsState} (k : ∀ t, wpAny M A (execs (st :: r) env) Q E ⟨h, gs, d, t, os⟩) : wpAny M A (execs (st :: r) env) Q E ⟨h, gs, d, tk + n, os⟩ := k _
abbrev frs (l : List Env) : List Addr := l.filterMap (·.frame)
section
variable {M : Model} {A : Around} {E : Value → Shared → Prop} {s : Shared} {base : Heap} {env : Env} {outer : List Env} {L e : Addr} {ob : Obj} {t0 t2 t3 t4 t5 : Value} {Q : Unit → Shared → Prop}
theorem look_entry {X : Array Value} (hX3 : 3 < X.size) (hXs : sizeOk (.fields X)) (he : s.heap.get? e = some ob) (hd : ob.data = .fields #[t0, .none, t2, t3, t4, t5])
    (h : ∀ h' T oT ts, (∀ b o, s.heap.get? b = some o → b ≠ e → h'.get? b = some o) →
      h'.get? e = some { ob with data := .fields #[t0, .ref T, t2, t3, t4, t5] } → T ≠ e → T = s.heap.objs.size → h'.get? T = some oT → oT.data = .fields ts → ts[3]? = some .none → Q () { s with heap := h' }) :
    wpAny M A (do let b ← newObj (.type "traceback") (.fields X); setField (.ref e) 1 b) (fun _ s₂ => wpAny M A (setFlight (.ref e) none) Q E s₂) E s := by
  refine wpAny_bind (wpAny_newObj_type ?_ hXs)
  have he₂ := Heap.get?_push_of_some (h := s.heap) { cls := .type "traceback", dict := none, data := .fields X } he
  refine wpAny_setField he₂ hd (by simp) ?_
  have hTe : s.heap.objs.size ≠ e := Nat.ne_of_gt (Heap.lt_size he)
  have hd₃ := Obj.data_mapFields hd (·.setIfInBounds 1 (Value.ref s.heap.objs.size))
  have he₃ := Heap.get?_update_self (Obj.mapFields (·.setIfInBounds 1 (Value.ref s.heap.objs.size))) he₂ (Obj.isFreed_of_fields hd₃)
  have hT₃ := (Heap.get?_update_other (s.heap.push { cls := .type "traceback", dict := none, data := .fields X }) (Obj.mapFields (·.setIfInBounds 1 (Value.ref s.heap.objs.size))) (Ne.symm hTe)).trans (Heap.get?_push_size s.heap rfl)
  unfold setFlight
  refine wpAny_bind (wpAny_field (x := .ref s.heap.objs.size) he₃ hd₃ rfl ?_)
  rw [if_pos (show (Value.ref s.heap.objs.size != Value.none) = true from by simp)]
  refine wpAny_setField hT₃ rfl hX3 ?_
  refine h _ s.heap.objs.size _ _ (fun b o hb hbe => ?_) ?_ hTe rfl (Heap.get?_update_self _ hT₃ rfl) (Obj.data_mapFields rfl _) (by simp [hX3])
  · rw [Heap.get?_update_other _ _ (Nat.ne_of_gt (Heap.lt_size hb)), Heap.get?_update_other _ _ (Ne.symm hbe)]
    exact Heap.get?_push_of_some _ hb
  · rw [Heap.get?_update_other _ _ hTe, he₃]
    obtain ⟨c, dct, dt, sl⟩ := ob
    obtain rfl : dt = _ := hd
    rfl
/-- a frame's own look at an exception that has no traceback yet, and the flight taken from it -/
theorem look_fresh (hfr : A.frames = some (env :: outer)) (hl : s.heap.FunFrames base (env :: outer)) (hf : env.frame = some L)
    (he : s.heap.get? e = some ob) (hd : ob.data = .fields #[t0, .none, t2, t3, t4, t5])
    (h : ∀ h' T oT ts, (∀ b o, s.heap.get? b = some o → b ∉ frs (env :: outer) → b ≠ e → h'.get? b = some o) → s.heap.UpToSlots h' →
      h'.get? e = some { ob with data := .fields #[t0, .ref T, t2, t3, t4, t5] } → T ≠ e → s.heap.get? T = none → h'.get? T = some oT → oT.data = .fields ts → ts[3]? = some .none → Q () { s with heap := h' }) :
    wpAny M A (noteFrame (.ref e) env) (fun _ s₂ => wpAny M A (setFlight (.ref e) none) Q E s₂) E s := by
  have hene : e ∉ frs (env :: outer) := fun hm => by
    obtain ⟨_, o, ho, hn⟩ := hl.mem hm
    rw [he] at ho; cases ho; exact hn _ hd
  unfold noteFrame
  simp only [hf]
  refine wpAny_bind (wpAny_field (x := .none) he hd rfl ?_)
  rw [if_neg (by decide)]
  refine wpAny_bind (wpAny_frameOf_fun hfr hl hf fun h₁ hs₁ => ?_)
  refine wpAny_bind (wpAny_entryPlaceOf fun pl hpl => ?_)
  unfold EntryCells.newEntry newFields
  have he₁ : h₁.get? e = some ob := (hs₁.2.1 e hene).trans he
  refine look_entry (s := { s with heap := h₁ }) (by simp) (hpl.sizeOk5 _ _ _ _ _) he₁ hd fun h' T oT ts k1 k2 k3 k4 k5 k6 k7 => ?_
  refine h h' T oT ts (fun b o hb hn hbe => k1 b o ((hs₁.2.1 b hn).trans hb) hbe) (fun b o hb hnf => ?_) k2 k3 ?_ k5 k6 k7
  · obtain ⟨sl, h2⟩ := hs₁.2.2 b o hb
    exact ⟨sl, k1 b _ h2 (fun q => by rw [q, he] at hb; cases hb; exact hnf _ hd)⟩
  · refine Heap.get?_none_of_le (Nat.le_of_eq ?_)
    rw [k4]
    exact hs₁.1.symm
end
end Mine
end
section
open PySem PySem.W PyProof.Rows PySem.Calls
set_option linter.unusedVariables false
set_option maxRecDepth 100000
namespace Mine
def IsExc (h : Heap) (C : Addr) : Prop := ∃ nm q N bs bm hdct sn sub ab col dd k0 k1 k2 k3 k5 newId, h.get? C = some (excClassObj nm q C N bs bm hdct sn sub ab col dd k0 k1 k2 k3 k5 newId) ∧ bm.contains (.type "BaseException") = true
section
variable {M : Model} {A : Around} {E : Value → Shared → Prop} {s : Shared} {env : Env} {C d e T e1 : Addr} {ob oT : Obj} {vs ts : Array Value} {t : Value}
theorem land {Q : Unit → Shared → Prop} (he : s.heap.get? e = some ob) (hd : ob.data = .fields vs) (h1 : vs[1]? = some (.ref T)) (hT : s.heap.get? T = some oT) (hdT : oT.data = .fields ts) (h3 : ts[3]? = some .none)
    (h : ∀ h', (∀ b o, b ≠ T → s.heap.get? b = some o → h'.get? b = some o) → (∃ oT' ts', h'.get? T = some oT' ∧ oT'.data = .fields ts' ∧ ts'[3]? = some .none) → Q () { s with heap := h' }) :
    wpAny M A (setFlight (.ref e) none) Q E s := by
  have h3' : 3 < ts.size := (Array.getElem?_eq_some_iff.mp h3).1
  unfold setFlight
  refine wpAny_bind (wpAny_field (x := .ref T) he hd h1 ?_)
  rw [if_pos (show (Value.ref T != Value.none) = true from by simp)]
  refine wpAny_setField hT hdT h3' ?_
  exact h _ (fun b o hb hq => (Heap.get?_update_other _ _ (Ne.symm hb)).trans hq) ⟨_, _, Heap.get?_update_self _ hT (Obj.isFreed_of_fields (Obj.data_mapFields hdT _)), Obj.data_mapFields hdT _, by simp [h3']⟩

theorem raiseStmt_made {x : Sem Value} {Q : Flow → Shared → Prop} (hh : A.handled = none)
    (h : wpAny M A x (fun v s₁ => ∃ e C d t, v = .ref e ∧ IsExc s₁.heap C ∧ s₁.heap.get? e = some { cls := .ref C, dict := some d, data := .fields #[t, .none, .none, .none, .bool false, .none] } ∧ E (.ref e) s₁) E s) :
    wpAny M A (raiseStmt env (some x) none) Q E s := by
  unfold raiseStmt
  refine wpAny_bind (wpAny_mono h (fun v s₁ h₁ => ?_) fun _ _ x => x)
  obtain ⟨e, C, d, t, rfl, ⟨nm, q, N, bs, bm, hdct, sn, sub, ab, col, dd, k0, k1, k2, k3, k5, newId, hC, hbase⟩, he, hE⟩ := h₁
  have hcB : (Value.ref C :: bm).contains (.type "BaseException") = true := by rw [List.contains_cons, hbase, Bool.or_true]
  obtain ⟨hp, g, d, tk, os⟩ := s₁
  repeat (first | with_reducible refine wpAny_loadPart_at he ?_ | with_reducible refine wpAny_loadPart_at hC ?_ | (with_reducible refine wpAny_isSubtype_exc hC ?_; rw [hcB]) | wp_step)
  exact wpAny_raiseNew_none hh hE
end
end Mine
end
section
open PySem PySem.W PyProof.Rows PySem.Calls
set_option linter.unusedVariables false
set_option maxRecDepth 100000
namespace Mine
section
variable {prog : Program} {w : World} {A : Around} {E : Value → Shared → Prop} {s : Shared} {env : Env} {C d e T e1 : Addr} {ob oT : Obj} {vs ts : Array Value} {t : Value}
theorem unchain_id : entryFor table "proto.unchain" = some Builtin.«proto.unchain» := by first | exact entryFor_of_fast (by kernel_rfl) | exact entryFor_of_tree (by kernel_rfl)
theorem raiseNew_over {α : Type} {Q : α → Shared → Prop} {ob1 : Obj} {vs1 vs2 : Array Value} (hh : A.handled = some (.ref e1)) (hne : e ≠ e1) (h1 : s.heap.get? e1 = some ob1) (hd1 : ob1.data = .fields vs1) (hc1 : vs1[2]? = some .none)
    (he : s.heap.get? e = some ob) (hd : ob.data = .fields vs2) (hz : 2 < vs2.size) (hE : E (.ref e) { s with heap := s.heap.update e (Obj.mapFields (·.setIfInBounds 2 (.ref e1))) }) :
    wpAny (model prog w) A (raiseNew (.ref e) : Sem α) Q E s := by
  unfold raiseNew
  refine wpAny_bind (wpAny_handled ?_)
  rw [hh]
  dsimp only
  rw [if_pos (by simpa using fun q => hne q.symm)]
  refine wpAny_bind (wpAny_holding (wpAny_runValue (codeAny_builtin unchain_id ?_)))
  unfold Builtin.«proto.unchain»
  dsimp only
  refine wpAny_bind (wpAny_field (x := .none) h1 hd1 hc1 ?_)
  rw [if_pos (show (Value.none == Value.none) = true from rfl)]
  refine wpAny_pure ?_
  refine wpAny_bind ?_
  show wpAny _ _ (setField (.ref e) 2 (.ref e1)) _ _ _
  exact wpAny_setField he hd hz (wpAny_throw hE)
theorem raiseStmt_from {x c : Sem Value} {Q : Flow → Shared → Prop} (hh : A.handled = some (.ref e1)) (hc : ∀ s' (P : Value → Shared → Prop) (E' : Value → Shared → Prop), P .none s' → wpAny (model prog w) A c P E' s')
    (h : wpAny (model prog w) A x (fun v s₁ => ∃ e C d t, v = .ref e ∧ IsExc s₁.heap C ∧ s₁.heap.get? e = some { cls := .ref C, dict := some d, data := .fields #[t, .none, .none, .none, .bool false, .none] } ∧ e ≠ e1 ∧
       (∃ ob1 vs1, s₁.heap.get? e1 = some ob1 ∧ ob1.data = .fields vs1 ∧ vs1[2]? = some .none) ∧
       ∀ h', (∀ b o, b ≠ e → s₁.heap.get? b = some o → h'.get? b = some o) → h'.get? e = some { cls := .ref C, dict := some d, data := .fields #[t, .none, .ref e1, .none, .bool true, .none] } → E (.ref e) { s₁ with heap := h' }) E s) :
    wpAny (model prog w) A (raiseStmt env (some x) (some c)) Q E s := by
  unfold raiseStmt
  refine wpAny_bind (wpAny_mono h (fun v s₁ h₁ => ?_) fun _ _ x => x)
  obtain ⟨e, C, d, t, rfl, ⟨nm, q, N, bs, bm, hdct, sn, sub, ab, col, dd, k0, k1, k2, k3, k5, newId, hC, hbase⟩, he, hne, ⟨ob1, vs1, hb1, hbd, hb2⟩, hE⟩ := h₁
  have hcB : (Value.ref C :: bm).contains (.type "BaseException") = true := by rw [List.contains_cons, hbase, Bool.or_true]
  obtain ⟨hp, g, dw, tk, os⟩ := s₁
  refine wpAny_bind (wpAny_holding (hc _ _ _ (wpAny_bind (wpAny_pure ?_))))
  dsimp only [Option.toList]
  repeat (first | with_reducible refine wpAny_loadPart_at he ?_ | with_reducible refine wpAny_loadPart_at hC ?_ | (with_reducible refine wpAny_isSubtype_exc hC ?_; rw [hcB]) | wp_step)
  have hCe : C ≠ e := fun q => by
    have he' : hp.get? e = _ := he
    have hC' : hp.get? C = _ := hC
    rw [q, he'] at hC'; cases hC'
  have he1 := Heap.get?_update_self (Obj.mapFields fun x => x.setIfInBounds 3 Value.none) he rfl
  have he2 := Heap.get?_update_self (Obj.mapFields fun x => x.setIfInBounds 4 (Value.bool true)) he1 rfl
  have hC2 : ((hp.update e (Obj.mapFields fun x => x.setIfInBounds 3 Value.none)).update e (Obj.mapFields fun x => x.setIfInBounds 4 (Value.bool true))).get? C = _ :=
    (Heap.get?_update_other _ _ (Ne.symm hCe)).trans ((Heap.get?_update_other _ _ (Ne.symm hCe)).trans hC)
  refine wpAny_loadPart_at hC2 (wpAny_pure ?_)
  rw [if_pos (by rfl)]
  refine wpAny_pure (wpAny_bind ?_)
  unfold setFlight
  refine wpAny_bind (wpAny_field (x := .none) he2 rfl rfl ?_)
  rw [if_neg (by decide)]
  refine wpAny_pure ?_
  have hb1' : ((hp.update e (Obj.mapFields fun x => x.setIfInBounds 3 Value.none)).update e (Obj.mapFields fun x => x.setIfInBounds 4 (Value.bool true))).get? e1 = _ :=
    (Heap.get?_update_other _ _ hne).trans ((Heap.get?_update_other _ _ hne).trans hb1)
  refine raiseNew_over hh hne hb1' hbd hb2 he2 rfl (by simp) (hE _ (fun b o hb hq => ?_) ?_)
  · rw [Heap.get?_update_other _ _ (Ne.symm hb), Heap.get?_update_other _ _ (Ne.symm hb), Heap.get?_update_other _ _ (Ne.symm hb)]
    exact hq
  · exact Heap.get?_update_self _ he2 rfl
end
end Mine
end
section
open PySem PySem.W PyProof.Rows PySem.Calls
set_option linter.unusedVariables false
set_option maxRecDepth 100000
namespace Mine
section
variable {M : Model} {A : Around} {E : Value → Shared → Prop} {s' : Shared} {base g h : Heap} {outer : List Env} {L a e : Addr} {m : Str → Option Value} {name : Str} {scope : Scope} {cd : Value} {Q : Unit → Shared → Prop} {news : List (Addr × Obj)}
/-- what stood before a raise, less the frames -/
abbrev but (h : Heap) (l : List Env) : Heap := hideAll h (frs l)
theorem fun_mem {h base : Heap} {l : List Env} (hl : h.FunFrames base l) : ∀ env ∈ l, ∀ b, env.frame = some b → b ∈ frs l := fun env he b hb => List.mem_filterMap.mpr ⟨env, he, hb⟩
theorem fun_up {h h' base : Heap} {l : List Env} (hl : h.FunFrames base l) (hu : h.UpToSlots h') : h'.FunFrames base l := hl.of_keeps fun b o hb hn => by
  obtain ⟨sl, hs⟩ := hu b o hb hn
  exact ⟨_, hs, rfl⟩
theorem but_stays {l : List Env} (hb : base.StaysIn h) (hl : h.FunFrames base l) : base.StaysIn (but h l) := fun b o q => hideAll_get _ (hb b o q) fun hm => by
  rw [(hl.mem hm).1] at q; cases q
theorem but_ground (F : Fr g L h m) : ∀ b o, g.get? b = some o → b ∉ frs outer → (but h (envOf name scope L a cd :: outer)).get? b = some o := fun b o q nm => hideAll_get _ (F.keep b o q) fun hm => by
  rcases kts_mem hm with z | z
  · rw [z, kts_self F] at q; cases q
  · exact nm z
theorem but_news (K : Below A base outer g) (F : Fr g L h m) (N : News g L h news) : ∀ q ∈ news, (but h (envOf name scope L a cd :: outer)).get? q.1 = some q.2 ∧ g.get? q.1 = none ∧ base.get? q.1 = none := fun q hq => by
  refine ⟨hideAll_get _ (N q hq).1 fun hm => ?_, (N q hq).2.2, fresh_of_stays K.stays (N q hq).2.2⟩
  rcases kts_mem hm with z | z
  · exact (N q hq).2.1 z
  · obtain ⟨_, o, ho, _⟩ := K.frames.mem z
    rw [(N q hq).2.2] at ho; cases ho
theorem but_none {l : List Env} (hn : h.get? e = none) : (but h l).get? e = none := by
  cases q : (but h l).get? e with
  | none => rfl
  | some o => have := of_hideAll _ q; rw [hn] at this; cases this
theorem but_in {l : List Env} {h' : Heap} (k : ∀ b o, h.get? b = some o → b ∉ frs l → h'.get? b = some o) : (but h l).StaysIn h' := fun b o q => k b o (of_hideAll _ q) fun hm => by
  have := hideAll_none (h := h) (frs l) hm
  rw [this] at q; cases q
/-- a raise leaves the first frame -/
theorem leave_first {ob : Obj} {vs : Array Value} {a0 cls : Value} (K : Below A base outer g) (F : Fr g L h m) (N : News g L h news)
    (k : ∀ b o, h.get? b = some o → b ∉ frs (envOf name scope L a cd :: outer) → s'.heap.get? b = some o) (hu : h.UpToSlots s'.heap)
    (hn : h.get? e = none) (he : s'.heap.get? e = some ob) (hc : ob.cls = cls) (hd : ob.data = .fields vs) (h1 : vs[1]? = some .none) (h0 : vs[0]? = some a0)
    (hQ : ∀ h', RaisedSN base g outer e cls news h' → RaisedN base outer e cls news h' → g.UpToSlots h' → Q () { s' with heap := h' }) (hk : scope.kind = .function := by rfl) :
    wpAny M (A.deeper (envOf name scope L a cd)) (leaving (envOf name scope L a cd) (.ref e)) Q E s' := by
  subst hc
  have K' := K.push (name := name) (a := a) (cd := cd) F hk
  have ff : s'.heap.FunFrames (but h (envOf name scope L a cd :: outer)) (envOf name scope L a cd :: outer) := fun_up (funFrames_hide K'.frames (fun_mem K'.frames)) hu
  refine wpAny_leaving_firstW (a0 := a0) (base := but h (envOf name scope L a cd :: outer)) K'.stack ff rfl he (but_in k) (but_none hn) hd h1 h0 fun h' hL => ?_
  obtain ⟨k1, ⟨_, _, k2⟩, k3, k4⟩ := hL
  have R : RaisedSN base g outer e ob.cls news h' := ⟨_, a0, but_stays K'.stays K'.frames, but_ground F, but_news K F N, k1, but_none hn, k2, k3⟩
  exact hQ h' R R.toN (((Heap.UpToSlots.of_keeps F.keep).trans hu).trans k4)
end
/-- what is so of the heap behind a catch: what stood, less the frames; the frames up to their slots; the exception, its context none -/
structure CaughtX (base h h' : Heap) (l : List Env) (e : Addr) : Prop where
  keeps : ∀ b o, h.get? b = some o → b ∉ frs l → h'.get? b = some o
  up : h.UpToSlots h'
  exc : ∃ ob1 vs1, h'.get? e = some ob1 ∧ ob1.data = .fields vs1 ∧ vs1[2]? = some .none
  new : h.get? e = none
  frames : h.FunFrames base l
section
variable {prog : Program} {w : World} {A₀ : Around} {E : Value → Shared → Prop} {s' : Shared} {base g h : Heap} {outer : List Env} {L a e : Addr} {m : Str → Option Value} {name : Str} {scope : Scope} {cd : Value}
  {b₀ : Stmt} {suite : List Stmt} {pos : Pos} {rest : List ExceptHandler} {Q : Flow → Shared → Prop} {news : List (Addr × Obj)} {KF : Frag} {tt : Expr} {X : String}
  {p : Program} {loose : List Str} {mean : ExcName → Option Value} {mg mb : Str → Option Value}
/-- a built-in exception is caught in the very frame that it comes up in -/
theorem catch_fresh (K : Below A₀ base outer g) (F : Fr g L h m) (hx : Heap.NewExc h s'.heap e X) (XB : KF.In base) (TB : Top p loose mean mg mb base)
    (T : KtsTest prog w KF p loose mg mb name scope L a cd (.type X) tt true)
    (k : ∀ h' g', Fr g' L h' m → Below A₀ base outer g' → CaughtX base h h' (envOf name scope L a cd :: outer) e →
      wpAny (model prog w) ((A₀.deeper (envOf name scope L a cd)).mark (some (.ref e))) (execs (b₀ :: suite) (envOf name scope L a cd)) Q E { s' with heap := h' })
    (hk : scope.kind = .function := by rfl)
    (hE : PassesOwnAt (model prog w) ((A₀.deeper (envOf name scope L a cd)).mark (some (.ref e))) (A₀.deeper (envOf name scope L a cd)) (envOf name scope L a cd) E := by passes_own) :
    wpAny (model prog w) (A₀.deeper (envOf name scope L a cd)) (noteFrame (.ref e) (envOf name scope L a cd))
      (fun _ s₂ => wpAny (model prog w) (A₀.deeper (envOf name scope L a cd)) (setFlight (.ref e) none) (fun _ s₃ =>
        wpAny (model prog w) (A₀.deeper (envOf name scope L a cd)) (handleBy (.ref e) (envOf name scope L a cd) (.ExceptHandler (some tt) none (b₀ :: suite) pos :: rest)) Q E s₃) E s₂) E s' := by
  have K' := K.push (name := name) (a := a) (cd := cd) F hk
  obtain ⟨ob, t0, he, hc, hd⟩ := hx.there
  have hu1 := Heap.UpToSlots.of_keeps hx.keeps
  refine look_fresh K'.stack (fun_up K'.frames hu1) rfl he hd fun h₁ T₁ oT ts k1 u1 e1 n1 n2 hT hdT h3 => ?_
  have ke : ∀ b o, h.get? b = some o → b ≠ e := fun b o q z => by rw [z, hx.new] at q; cases q
  have k1' : ∀ b o, h.get? b = some o → b ∉ frs (envOf name scope L a cd :: outer) → h₁.get? b = some o := fun b o q hn => k1 b o (hx.keeps b o q) hn (ke b o q)
  have u1' : h.UpToSlots h₁ := hu1.trans u1
  obtain ⟨g₅, T₅, F₅, K₅⟩ := kts_ground K F (fun b o q nm => hideAll_get (frs (envOf name scope L a cd :: outer)) q nm) (but_in k1') u1'
  rw [hc] at e1
  have LT : Looks (model prog w) h₁ (typeOf (.ref e)) (.type X) := (Looks.ld e1).andThen .now
  refine wpAny_handleBy_cons (codeAny_handlers_test (T _ _ _ _ g₅ e m F₅ (XB.keeps K₅.stays) (topRead_of (TB.keeps K₅.stays)) LT fun h₂ kp => ?_)) (by intro q; cases q)
  refine codeAny_handlers_suite ?_
  refine land (s := { s' with heap := h₂ }) (kp _ _ e1) rfl rfl (kp _ _ hT) hdT h3 fun h₃ k3 _ => ?_
  have nT : h.get? T₁ = none := by
    cases q : h.get? T₁ with
    | none => rfl
    | some o => rw [hx.keeps _ _ q] at n2; cases n2
  have k3' : ∀ b o, h.get? b = some o → b ∉ frs (envOf name scope L a cd :: outer) → h₃.get? b = some o := fun b o q hn =>
    k3 b o (fun z => by rw [z, nT] at q; cases q) (kp _ _ (k1' b o q hn))
  have u3' : h.UpToSlots h₃ := fun b o q hn => by
    obtain ⟨sl, hs⟩ := u1' b o q hn
    exact ⟨sl, k3 b _ (fun z => by rw [z, nT] at q; cases q) (kp _ _ hs)⟩
  obtain ⟨g₆, T₆, F₆, K₆⟩ := kts_ground K F (fun b o q nm => hideAll_get (frs (envOf name scope L a cd :: outer)) q nm) (but_in k3') u3'
  exact wpAny_passesOwnAt hE (k h₃ g₆ F₆ K₆ ⟨k3', u3', ⟨_, _, k3 e _ (Ne.symm n1) (kp _ _ e1), rfl, rfl⟩, hx.new, K'.frames⟩)
end
end Mine
end
section
open PySem PySem.W PyProof.Rows PySem.Calls
set_option linter.unusedVariables false
set_option maxRecDepth 100000
namespace Mine
noncomputable abbrev LO : List Str := looseW qv [Str.ofString "BoardError", Str.ofString "Plic"] ++
          List.map (fun x => x.name) (recsOf qv) ++
        List.map (fun x => x.fst) (litsOf qv) ++
      List.map (fun x => x.name)
        (clssOf qv (looseW qv [Str.ofString "BoardError", Str.ofString "Plic"]))
def KX (w : World) (h : Heap) : Prop := (KB w.params).In h
theorem KX.keeps {w : World} {h h' : Heap} (x : KX w h) (k : ∀ b o, h.get? b = some o → h'.get? b = some o) : KX w h' := fun a o e => k _ _ (x a o e)
theorem kts83 (P : Params) : ktsIn (hd.heap_1 P) 83 "BaseException" = true := by kernel_rfl
theorem kts102 (P : Params) : ktsIn (hd.heap_1 P) 102 "BaseException" = true := by kernel_rfl
theorem kts52 (P : Params) : ktsIn (hd.heap_1 P) 52 "BaseException" = true := by kernel_rfl
theorem isExc_of {K : Frag} {h : Heap} {C : Addr} (X : K.In h) (q : ktsIn K C "BaseException" = true) : IsExc h C := by
  obtain ⟨nm, qn, N, bs, bm, hdct, sn, sub, ab, col, dd, k0, k1, k2, k3, k5, newId, h1, h2, _⟩ := kts_cls X q
  exact ⟨nm, qn, N, bs, bm, hdct, sn, sub, ab, col, dd, k0, k1, k2, k3, k5, newId, h1, h2⟩
theorem isExc_keeps {h h' : Heap} {C : Addr} (x : IsExc h C) (k : ∀ b o, h.get? b = some o → h'.get? b = some o) : IsExc h' C := by
  obtain ⟨nm, qn, N, bs, bm, hdct, sn, sub, ab, col, dd, k0, k1, k2, k3, k5, newId, h1, h2⟩ := x
  exact ⟨nm, qn, N, bs, bm, hdct, sn, sub, ab, col, dd, k0, k1, k2, k3, k5, newId, k _ _ h1, h2⟩
/-- an exception has been made and is raised -/
def RaiseGo (E : Value → Shared → Prop) (v : Value) (s₁ : Shared) : Prop :=
  ∃ e C d t, v = .ref e ∧ IsExc s₁.heap C ∧ s₁.heap.get? e = some { cls := .ref C, dict := some d, data := .fields #[t, .none, .none, .none, .bool false, .none] } ∧ E (.ref e) s₁
/-- an exception has been made and is raised, from None, while e1 is handled -/
def RaiseFrom (e1 : Addr) (E : Value → Shared → Prop) (v : Value) (s₁ : Shared) : Prop :=
  ∃ e C d t, v = .ref e ∧ IsExc s₁.heap C ∧ s₁.heap.get? e = some { cls := .ref C, dict := some d, data := .fields #[t, .none, .none, .none, .bool false, .none] } ∧ e ≠ e1 ∧
       (∃ ob1 vs1, s₁.heap.get? e1 = some ob1 ∧ ob1.data = .fields vs1 ∧ vs1[2]? = some .none) ∧
       ∀ h', (∀ b o, b ≠ e → s₁.heap.get? b = some o → h'.get? b = some o) → h'.get? e = some { cls := .ref C, dict := some d, data := .fields #[t, .none, .ref e1, .none, .bool true, .none] } → E (.ref e) { s₁ with heap := h' }
section
variable {prog : Program} {w : World} {A : Around} {E : Value → Shared → Prop} {s : Shared} {env : Env} {Q : Flow → Shared → Prop} {ce : Expr} {pos cp : Pos} {kk : Nat} {e1 : Addr}
theorem Raise_one (hh : A.handled = none) (h : wpAny (model prog w) A (eval ce env) (RaiseGo E) E s) : wpAny (model prog w) A (exec (.Raise (some ce) none pos) env) Q E s := by
  rw [arm_exec_Raise]
  refine wpAny_bind (wpAny_standAt ?_)
  show wpAny _ _ (raiseStmt env (some (do let v ← eval ce env; standAt pos; pure v)) none) _ _ _
  exact raiseStmt_made hh (wpAny_bind (wpAny_mono h (fun v s₁ h₁ => wpAny_bind (wpAny_standAt (wpAny_pure h₁))) fun _ _ y => y))
theorem Raise_two (hh : A.handled = some (.ref e1)) (h : wpAny (model prog w) A (eval ce env) (RaiseFrom e1 E) E s) : wpAny (model prog w) A (exec (.Raise (some ce) (some (.Constant .none kk cp)) pos) env) Q E s := by
  rw [arm_exec_Raise]
  refine wpAny_bind (wpAny_standAt ?_)
  show wpAny _ _ (raiseStmt env (some (do let v ← eval ce env; standAt pos; pure v)) (some (do let v ← eval (.Constant .none kk cp) env; standAt pos; pure v))) _ _ _
  refine raiseStmt_from hh (fun s' P E' hP => ?_) (wpAny_bind (wpAny_mono h (fun v s₁ h₁ => wpAny_bind (wpAny_standAt (wpAny_pure h₁))) fun _ _ y => y))
  have : wpAny (model prog w) A (eval (.Constant .none kk cp) env) (fun v s₁ => wpAny (model prog w) A (do standAt pos; pure v) P E' s₁) E' s' := by
    first
      | exact wpAny_bind (wpAny_standAt (wpAny_pure (wpAny_bind (wpAny_standAt (wpAny_pure hP)))))
      | exact wpAny_pure (wpAny_bind (wpAny_standAt (wpAny_pure hP)))
  exact wpAny_bind this
end
section
variable {M : Model} {A : Around} {E : Value → Shared → Prop} {s' : Shared} {base g h : Heap} {outer : List Env} {L a e C : Addr} {m : Str → Option Value} {name : Str} {scope : Scope} {cd : Value} {Q : Unit → Shared → Prop} {news : List (Addr × Obj)}
theorem RaiseGo.of {e C : Addr} {h : Heap} {E : Value → Shared → Prop} {s₁ : Shared} (x : MadeX h s₁.heap e C) (q : IsExc h C) (k : E (.ref e) s₁) : RaiseGo E (.ref e) s₁ := by
  obtain ⟨d, t, ht⟩ := x.there
  exact ⟨e, C, d, .ref t, rfl, isExc_keeps q x.keeps, ht, k⟩
theorem leave_made (K : Below A base outer g) (x : MadeX h s'.heap e C) (F : Fr g L h m) (N : News g L h news)
    (hQ : ∀ h', RaisedSN base g outer e (.ref C) news h' → RaisedN base outer e (.ref C) news h' → g.UpToSlots h' → Q () { s' with heap := h' }) (hk : scope.kind = .function := by rfl) :
    wpAny M (A.deeper (envOf name scope L a cd)) (leaving (envOf name scope L a cd) (.ref e)) Q E s' := by
  obtain ⟨d, t, ht⟩ := x.there
  exact leave_first K F N (fun b o q _ => x.keeps b o q) (Heap.UpToSlots.of_keeps x.keeps) x.new ht rfl rfl rfl rfl hQ hk
/-- what an exception raised from None in a handler has behind it -/
structure FromX (h h' : Heap) (l : List Env) (e C : Addr) : Prop where
  keeps : ∀ b o, h.get? b = some o → b ∉ frs l → h'.get? b = some o
  up : h.UpToSlots h'
  new : h.get? e = none
  there : ∃ ob vs a0, h'.get? e = some ob ∧ ob.cls = .ref C ∧ ob.data = .fields vs ∧ vs[1]? = some .none ∧ vs[0]? = some a0
theorem RaiseFrom.of {e e1 C : Addr} {l : List Env} {h h₁ : Heap} {E : Value → Shared → Prop} {s₁ : Shared} (x : MadeX h₁ s₁.heap e C) (q : IsExc h₁ C) (c : CaughtX base h h₁ l e1)
    (k : ∀ h', FromX h h' l e C → E (.ref e) { s₁ with heap := h' }) : RaiseFrom e1 E (.ref e) s₁ := by
  obtain ⟨d, t, ht⟩ := x.there
  obtain ⟨k1, u1, ⟨ob1, vs1, c1, c2, c3⟩, _, f1⟩ := c
  have hn : h.get? e = none := by
    cases q : h.get? e with
    | none => rfl
    | some o =>
      by_cases hm : e ∈ frs l
      · obtain ⟨_, o', ho', hd'⟩ := f1.mem hm
        obtain ⟨sl, hs⟩ := u1 e o' ho' hd'
        rw [x.new] at hs; cases hs
      · have := x.new
        rw [k1 e o q hm] at this; cases this
  refine ⟨e, C, d, .ref t, rfl, isExc_keeps q x.keeps, ht, (fun z => (by have n := x.new; rw [z, c1] at n; cases n)), ⟨ob1, vs1, x.keeps _ _ c1, c2, c3⟩, fun h' k2 e2 => k h' ⟨fun b o q hm => ?_, fun b o q hd => ?_, hn, _, _, _, e2, rfl, rfl, rfl, rfl⟩⟩
  · exact k2 b o (fun z => by rw [z, hn] at q; cases q) (x.keeps _ _ (k1 b o q hm))
  · obtain ⟨sl, hs⟩ := u1 b o q hd
    exact ⟨sl, k2 b _ (fun z => by rw [z, hn] at q; cases q) (x.keeps _ _ hs)⟩
theorem leave_from (K : Below A base outer g) (x : FromX h s'.heap (envOf name scope L a cd :: outer) e C) (F : Fr g L h m) (N : News g L h news)
    (hQ : ∀ h', RaisedSN base g outer e (.ref C) news h' → RaisedN base outer e (.ref C) news h' → g.UpToSlots h' → Q () { s' with heap := h' }) (hk : scope.kind = .function := by rfl) :
    wpAny M (A.deeper (envOf name scope L a cd)) (leaving (envOf name scope L a cd) (.ref e)) Q E s' := by
  obtain ⟨ob, vs, a0, h1, h2, h3, h4, h5⟩ := x.there
  exact leave_first K F N x.keeps x.up x.new h1 h2 h3 h4 h5 hQ hk
end
end Mine
end
open PySem PySem.W PyProof.Rows PySem.Calls Mine
local macro_rules | `(tactic| ktr_room) => `(tactic| ((try simp only [depth_mark, depth_under_make, depth_under_kw, depth_in1, depth_deeper, depth_caller, units_under_make, units_in1, units_deeper, Around.mark_units, units_caller]); (try dsimp only [ktrTop]); (try simp only [recursionLimit, cLine]); first | with_reducible exact rm0 (by with_reducible assumption) (by decide) | with_reducible exact rm1 (by with_reducible assumption) (by decide) | with_reducible exact rm2 (by with_reducible assumption) (by decide) | with_reducible exact rm3 (by with_reducible assumption) (by decide) | with_reducible exact rn0 (by with_reducible assumption) (by decide) | with_reducible exact rn1 (by with_reducible assumption) (by decide) | with_reducible exact rn2 (by with_reducible assumption) (by decide) | with_reducible exact rn3 (by with_reducible assumption) (by decide) | omega))
local macro_rules | `(tactic| ktr_units) => `(tactic| ktr_room)
local macro_rules | `(tactic| k_room) => `(tactic| ktr_room)
local macro_rules | `(tactic| walk_at $s:str) => `(tactic| k_extra $s)
local macro_rules | `(tactic| cell_call) => `(tactic| first | with_reducible exact m0 | with_reducible exact m1 | with_reducible exact m2 | with_reducible exact m3 | (with_reducible refine m4 ?_; cell_call))
local macro_rules | `(tactic| k_lt $h) => `(tactic| (replace $h := AL.of $h rfl; (try dsimp only [List.map] at $h:ident)))
local macro_rules | `(tactic| k_lt2 $h) => `(tactic| (replace $h := ltN $h; (try have al8 := AL.step (by with_reducible assumption) $h)))
local macro_rules | `(tactic| k_ne) => `(tactic| (refine neN ?_; (try dsimp only); first
  | (with_reducible refine AL.en (by with_reducible assumption) ?_; cell_call) | (with_reducible refine AL.ne (by with_reducible assumption) ?_; cell_call)
  | (with_reducible refine AL.en1 (by with_reducible assumption) ?_; cell_call) | (with_reducible refine AL.en2 (by with_reducible assumption) ?_; cell_call) | (with_reducible refine AL.en3 (by with_reducible assumption) ?_; cell_call)
  | (with_reducible refine AL.ne1 (by with_reducible assumption) ?_; cell_call) | (with_reducible refine AL.ne2 (by with_reducible assumption) ?_; cell_call) | (with_reducible refine AL.ne3 (by with_reducible assumption) ?_; cell_call) | omega))
local macro_rules | `(tactic| k_all) => `(tactic| first | exact List.forall_mem_nil _ | (with_reducible refine AL.all (by with_reducible assumption) ?_; with_unfolding_all rfl) | (refine' List.forall_mem_cons.mpr ⟨?a, ?b⟩; (case a => k_ne); (case b => k_all)))

section
open PySem PySem.W PyProof.Rows PySem.Calls
set_option linter.unusedVariables false
namespace Mine
section
set_option maxRecDepth 100000 in
set_option maxHeartbeats 4000000 in
theorem drawn (w : World) (mean : ExcName → Option Value) (mg mb : Str → Option Value) :
  ∀ (dp un : Nat) (gd : Option (List Code)) (cn : Str) (cs : Scope) (a : Addr) (ccd : Value) (cl : List (Str × Addr)) (outer : List Env) (A₀ : Around) (base h₀ : Heap) (L : Addr) (m : Str → Option Value) (s : Shared) (Q E : Value → Shared → Prop)
    (pen scr : Nat) (own : List (Addr × Obj)) (vs : List Value) (ns : List Int) (k e : Int) (tk te tm : Tok) (many : Int) (nl : Nat),
    Below A₀ base outer h₀ → Fr h₀ L s.heap m → (hd.heap_1 w.params).In h₀ → 
    News h₀ L s.heap ((pen, W.listOf #[.int k tk, .int e te, .ref scr] nl) :: (scr, W.listOf vs.toArray 0) :: own) → OwnOff own [pen, scr] → pen ≠ scr →
    Top topProg LO mean mg mb h₀ → cs.kind = .function → IntsAre vs ns → ns.length ≤ 63 → 0 ≤ k → k ≤ 100 → 0 ≤ e → e ≤ 100 → 0 < many → many ≤ 1000 →
    dp + 1 < 350 → un + 8 < 300 → 
    (∀ (v k' e' : Int) (tk' te' t : Tok) h' tks, 0 ≤ v → v < many → k' = k + 1 → e ≤ e' → e' ≤ e + 1 → Fr h₀ L h' m → News h₀ L h' ((pen, W.listOf #[.int k' tk', .int e' te', .ref scr] nl) :: (scr, W.listOf vs.toArray 0) :: own) → Q (.int v t) { s with heap := h', toks := tks }) →
    wpAny (model Challenge.rw_pq0901_01.row.prog w) (ktrTop dp un gd cn cs L a ccd cl outer) (call (.ref 320) [.ref pen, .int many tm]) Q E s := by
  k_with_none
  w_top off
  k_with "execs cons" => (with_reducible refine forget_toks ?_; intro tk'; (rename News _ _ _ _ => hN9); (try dsimp only at hN9))
  k_fill
  intros
  rename_i hret
  refine wpAny_call ?_
  k_dflt cell_enter
  k_steps
  · refine hret _ _ _ _ _ _ _ _ (Int.fmod_nonneg_of_pos _ (by assumption)) (Int.fmod_lt_of_pos _ (by assumption)) rfl ?_ ?_ (by assumption) (by assumption) <;> omega
  · refine hret _ _ _ _ _ _ _ _ (Int.fmod_nonneg_of_pos _ (by assumption)) (Int.fmod_lt_of_pos _ (by assumption)) rfl ?_ ?_ (by assumption) (by assumption) <;> omega
end
/-- the same, the pen anywhere in the ledger -/
theorem drawn_U {w : World} {mean : ExcName → Option Value} {mg mb : Str → Option Value} {dp un : Nat} {gd : Option (List Code)} {cn : Str} {cs : Scope} {a : Addr} {ccd : Value} {cl : List (Str × Addr)} {outer : List Env} {A₀ : Around} {base h₀ : Heap} {L : Addr} {m : Str → Option Value} {s : Shared} {Q E : Value → Shared → Prop}
    {pen scr : Addr} {news : List (Addr × Obj)} {g : Obj → List (Addr × Obj)} {vs : List Value} {ns : List Int} {k e : Int} {tk te tm : Tok} {many : Int} {nl : Nat}
    (B : Below A₀ base outer h₀) (F : Fr h₀ L s.heap m) (X : (hd.heap_1 w.params).In h₀) (N : News h₀ L s.heap news)
    (U : UpdF pen (W.listOf #[.int k tk, .int e te, .ref scr] nl) news g) (hs : (scr, W.listOf vs.toArray 0) ∈ news) (hne : pen ≠ scr)
    (T : Top topProg LO mean mg mb h₀) (hk : cs.kind = .function) (hi : IntsAre vs ns) (hl : ns.length ≤ 63) (k0 : 0 ≤ k) (k1 : k ≤ 100) (e0 : 0 ≤ e) (e1 : e ≤ 100) (m0 : 0 < many) (m1 : many ≤ 1000) (hd : dp + 1 < 350) (hu : un + 8 < 300)
    (h : ∀ (v k' e' : Int) (tk' te' t : Tok) h' tks, 0 ≤ v → v < many → k' = k + 1 → e ≤ e' → e' ≤ e + 1 → Fr h₀ L h' m → News h₀ L h' (g (W.listOf #[.int k' tk', .int e' te', .ref scr] nl)) → Q (.int v t) { s with heap := h', toks := tks }) :
    wpAny (model Challenge.rw_pq0901_01.row.prog w) (ktrTop dp un gd cn cs L a ccd cl outer) (call (.ref 320) [.ref pen, .int many tm]) Q E s := by
  obtain ⟨pre, post, rfl, hg, h1, h2⟩ := U.split
  have sc : (scr, W.listOf vs.toArray 0) ∈ pre ++ post := by
    rcases List.mem_append.mp hs with q | q
    · exact List.mem_append_left _ q
    · rcases List.mem_cons.mp q with q | q
      · exact absurd (Prod.mk.inj q).1.symm hne
      · exact List.mem_append_right _ q
  have key : ∀ (p : Addr × Obj), p ∈ pre ++ post → p.1 = scr → p = (scr, W.listOf vs.toArray 0) := fun p hp e => by
    have q1 := (N p (by rcases List.mem_append.mp hp with q | q; exact List.mem_append_left _ q; exact List.mem_append_right _ (.tail _ q))).1
    have q2 := (N _ hs).1
    rw [e] at q1
    dsimp only at q2
    rw [q1] at q2
    exact Prod.ext e (Option.some.inj q2)
  refine drawn w mean mg mb dp un gd cn cs a ccd cl outer A₀ base h₀ L m s Q E pen scr ((pre ++ post).filter fun p => !(Nat.beq p.1 scr)) vs ns k e tk te tm many nl B F X ?_ ?_ hne T hk hi hl k0 k1 e0 e1 m0 m1 hd hu ?_
  · intro p hp
    refine N p ?_
    rcases List.mem_cons.mp hp with rfl | hp
    · exact List.mem_append_right _ (.head _)
    · rcases List.mem_cons.mp hp with rfl | hp
      · exact hs
      · rcases List.mem_append.mp (List.mem_filter.mp hp).1 with q | q
        · exact List.mem_append_left _ q
        · exact List.mem_append_right _ (.tail _ q)
  · intro p hp b hb
    obtain ⟨q1, q2⟩ := List.mem_filter.mp hp
    rcases List.mem_cons.mp hb with rfl | hb
    · rcases List.mem_append.mp q1 with q | q
      · exact h1 p q
      · exact h2 p q
    · rw [List.mem_singleton.mp hb]
      intro z
      rw [z] at q2
      simp at q2
  · intro v k' e' tk' te' t h' tks v0 v1 hk' he he1 F' N'
    refine h v k' e' tk' te' t h' tks v0 v1 hk' he he1 F' fun p hp => ?_
    rw [hg] at hp
    have hp' : p ∈ (pen, W.listOf #[.int k' tk', .int e' te', .ref scr] nl) :: (pre ++ post) := by
      rcases List.mem_append.mp hp with q | q
      · exact .tail _ (List.mem_append_left _ q)
      · rcases List.mem_cons.mp q with rfl | q
        · exact .head _
        · exact .tail _ (List.mem_append_right _ q)
    rcases List.mem_cons.mp hp' with rfl | hq
    · exact N' _ (.head _)
    · by_cases z : p.1 = scr
      · rw [key p hq z]
        exact N' _ (.tail _ (.head _))
      · refine N' p (.tail _ (.tail _ (List.mem_filter.mpr ⟨hq, ?_⟩)))
        cases w : Nat.beq p.1 scr with
        | true => exact absurd (Nat.eq_of_beq_eq_true w) z
        | false => rfl
end Mine
end
section
open PySem PySem.W PyProof.Rows PySem.Calls
set_option linter.unusedVariables false
namespace Mine
section
variable {w : World} {A : Around} {E : Value → Shared → Prop} {s : Shared} {base h₀ : Heap} {L : Addr} {m : Str → Option Value} {outer : List Env} {A₀ : Around} {Q : Value → Shared → Prop}
theorem bytes_none_K (F : Fr h₀ L s.heap m) (B : Below A₀ base outer h₀) (Y : KX w base) (hh : A.handled = none) (hd : A.depth ≤ 400) (hu : A.units ≤ 400)
    (h : ∀ h' tk e, Heap.NewExc s.heap h' e "TypeError" → E (.ref e) { s with heap := h', toks := tk }) :
    wpAny (model Challenge.rw_pq0901_01.row.prog w) A (call (.type "bytes") [.none]) Q E s :=
  wp_weak (A' := AX) (bytes_none_x _ w s.heap ((Y.keeps B.stays).keeps F.keep) s.gens s.drawn s.toks s.os Q E fun h' e tk' x => h h' tk' e x) hh hd rfl rfl hu
theorem bytes_int_K {n : Int} {t : Tok} (h0 : 0 ≤ n) (h1 : n ≤ 100) (hh : A.handled = none) (hd : A.depth ≤ 400) (hu : A.units ≤ 400)
    (h : ∀ tk t', Q (.bytes (Array.replicate n.toNat 0) t') { s with toks := tk }) :
    wpAny (model Challenge.rw_pq0901_01.row.prog w) A (call (.type "bytes") [.int n t]) Q E s :=
  wp_weak (A' := AX) (bytes_int_x _ w s.heap s.gens s.drawn s.toks s.os n t Q E h0 h1 fun tk' t' => h tk' t') hh hd rfl rfl hu
theorem bytes_str_K {x : Str} {t : Tok} (F : Fr h₀ L s.heap m) (B : Below A₀ base outer h₀) (Y : KX w base) (hh : A.handled = none) (hd : A.depth ≤ 400) (hu : A.units ≤ 400)
    (h : ∀ h' tk e, Heap.NewExc s.heap h' e "TypeError" → E (.ref e) { s with heap := h', toks := tk }) :
    wpAny (model Challenge.rw_pq0901_01.row.prog w) A (call (.type "bytes") [.str x t]) Q E s :=
  wp_weak (A' := AX) (bytes_str_x _ w s.heap ((Y.keeps B.stays).keeps F.keep) s.gens s.drawn s.toks s.os x t Q E fun h' e tk' x => h h' tk' e x) hh hd rfl rfl hu
theorem mk_disk_K {x : Str} {t : Tok} (F : Fr h₀ L s.heap m) (B : Below A₀ base outer h₀) (Y : KX w base) (hd : A.depth ≤ 400) (hu : A.units ≤ 400)
    (h : ∀ h' tk e, MadeX s.heap h' e 83 → Q (.ref e) { s with heap := h', toks := tk }) :
    wpAny (model Challenge.rw_pq0901_01.row.prog w) A (call (.ref 83) [.str x t]) Q E s :=
  wp_weak (A' := AXh A.handled) (mk_disk_x _ w s.heap ((Y.keeps B.stays).keeps F.keep) s.gens s.drawn s.toks s.os A.handled x t Q E fun h' e tk' x => h h' tk' e x) rfl hd rfl rfl hu
theorem tup_test {prog : Program} {w : World} {K : Frag} {p : Program} {loose : List Str} {mg mb : Str → Option Value} {name : Str} {scope : Scope} {a L : Addr} {cd cls : Value} {p1 p2 tpos : Pos} {kk : Nat}
    (e1 : nsIn K mainGlobals "TypeError" = some none) (e2 : nsIn K mainGlobals "ValueError" = some none) (he : exmAny K cls [.type "TypeError", .type "ValueError"] = some true) (hk : scope.kind = .function)
    (k1 : (envOf name scope L a cd).kindOf "TypeError" = some .globalImplicit) (k2 : (envOf name scope L a cd).kindOf "ValueError" = some .globalImplicit) :
    KtsTest prog w K p loose mg mb name scope L a cd cls (.Tuple [.Name "TypeError" p1, .Name "ValueError" p2] kk tpos) true :=
  test_tup2 (.inr ⟨e1, PyProof.Rows.Boot.«TypeError», by decide⟩) (.inr ⟨e2, PyProof.Rows.Boot.«ValueError», by decide⟩) he hk k1 (by decide) k2 (by decide)
end
theorem top_base {A : Around} {base h₀ : Heap} {outer : List Env} {p : Program} {loose : List Str} {mean : ExcName → Option Value} {mg mb : Str → Option Value} (T : Top p loose mean mg mb base) (B : Below A base outer h₀) : Top p loose mean mg mb h₀ := T.keeps B.stays
theorem exm_T (P : Params) : exmAny (hd.heap_1 P) (.type "TypeError") [.type "TypeError", .type "ValueError"] = some true := by kernel_rfl
theorem exm_V (P : Params) : exmAny (hd.heap_1 P) (.type "ValueError") [.type "TypeError", .type "ValueError"] = some true := by kernel_rfl
theorem ns_T (P : Params) : nsIn (hd.heap_1 P) mainGlobals "TypeError" = some none := by kernel_rfl
theorem ns_V (P : Params) : nsIn (hd.heap_1 P) mainGlobals "ValueError" = some none := by kernel_rfl
section
set_option maxRecDepth 100000 in
set_option maxHeartbeats 4000000 in
theorem octets_bad (w : World) (mean : ExcName → Option Value) (mg mb : Str → Option Value) (v : Value) (hv : v = .none ∨ ∃ x t, v = .str x t) :
  ∀ (dp un : Nat) (gd : Option (List Code)) (cn : Str) (cs : Scope) (a : Addr) (ccd : Value) (cl : List (Str × Addr)) (outer : List Env) (A₀ : Around) (base h₀ : Heap) (L : Addr) (m : Str → Option Value) (s : Shared) (Q E : Value → Shared → Prop) (own : List (Addr × Obj)),
    Below A₀ base outer h₀ → Fr h₀ L s.heap m → (hd.heap_1 w.params).In h₀ → KX w base → (hd.heap_1 w.params).In base → Top topProg LO mean mg mb base → News h₀ L s.heap own → Top topProg LO mean mg mb h₀ → cs.kind = .function →
    dp + 1 < 350 → un + 8 < 300 →
    (∀ g₂ h' e tk', Fr h₀ L g₂ m → RaisedSN base g₂ (envX cn cs L a ccd cl :: outer) e (.ref 83) own h' → g₂.UpToSlots h' → E (.ref e) { s with heap := h', toks := tk' }) →
    wpAny (model Challenge.rw_pq0901_01.row.prog w) (ktrTop dp un gd cn cs L a ccd cl outer) (call (.ref 313) [v]) Q E s := by
  k_with_none
  w_top off
  k_with "execs cons" => (with_reducible refine forget_toks ?_; intro tk'; (rename News _ _ _ _ => hN9); (try dsimp only at hN9))
  k_with "call type:bytes" => (k_here; (with_reducible show wpAny _ _ (call (Value.type "bytes") [Value.none]) _ _ _); (refine bytes_none_K (by k_asm) (by k_asm) (by assumption) (by rfl) ?hd ?hu ?_; (case hd => ktr_room); (case hu => ktr_units)); intro h' tk' e' x')
  k_with "call type:bytes" => (k_here; (with_reducible show wpAny _ _ (call (Value.type "bytes") [Value.str _ _]) _ _ _); (refine bytes_str_K (by k_asm) (by k_asm) (by assumption) (by rfl) ?hd ?hu ?_; (case hd => ktr_room); (case hu => ktr_units)); intro h' tk' e' x')
  k_with "noteFrame ref" => (k_here; (refine catch_fresh (by assumption) (by assumption) (by assumption) (XB := by assumption) (by assumption) (tup_test (ns_T _) (ns_V _) (by first | exact exm_T _ | exact exm_V _) rfl rfl rfl) ?_); intro h' g' F' B' c1'; (have X' := Frag.In.keeps (K := Mine.hd.heap_1 _) (by assumption) (Below.stays B')); (have T' := top_base (by assumption) B'))
  k_with "exec Raise some some" => (k_here; refine Raise_two (by rfl) ?_)
  k_with "exec Raise some none" => (k_here; refine Raise_one (by rfl) ?_)
  k_with "call ref" => (k_here; (with_reducible show wpAny _ _ (call (Value.ref 83) [Value.str _ _]) _ _ _); (refine mk_disk_K (by k_asm) (by k_asm) (by assumption) ?hd ?hu ?_; (case hd => ktr_room); (case hu => ktr_units)); intro h' tk' e' x')
  k_with "RaiseFrom" => (refine RaiseFrom.of (by assumption) (isExc_of (Frag.In.keeps (K := Mine.hd.heap_1 _) (by assumption) (Fr.keep (by assumption))) (kts83 _)) (by assumption) ?_; intro h' f'; show wpAny _ _ (leaving _ _) _ _ _)
  k_with "RaiseGo" => (refine RaiseGo.of (by assumption) (isExc_of (Frag.In.keeps (K := Mine.hd.heap_1 _) (by assumption) (Fr.keep (by assumption))) (kts83 _)) ?_; show wpAny _ _ (leaving _ _) _ _ _)
  k_with "leaving ref" => (k_here; first
      | (refine' leave_made ?k1 ?k0 ?k2 ?k3 ?_; (case k0 => assumption); (case k2 => k_asm); (case k1 => assumption); (case k3 => k_asm); intro h' R1' R2' U1'; (try dsimp only at R1' U1' ⊢))
      | (refine' leave_from ?k1 ?k0 ?k2 ?k3 ?_; (case k0 => assumption); (case k2 => assumption); (case k1 => assumption); (case k3 => assumption); intro h' R1' R2' U1'; (try dsimp only at R1' U1' ⊢)))
  k_fill
  rcases hv with rfl | ⟨x, t, rfl⟩
  all_goals (
    intros
    rename_i hE
    refine wpAny_call ?_
    k_dflt cell_enter
    k_steps
    all_goals exact hE _ _ _ _ (by assumption) (by assumption) (by assumption))
end
end Mine
end
section
open PySem PySem.W PySem.W.X PySem.W.XRun PyProof.Rows PySem.Calls
set_option linter.unusedVariables false
namespace Mine
theorem slot_bytes_join : Slot "bytes" "join" "bytes.join" :=
  .of (owner := "bytes") (n := "join") (by rw [typeLookup_type, builtinLookup_eq_fast]; kernel_rfl) (by decide +kernel) (by decide +kernel) (by decide +kernel)
    (by first | exact .inl (by decide +kernel) | exact .inr (by decide +kernel)) (by rw [isSubtype_type]; kernel_rfl)
theorem joined_two (b0 b1 : Array UInt8) : Builtin.Bytes.joined #[] [b0, b1] = b0 ++ b1 := by
  simp [Builtin.Bytes.joined]
theorem type_bytes_join : typeOf (.builtin "bytes.join") = pure (.type "method_descriptor") := by show builtinType _ = _; rw [builtinType_eq_fast]; kernel_rfl
theorem bytes_join_method {A : Around} {E : Value → Shared → Prop} {s : Shared} {M : Model} {b : Array UInt8} {t : Tok} {pl : Sem Bool} {Q : Value × List Value → Shared → Prop} (h : Q (.builtin "bytes.join", [.bytes b t]) s) : wpAny M A (getMethod (.bytes b t) "join" pl) Q E s := by
  with_reducible exact KBd.method_of (.bytes b t) (typeIs_bytes _ _ _) slot_bytes_join type_bytes_join KBd.noRef h
section
set_option hygiene false in
local macro_rules | `(tactic| x_close) => `(tactic| exact hret _ _)
set_option maxRecDepth 100000 in
set_option maxHeartbeats 0 in
theorem bytes_join_x1 (prog : Program) (w : World) (h : Heap) (X : (KB w.params).In h) (gs : Array GenState) (d : Drawn) (tk : Nat) (os : OsState) (l : Addr) (a0 c0 : UInt8) (t t0 t1 : Tok) (lc : Nat) (hl : h.get? l = some ⟨.type "list", none, .seq #[.bytes #[a0] t0, .bytes #[c0] t1] lc, #[]⟩) (Q E : Value → Shared → Prop) 
   (hret : ∀ tk' t', Q (.bytes (#[a0] ++ #[c0]) t') ⟨h, gs, d, tk', os⟩) :
    wpAny (model prog w) AX (call (.builtin "bytes.join") [.bytes #[] t, .ref l]) Q E ⟨h, gs, d, tk, os⟩ := by
  x_run
set_option maxRecDepth 100000 in
set_option maxHeartbeats 0 in
theorem bytes_join_x2 (prog : Program) (w : World) (h : Heap) (X : (KB w.params).In h) (gs : Array GenState) (d : Drawn) (tk : Nat) (os : OsState) (l : Addr) (a0 c0 a1 c1 : UInt8) (t t0 t1 : Tok) (lc : Nat) (hl : h.get? l = some ⟨.type "list", none, .seq #[.bytes #[a0, a1] t0, .bytes #[c0, c1] t1] lc, #[]⟩) (Q E : Value → Shared → Prop) 
   (hret : ∀ tk' t', Q (.bytes (#[a0, a1] ++ #[c0, c1]) t') ⟨h, gs, d, tk', os⟩) :
    wpAny (model prog w) AX (call (.builtin "bytes.join") [.bytes #[] t, .ref l]) Q E ⟨h, gs, d, tk, os⟩ := by
  x_run
set_option maxRecDepth 100000 in
set_option maxHeartbeats 0 in
theorem bytes_join_x3 (prog : Program) (w : World) (h : Heap) (X : (KB w.params).In h) (gs : Array GenState) (d : Drawn) (tk : Nat) (os : OsState) (l : Addr) (a0 c0 a1 c1 a2 c2 : UInt8) (t t0 t1 : Tok) (lc : Nat) (hl : h.get? l = some ⟨.type "list", none, .seq #[.bytes #[a0, a1, a2] t0, .bytes #[c0, c1, c2] t1] lc, #[]⟩) (Q E : Value → Shared → Prop) 
   (hret : ∀ tk' t', Q (.bytes (#[a0, a1, a2] ++ #[c0, c1, c2]) t') ⟨h, gs, d, tk', os⟩) :
    wpAny (model prog w) AX (call (.builtin "bytes.join") [.bytes #[] t, .ref l]) Q E ⟨h, gs, d, tk, os⟩ := by
  x_run
set_option maxRecDepth 100000 in
set_option maxHeartbeats 0 in
theorem bytes_join_x4 (prog : Program) (w : World) (h : Heap) (X : (KB w.params).In h) (gs : Array GenState) (d : Drawn) (tk : Nat) (os : OsState) (l : Addr) (a0 c0 a1 c1 a2 c2 a3 c3 : UInt8) (t t0 t1 : Tok) (lc : Nat) (hl : h.get? l = some ⟨.type "list", none, .seq #[.bytes #[a0, a1, a2, a3] t0, .bytes #[c0, c1, c2, c3] t1] lc, #[]⟩) (Q E : Value → Shared → Prop) 
   (hret : ∀ tk' t', Q (.bytes (#[a0, a1, a2, a3] ++ #[c0, c1, c2, c3]) t') ⟨h, gs, d, tk', os⟩) :
    wpAny (model prog w) AX (call (.builtin "bytes.join") [.bytes #[] t, .ref l]) Q E ⟨h, gs, d, tk, os⟩ := by
  x_run
end
theorem arr1 {b : Array UInt8} (h : b.size = 1) : ∃ a0, b = #[a0] := by
  obtain ⟨l⟩ := b
  match l, h with
  | [a0], _ => exact ⟨a0, rfl⟩
theorem arr2 {b : Array UInt8} (h : b.size = 2) : ∃ a0 a1, b = #[a0, a1] := by
  obtain ⟨l⟩ := b
  match l, h with
  | [a0, a1], _ => exact ⟨a0, a1, rfl⟩
theorem arr3 {b : Array UInt8} (h : b.size = 3) : ∃ a0 a1 a2, b = #[a0, a1, a2] := by
  obtain ⟨l⟩ := b
  match l, h with
  | [a0, a1, a2], _ => exact ⟨a0, a1, a2, rfl⟩
theorem arr4 {b : Array UInt8} (h : b.size = 4) : ∃ a0 a1 a2 a3, b = #[a0, a1, a2, a3] := by
  obtain ⟨l⟩ := b
  match l, h with
  | [a0, a1, a2, a3], _ => exact ⟨a0, a1, a2, a3, rfl⟩
section
variable {w : World} {A : Around} {E : Value → Shared → Prop} {s : Shared} {base h₀ : Heap} {L : Addr} {m : Str → Option Value} {outer : List Env} {A₀ : Around} {Q : Value → Shared → Prop} {news : List (Addr × Obj)}
theorem bytes_join_K {l : Addr} {b0 b1 : Array UInt8} {t t0 t1 : Tok} {lc n : Nat} (F : Fr h₀ L s.heap m) (B : Below A₀ base outer h₀) (Y : KX w base) (N : News h₀ L s.heap news) (hl : (l, W.listOf #[.bytes b0 t0, .bytes b1 t1] lc) ∈ news)
    (n1 : 1 ≤ n) (n4 : n ≤ 4) (h0 : b0.size = n) (h1 : b1.size = n) (hh : A.handled = none) (hd : A.depth ≤ 400) (hu : A.units ≤ 400)
    (h : ∀ tk t', Q (.bytes (b0 ++ b1) t') { s with toks := tk }) :
    wpAny (model Challenge.rw_pq0901_01.row.prog w) A (call (.builtin "bytes.join") [.bytes #[] t, .ref l]) Q E s := by
  have hX := (Y.keeps B.stays).keeps F.keep
  have hL := (N _ hl).1
  have hn : n = 1 ∨ n = 2 ∨ n = 3 ∨ n = 4 := by omega
  rcases hn with rfl | rfl | rfl | rfl
  · obtain ⟨a0, rfl⟩ := arr1 h0
    obtain ⟨c0, rfl⟩ := arr1 h1
    exact wp_weak (A' := AX) (bytes_join_x1 _ w s.heap hX s.gens s.drawn s.toks s.os l a0 c0 t t0 t1 lc hL Q E h) hh hd rfl rfl hu
  · obtain ⟨a0, a1, rfl⟩ := arr2 h0
    obtain ⟨c0, c1, rfl⟩ := arr2 h1
    exact wp_weak (A' := AX) (bytes_join_x2 _ w s.heap hX s.gens s.drawn s.toks s.os l a0 c0 a1 c1 t t0 t1 lc hL Q E h) hh hd rfl rfl hu
  · obtain ⟨a0, a1, a2, rfl⟩ := arr3 h0
    obtain ⟨c0, c1, c2, rfl⟩ := arr3 h1
    exact wp_weak (A' := AX) (bytes_join_x3 _ w s.heap hX s.gens s.drawn s.toks s.os l a0 c0 a1 c1 a2 c2 t t0 t1 lc hL Q E h) hh hd rfl rfl hu
  · obtain ⟨a0, a1, a2, a3, rfl⟩ := arr4 h0
    obtain ⟨c0, c1, c2, c3, rfl⟩ := arr4 h1
    exact wp_weak (A' := AX) (bytes_join_x4 _ w s.heap hX s.gens s.drawn s.toks s.os l a0 c0 a1 c1 a2 c2 a3 c3 t t0 t1 lc hL Q E h) hh hd rfl rfl hu
theorem bytes_join_L {l : Addr} {b0 b1 : Array UInt8} {t t0 t1 : Tok} {n : Nat} (F : Fr h₀ L s.heap m) (B : Below A₀ base outer h₀) (Y : KX w base) (N : News h₀ L s.heap news) (hl : (l, LCg.lst [.bytes b0 t0, .bytes b1 t1]) ∈ news)
    (n1 : 1 ≤ n) (n4 : n ≤ 4) (h0 : b0.size = n) (h1 : b1.size = n) (hh : A.handled = none) (hd : A.depth ≤ 400) (hu : A.units ≤ 400)
    (h : ∀ tk t', Q (.bytes (b0 ++ b1) t') { s with toks := tk }) :
    wpAny (model Challenge.rw_pq0901_01.row.prog w) A (call (.builtin "bytes.join") [.bytes #[] t, .ref l]) Q E s :=
  bytes_join_K (lc := 2) F B Y N hl n1 n4 h0 h1 hh hd hu h
end
end Mine
end
section
open PySem PySem.W PyProof.Rows PySem.Calls
set_option linter.unusedVariables false
namespace Mine
abbrev ent (w : World) (name : String) (t : Tok) (v : Value) : DictEntry := { hash := PyData.keyHash w.params (Str.ofString name), key := .str (Str.ofString name) t, val := v }
/-- the dict of a Disk -/
abbrev diskD (w : World) (t1 t2 t3 t4 t5 t6 t7 t8 t9 t10 u1 u2 u3 u4 u5 : Tok) (size wr last : Int) (kept latest unfl : Addr) (dead : Bool) : Obj :=
  dictOf [ent w "blocks" t1 (.int 2 u1), ent w "size" t2 (.int size u2), ent w "kept" t3 (.ref kept), ent w "latest" t4 (.ref latest), ent w "unflushed" t5 (.ref unfl), ent w "writes" t6 (.int wr u3), ent w "flushes" t7 (.int 0 u4),
    ent w "last" t8 (.int last u5), ent w "last_flush" t9 .none, ent w "is_dead" t10 (.bool dead)] 10
/-- what a lookup with the zeros as its default gives -/
def Blk (kvs : List (Int × Value)) (k : Int) (z b : Array UInt8) : Prop := (∃ t, valueAt kvs k = some (.bytes b t)) ∨ (valueAt kvs k = none ∧ b = z)
section
variable {prog : Program} {w : World} {A : Around} {E : Value → Shared → Prop} {s : Shared} {h₀ : Heap} {L d : Addr} {news : List (Addr × Obj)} {o : Obj} {kvs : List (Int × Value)} {k : Int} {tk tz : Tok} {z b : Array UInt8}
theorem get_blk {Q : Value → Shared → Prop} (N : News h₀ L s.heap news) (hp : (d, o) ∈ news) (hd : o.IsDictOf (intKind prog w) kvs) (lo : (d == sysModules) = false) (hb : Blk kvs k z b) (h : ∀ t, Q (.bytes b t) { s with toks := s.toks + 1 }) :
    wpAny (model prog w) A (call (.builtin "dict.get") [.ref d, .int k tk, .bytes z tz]) Q E s := by
  refine kdg_get2 (knd := intKind prog w) N hp hd lo (intKind_is _ _ _ _) _ rfl ?_
  rcases hb with ⟨t, e⟩ | ⟨e, rfl⟩
  · rw [e]; exact h t
  · rw [e]; exact h tz
end
theorem len_un {prog : Program} {w : World} {A : Around} {E : Value → Shared → Prop} {s : Shared} {h₀ : Heap} {L l : Addr} {news : List (Addr × Obj)} {us : List Value} {k : Int} {c : Nat} {Q : Value → Shared → Prop} (N : News h₀ L s.heap news) (hm : (l, W.listOf us.toArray c) ∈ news) (e : (us.length : Int) = k) (hfit : k < 2 ^ 62)
    (h : Q (.int k (s.toks + 1)) { s with toks := s.toks + 1 + 1 }) : wpAny (model prog w) A (call (.builtin "len") [.ref l]) Q E s := by
  subst e
  exact kst_len N hm rfl (by omega) h
theorem eq_same {prog : Program} {w : World} {A : Around} {E : Value → Shared → Prop} {s : Shared} {b : Array UInt8} {t u : Tok} {Q : Value → Shared → Prop} (h : Q (.bool true) s) : wpAny (model prog w) A (compareOp .Eq (.bytes b t) (.bytes b u)) Q E s := by
  refine PySem.W.eq_bytes ?_
  rw [show (b.toList == b.toList) = true from by simp]
  exact h
theorem comp_end {h₀ : Heap} {L I C D : Addr} {m : Str → Option Value} {s₁ : Shared} {oI oC oD : Obj} {S : List (Addr × Obj) → Prop} {rest : Value → List (Addr × Obj) → Prop} {y : Value} {h' : Heap} {tk : Nat} {news' : List (Addr × Obj)}
    (N : News h₀ L h' ((I, oI) :: (C, oC) :: (D, oD) :: news')) (F : Fr h₀ L h' m) (off : LCg.Off3 I C D news') (hS : S news') (r : rest y news') :
    LCg.CompEnd h₀ L m s₁ I oI C oC D oD S rest y { s₁ with heap := h', toks := tk } := ⟨h', tk, news', rfl, F, N, off, hS, r⟩
section
set_option maxRecDepth 100000 in
set_option maxHeartbeats 4000000 in
theorem stands (w : World) (mean : ExcName → Option Value) (mg mb : Str → Option Value) (own : List (Addr × Obj)) (t1 t2 t3 t4 t5 t6 t7 t8 t9 t10 u1 u2 u3 u4 u5 : Tok) (size done last : Int) (x dx kept lt uf bl : Addr) (dead : Bool)
   (ol : Obj) (kvs : List (Int × Value)) (b0 b1 : Array UInt8) (tb0 tb1 td : Tok) (us : List Value) (ni nb : Nat) (hs1 : 1 ≤ size) (hs4 : size ≤ 4) (hn1 : 1 ≤ size.toNat) (hn4 : size.toNat ≤ 4) (hd0 : 0 ≤ done) (hd2 : done ≤ 2) (hol : ol.IsDictOf (intKind Challenge.rw_pq0901_01.row.prog w) kvs) (lo : (lt == sysModules) = false)
   (hb0 : Blk kvs 0 (Array.replicate size.toNat 0) b0) (hb1 : Blk kvs 1 (Array.replicate size.toNat 0) b1) (hz0 : b0.size = size.toNat) (hz1 : b1.size = size.toNat) (hits : (us.length : Int) = done) :
  ∀ (dp un : Nat) (gd : Option (List Code)) (cn : Str) (cs : Scope) (a : Addr) (ccd : Value) (cl : List (Str × Addr)) (outer : List Env) (A₀ : Around) (base h₀ : Heap) (L : Addr) (m : Str → Option Value) (s : Shared) (Q E : Value → Shared → Prop),
    Below A₀ base outer h₀ → Fr h₀ L s.heap m → (hd.heap_1 w.params).In h₀ → KX w base → Top topProg LO mean mg mb h₀ → cs.kind = .function →
    News h₀ L s.heap ((x, instObj 302 dx) :: (dx, diskD w t1 t2 t3 t4 t5 t6 t7 t8 t9 t10 u1 u2 u3 u4 u5 size done last kept lt uf dead) :: (lt, ol) :: (uf, W.listOf us.toArray ni) :: (bl, W.listOf #[.bytes b0 tb0, .bytes b1 tb1] nb) :: own) →
    dp + 2 < 350 → un + 16 < 300 → 
    (∀ h' tks, Fr h₀ L h' m → News h₀ L h' ((x, instObj 302 dx) :: (dx, diskD w t1 t2 t3 t4 t5 t6 t7 t8 t9 t10 u1 u2 u3 u4 u5 size done last kept lt uf dead) :: (lt, ol) :: (uf, W.listOf us.toArray ni) :: (bl, W.listOf #[.bytes b0 tb0, .bytes b1 tb1] nb) :: own) → Q (.bool true) { s with heap := h', toks := tks }) →
    wpAny (model Challenge.rw_pq0901_01.row.prog w) (ktrTop dp un gd cn cs L a ccd cl outer) (call (.ref 341) [.ref x, .ref bl, .int done td]) Q E s := by
  k_with_none
  w_top off
  k_with "execs cons" => (with_reducible refine forget_toks ?_; intro tk'; (rename News _ _ _ _ => hN9); (try dsimp only at hN9))
  k_with "call type:bytes" => (k_here; (with_reducible show wpAny _ _ (call (Value.type "bytes") [Value.int _ _]) _ _ _); k_dflt (refine' bytes_int_K ?h0 ?h1 ?hh ?hd ?hu ?_; (case h0 => omega); (case h1 => omega); (case hh => rfl); (case hd => ktr_room); (case hu => ktr_units)); intro tk' t'; (try dsimp only))
  k_with "call builtin:dict.get" => (k_here; (with_reducible show wpAny _ _ (call (Value.builtin "dict.get") [Value.ref _, Value.int _ _, Value.bytes _ _]) _ _ _); k_dflt (refine' get_blk ?N ?hp ?hd ?lo ?hb ?_; (case N => k_asm); (case hp => k_mem); (case hd => assumption); (case lo => assumption); (case hb => assumption)); intro t'; (try dsimp only))
  k_with "getMethod bytes" => (k_here; (with_reducible show wpAny _ _ (getMethod (Value.bytes _ _) (Str.ofString "join") _) _ _ _); k_dflt (refine bytes_join_method ?_))
  k_with "call builtin:bytes.join" => (k_here; (with_reducible show wpAny _ _ (call (Value.builtin "bytes.join") [Value.bytes _ _, Value.ref _]) _ _ _); k_dflt (first | refine bytes_join_L (by k_asm) (by k_asm) (by assumption) (by k_asm) (by k_mem) ?n1 ?n4 (by assumption) (by assumption) ?hh ?hd ?hu ?_ | refine bytes_join_K (by k_asm) (by k_asm) (by assumption) (by k_asm) (by k_mem) ?n1 ?n4 (by assumption) (by assumption) ?hh ?hd ?hu ?_); (case n1 => first | assumption | omega); (case n4 => first | assumption | omega); (case hh => rfl); (case hd => ktr_room); (case hu => ktr_units); intro tk' t'; (try dsimp only))
  k_with "CompSrc" => (k_here; k_dflt (refine LCg.CompSrc.range (by rfl) (by k_asm) (by k_asm) (by assumption) (by first | decide | rfl) (by first | rfl | decide) (by first | size_fits | exact Nat.le_of_ble_eq_true rfl) ?_; intro g'; lcg_lit))
  k_with "CompRest" => (with_unfolding_all first
      | (refine LCg.CompRest.succ ?_; intro v' I' oI' C' oC' D' m' h' tk' E' hv' hC' hx' F' N' off' ne'; (first | lcg_open hv' | (obtain ⟨t9', hv9'⟩ := hv'; subst hv9')); (have off0' := off'); (try simp only [LCg.Off3, and_true] at off'))
      | refine LCg.CompRest.zero ?_)
  k_with "CompEnd" => (refine' comp_end ?N ?F ?off ?hS ?_; (case N => assumption); (case F => assumption); (case off => assumption); (case hS => exact True.intro))
  k_with "compareOp Eq bytes bytes" => (k_here; (with_reducible refine eq_same ?_))
  k_with "call builtin:len" => (k_here; (with_reducible show wpAny _ _ (call (Value.builtin "len") [Value.ref _]) _ _ _); k_dflt (refine len_un (by k_asm) (by k_mem) (by assumption) (by omega) ?_))
  k_fill
  intros
  rename_i hret
  refine wpAny_call ?_
  k_dflt cell_enter
  k_steps
  all_goals exact hret _ _ (by k_asm) (by first | assumption | exact kti_tail (by assumption) | exact kti_tail (kti_tail (by assumption)) | exact kti_tail (kti_tail (kti_tail (by assumption))) | exact kti_tail (kti_tail (kti_tail (kti_tail (by assumption)))) | exact kti_tail (kti_tail (kti_tail (kti_tail (kti_tail (by assumption))))))
end
end Mine
end
section
open PySem PySem.W PyProof.Rows PySem.Calls PySem.Spec
set_option linter.unusedVariables false
namespace Mine
abbrev diskF (w : World) (t1 t2 t3 t4 t5 t6 t7 t8 t9 t10 u1 u2 u3 u4 : Tok) (size : Int) (kept latest unfl : Addr) : Obj :=
  dictOf [ent w "blocks" t1 (.int 2 u1), ent w "size" t2 (.int size u2), ent w "kept" t3 (.ref kept), ent w "latest" t4 (.ref latest), ent w "unflushed" t5 (.ref unfl), ent w "writes" t6 (.int 0 u3), ent w "flushes" t7 (.int 0 u4),
    ent w "last" t8 .none, ent w "last_flush" t9 .none, ent w "is_dead" t10 (.bool false)] 10
section
set_option maxRecDepth 100000 in
set_option maxHeartbeats 4000000 in
theorem disk_new (w : World) (mean : ExcName → Option Value) (mg mb : Str → Option Value) (own : List (Addr × Obj)) (size : Int) (t1 t2 : Tok) (hs1 : 1 ≤ size) (hs4 : size ≤ 4) :
  ∀ (dp un9 : Nat) (gd : Option (List Code)) (cn : Str) (cs : Scope) (a : Addr) (ccd : Value) (cl : List (Str × Addr)) (outer : List Env) (A₀ : Around) (base h₀ : Heap) (L : Addr) (m : Str → Option Value) (s : Shared) (Q E : Value → Shared → Prop),
    Below A₀ base outer h₀ → Fr h₀ L s.heap m → (hd.heap_1 w.params).In h₀ → KX w base → Top topProg LO mean mg mb h₀ → cs.kind = .function →
    News h₀ L s.heap own → dp + 2 < 350 → un9 + 16 < 300 →
    (∀ h' tks (f df kd lt uf : Nat) (ok ol : Obj) s1 s2 s3 s4 s5 s6 s7 s8 s9 s10 v1 v2 v3 v4, Fr h₀ L h' m → News h₀ L h' ((uf, W.listOf #[] 0) :: (lt, ol) :: (kd, ok) :: (f, instObj 302 df) :: (df, diskF w s1 s2 s3 s4 s5 s6 s7 s8 s9 s10 v1 v2 v3 v4 size kd lt uf) :: own) →
      ok.IsDictOf (intKind Challenge.rw_pq0901_01.row.prog w) [] → ol.IsDictOf (intKind Challenge.rw_pq0901_01.row.prog w) [] → (kd == sysModules) = false → (lt == sysModules) = false → AllLt df own → df < f ∧ f < kd ∧ kd < lt ∧ lt < uf →
      AL df (own.map fun p => p.1) → AL f (df :: own.map fun p => p.1) → AL kd (f :: df :: own.map fun p => p.1) → AL lt (kd :: f :: df :: own.map fun p => p.1) → AL uf (lt :: kd :: f :: df :: own.map fun p => p.1) → Q (.ref f) { s with heap := h', toks := tks }) →
    wpAny (model Challenge.rw_pq0901_01.row.prog w) (ktrTop dp un9 gd cn cs L a ccd cl outer) (call (.ref 302) [.int 2 t1, .int size t2]) Q E s := by
  k_with_none
  w_top off
  k_with "execs cons" => (with_reducible refine forget_toks ?_; intro tk'; (rename News _ _ _ _ => hN9); (try dsimp only at hN9))
  k_fill
  intro dp un9 gd cn cs a ccd cl outer A₀ base h₀ L m s Q E B F X Y T hk N hd hu hret
  k_dflt (refine' call_cls ?k1 ?k2 ?k3 ?k4 ?k5 ?k6 ?_; (case k1 => k_asm); (case k2 => k_asm); (case k3 => k_asm); (case k4 => k_is); (case k5 => k_is); (case k6 => k_is); k_whole; intro x' d' h' F' N' l1 l2; (try k_lt l1); (try k_lt2 l2); (try k_sweep))
  k_dflt (refine' code_def ?k1 ?k2 ?k3 ?k4 ?k5 ?kA ?kF ?kK ?k6 ?k7 ?k8 ?k9 ?kB ?_ ?c2 ?c3 ?c4 ?c5; (case kA => exact rfl); (case kF => exact rfl); (case kK => assumption); (case k1 => k_asm); (case k2 => k_asm); (case k3 => k_asm); (case k4 => k_asm); (case k5 => k_asm); (case k6 => k_is); (case k7 => k_is); (case k8 => ktr_room); (case k9 => first | exact BindsTo.of_eq rfl | exact binds_K (by k_in) rfl (by k_is) rfl rfl rfl); (case c5 => decide); (case kB => exact locs rfl); (case c2 => exact rfl); (case c3 => exact rfl); (case c4 => exact rfl); k_whole; intro g' L' h' FG' F' N' B' X' T'; (try dsimp only); (try k_lift B'); (try k_fold))
  k_steps
  all_goals (refine hret _ _ _ _ _ _ _ _ _ _ _ _ _ _ _ _ _ _ _ _ _ _ _ (by assumption) (by assumption) (by assumption) (by assumption) (by assumption) (by assumption) (by first | assumption | exact allLt_of (by assumption) | exact AL.all_drop 0 (by assumption) rfl) ?_ ?_ ?_ ?_ ?_ ?_)
  all_goals (first | assumption | (refine ⟨?_, ?_, ?_, ?_⟩ <;> (refine ltN ?_; first | assumption | (with_reducible refine AL.lt (by with_reducible assumption) ?_; cell_call) | omega)))
end
end Mine
end
section
open PySem PySem.W PyProof.Rows PySem.Calls
set_option linter.unusedVariables false
namespace Mine
def Off (n : Int) : Prop := (n < 0 ∨ 256 ≤ n) ∧ -1000 < n ∧ n < 1000
/-- lists whose last int is no octet -/
def BadIts (its : Array Value) : Prop := (∃ n t, its = #[.int n t] ∧ Off n) ∨ (∃ t1 n t, its = #[.int 0 t1, .int n t] ∧ Off n) ∨ (∃ t1 t2 n t, its = #[.int 0 t1, .int 0 t2, .int n t] ∧ Off n) ∨ (∃ t1 t2 t3 n t, its = #[.int 0 t1, .int 0 t2, .int 0 t3, .int n t] ∧ Off n)
theorem raisedSN_sub {base G : Heap} {l : List Env} {e : Addr} {cls : Value} {news news' : List (Addr × Obj)} {h : Heap} (R : RaisedSN base G l e cls news h) (hs : ∀ p ∈ news', p ∈ news) : RaisedSN base G l e cls news' h := by
  obtain ⟨B, a0, hB, hBG, hl, hfl⟩ := R
  exact ⟨B, a0, hB, hBG, fun q hq => hl q (hs q hq), hfl⟩
section
variable {w : World} {A : Around} {E : Value → Shared → Prop} {s : Shared} {base h₀ : Heap} {L : Addr} {m : Str → Option Value} {outer : List Env} {A₀ : Around} {Q : Value → Shared → Prop} {news : List (Addr × Obj)}
theorem bytes_list_K {l : Addr} {its : Array Value} {lc : Nat} (F : Fr h₀ L s.heap m) (B : Below A₀ base outer h₀) (Y : KX w base) (N : News h₀ L s.heap news) (hl : (l, W.listOf its lc) ∈ news) (hb : BadIts its) (hh : A.handled = none) (hd : A.depth ≤ 400) (hu : A.units ≤ 400)
    (h : ∀ h' tk e, Heap.NewExc s.heap h' e "ValueError" → E (.ref e) { s with heap := h', toks := tk }) :
    wpAny (model Challenge.rw_pq0901_01.row.prog w) A (call (.type "bytes") [.ref l]) Q E s := by
  have hX := (Y.keeps B.stays).keeps F.keep
  have hL := (N _ hl).1
  rcases hb with ⟨n, t, rfl, o1, o2⟩ | ⟨t1, n, t, rfl, o1, o2⟩ | ⟨t1, t2, n, t, rfl, o1, o2⟩ | ⟨t1, t2, t3, n, t, rfl, o1, o2⟩
  · exact wp_weak (A' := AX) (bytes_list1_x _ w s.heap hX s.gens s.drawn s.toks s.os l n t lc hL o1 o2 Q E fun h' e tk' x => h h' tk' e x) hh hd rfl rfl hu
  · exact wp_weak (A' := AX) (bytes_list22_x _ w s.heap hX s.gens s.drawn s.toks s.os l n t t1 lc hL o1 o2 Q E fun h' e tk' x => h h' tk' e x) hh hd rfl rfl hu
  · exact wp_weak (A' := AX) (bytes_list23_x _ w s.heap hX s.gens s.drawn s.toks s.os l n t t1 t2 lc hL o1 o2 Q E fun h' e tk' x => h h' tk' e x) hh hd rfl rfl hu
  · exact wp_weak (A' := AX) (bytes_list2_x _ w s.heap hX s.gens s.drawn s.toks s.os l n t t1 t2 t3 lc hL o1 o2 Q E fun h' e tk' x => h h' tk' e x) hh hd rfl rfl hu
end
/-- what is no octets -/
def OctBad (own : List (Addr × Obj)) (v : Value) : Prop := v = .none ∨ (∃ x t, v = .str x t) ∨ (∃ i t, v = .int i t) ∨ ∃ l its lc, v = .ref l ∧ (l, W.listOf its lc) ∈ own ∧ BadIts its
section
set_option maxRecDepth 100000 in
set_option maxHeartbeats 4000000 in
theorem octets_bad_int (w : World) (mean : ExcName → Option Value) (mg mb : Str → Option Value) (i : Int) (t : Tok) (own : List (Addr × Obj)) :
  ∀ (dp un : Nat) (gd : Option (List Code)) (cn : Str) (cs : Scope) (a : Addr) (ccd : Value) (cl : List (Str × Addr)) (outer : List Env) (A₀ : Around) (base h₀ : Heap) (L : Addr) (m : Str → Option Value) (s : Shared) (Q E : Value → Shared → Prop),
    Below A₀ base outer h₀ → Fr h₀ L s.heap m → (hd.heap_1 w.params).In h₀ → KX w base → (hd.heap_1 w.params).In base → Top topProg LO mean mg mb base → News h₀ L s.heap own → Top topProg LO mean mg mb h₀ → cs.kind = .function →
    dp + 1 < 350 → un + 8 < 300 →
    (∀ g₂ h' e tk', Fr h₀ L g₂ m → RaisedSN base g₂ (envX cn cs L a ccd cl :: outer) e (.ref 83) own h' → g₂.UpToSlots h' → E (.ref e) { s with heap := h', toks := tk' }) →
    wpAny (model Challenge.rw_pq0901_01.row.prog w) (ktrTop dp un gd cn cs L a ccd cl outer) (call (.ref 313) [.int i t]) Q E s := by
  k_with_none
  w_top off
  k_with "execs cons" => (with_reducible refine forget_toks ?_; intro tk'; (rename News _ _ _ _ => hN9); (try dsimp only at hN9))
  k_with "call type:bytes" => (k_here; (with_reducible show wpAny _ _ (call (Value.type "bytes") [Value.int _ _]) _ _ _); k_dflt (refine' bytes_int_K ?h0 ?h1 ?hh ?hd ?hu ?_; (case h0 => omega); (case h1 => omega); (case hh => rfl); (case hd => ktr_room); (case hu => ktr_units)); intro tk' t'; (try dsimp only))
  k_with "call type:bytes" => (k_here; (with_reducible show wpAny _ _ (call (Value.type "bytes") [Value.str _ _]) _ _ _); (refine bytes_str_K (by k_asm) (by k_asm) (by assumption) (by rfl) ?hd ?hu ?_; (case hd => ktr_room); (case hu => ktr_units)); intro h' tk' e' x')
  k_with "call type:bytes" => (k_here; (with_reducible show wpAny _ _ (call (Value.type "bytes") [Value.none]) _ _ _); (refine bytes_none_K (by k_asm) (by k_asm) (by assumption) (by rfl) ?hd ?hu ?_; (case hd => ktr_room); (case hu => ktr_units)); intro h' tk' e' x')
  k_with "noteFrame ref" => (k_here; (refine catch_fresh (by assumption) (by assumption) (by assumption) (XB := by assumption) (by assumption) (tup_test (ns_T _) (ns_V _) (by first | exact exm_T _ | exact exm_V _) rfl rfl rfl) ?_); intro h' g' F' B' c1'; (have X' := Frag.In.keeps (K := Mine.hd.heap_1 _) (by assumption) (Below.stays B')); (have T' := top_base (by assumption) B'))
  k_with "exec Raise some some" => (k_here; k_dflt (refine Raise_two (by rfl) ?_))
  k_with "exec Raise some none" => (k_here; k_dflt (refine Raise_one (by rfl) ?_))
  k_with "call ref" => (k_here; (with_reducible show wpAny _ _ (call (Value.ref 83) [Value.str _ _]) _ _ _); (refine mk_disk_K (by k_asm) (by k_asm) (by assumption) ?hd ?hu ?_; (case hd => ktr_room); (case hu => ktr_units)); intro h' tk' e' x')
  k_with "RaiseFrom" => (refine RaiseFrom.of (by assumption) (isExc_of (Frag.In.keeps (K := Mine.hd.heap_1 _) (by assumption) (Fr.keep (by assumption))) (kts83 _)) (by assumption) ?_; intro h' f'; show wpAny _ _ (leaving _ _) _ _ _)
  k_with "RaiseGo" => (refine RaiseGo.of (by assumption) (isExc_of (Frag.In.keeps (K := Mine.hd.heap_1 _) (by assumption) (Fr.keep (by assumption))) (by first | exact kts83 _ | exact kts102 _ | exact kts52 _)) ?_; show wpAny _ _ (leaving _ _) _ _ _)
  k_with "leaving ref" => (k_here; first
      | (refine' leave_onSN ?k1 ?k2 ?k3 ?k4 ?_; (case k3 => assumption); (case k2 => assumption); (case k1 => assumption); (case k4 => assumption); intro h' R1' R2' U1'; (try dsimp only at R1' U1' ⊢))
      | (refine' leave_made ?k1 ?k0 ?k2 ?k3 ?_; (case k0 => assumption); (case k2 => k_asm); (case k1 => assumption); (case k3 => k_asm); intro h' R1' R2' U1'; (try dsimp only at R1' U1' ⊢))
      | (refine' leave_from ?k1 ?k0 ?k2 ?k3 ?_; (case k0 => assumption); (case k2 => assumption); (case k1 => assumption); (case k3 => assumption); intro h' R1' R2' U1'; (try dsimp only at R1' U1' ⊢)))
  k_with "call ref" => (k_here; (with_reducible show wpAny _ _ (call (Value.ref 102) [Value.int _ _]) _ _ _); (refine mk_crash_K (by k_asm) (by k_asm) (by assumption) ?h0 ?h1 ?hd ?hu ?_; (case h0 => omega); (case h1 => omega); (case hd => ktr_room); (case hu => ktr_units)); intro h' tk' e' x')
  k_with "call ref" => (k_here; (with_reducible show wpAny _ _ (call (Value.ref 52) [Value.str _ _]) _ _ _); (refine mk_arg_K (by k_asm) (by k_asm) (by assumption) ?hd ?hu ?_; (case hd => ktr_room); (case hu => ktr_units)); intro h' tk' e' x')
  k_with "call type:bytes" => (k_here; (with_reducible show wpAny _ _ (call (Value.type "bytes") [Value.ref _]) _ _ _); k_dflt (refine bytes_list_K (by k_asm) (by k_asm) (by assumption) (by k_asm) (by k_mem) (by assumption) (by rfl) ?hd ?hu ?_; (case hd => ktr_room); (case hu => ktr_units)); intro h' tk' e' x')
  k_fill
  intros
  rename_i hE
  refine wpAny_call ?_
  k_dflt cell_enter
  k_steps
  all_goals exact hE _ _ _ _ (by assumption) (by assumption) (by assumption)
set_option maxRecDepth 100000 in
set_option maxHeartbeats 4000000 in
theorem octets_bad_list (w : World) (mean : ExcName → Option Value) (mg mb : Str → Option Value) (l : Addr) (its : Array Value) (lc : Nat) (hb : BadIts its) (own : List (Addr × Obj)) :
  ∀ (dp un : Nat) (gd : Option (List Code)) (cn : Str) (cs : Scope) (a : Addr) (ccd : Value) (cl : List (Str × Addr)) (outer : List Env) (A₀ : Around) (base h₀ : Heap) (L : Addr) (m : Str → Option Value) (s : Shared) (Q E : Value → Shared → Prop),
    Below A₀ base outer h₀ → Fr h₀ L s.heap m → (hd.heap_1 w.params).In h₀ → KX w base → (hd.heap_1 w.params).In base → Top topProg LO mean mg mb base → News h₀ L s.heap ((l, W.listOf its lc) :: own) → Top topProg LO mean mg mb h₀ → cs.kind = .function →
    dp + 1 < 350 → un + 8 < 300 →
    (∀ g₂ h' e tk', Fr h₀ L g₂ m → RaisedSN base g₂ (envX cn cs L a ccd cl :: outer) e (.ref 83) ((l, W.listOf its lc) :: own) h' → g₂.UpToSlots h' → E (.ref e) { s with heap := h', toks := tk' }) →
    wpAny (model Challenge.rw_pq0901_01.row.prog w) (ktrTop dp un gd cn cs L a ccd cl outer) (call (.ref 313) [.ref l]) Q E s := by
  k_with_none
  w_top off
  k_with "execs cons" => (with_reducible refine forget_toks ?_; intro tk'; (rename News _ _ _ _ => hN9); (try dsimp only at hN9))
  k_with "call type:bytes" => (k_here; (with_reducible show wpAny _ _ (call (Value.type "bytes") [Value.int _ _]) _ _ _); k_dflt (refine' bytes_int_K ?h0 ?h1 ?hh ?hd ?hu ?_; (case h0 => omega); (case h1 => omega); (case hh => rfl); (case hd => ktr_room); (case hu => ktr_units)); intro tk' t'; (try dsimp only))
  k_with "call type:bytes" => (k_here; (with_reducible show wpAny _ _ (call (Value.type "bytes") [Value.str _ _]) _ _ _); (refine bytes_str_K (by k_asm) (by k_asm) (by assumption) (by rfl) ?hd ?hu ?_; (case hd => ktr_room); (case hu => ktr_units)); intro h' tk' e' x')
  k_with "call type:bytes" => (k_here; (with_reducible show wpAny _ _ (call (Value.type "bytes") [Value.none]) _ _ _); (refine bytes_none_K (by k_asm) (by k_asm) (by assumption) (by rfl) ?hd ?hu ?_; (case hd => ktr_room); (case hu => ktr_units)); intro h' tk' e' x')
  k_with "noteFrame ref" => (k_here; (refine catch_fresh (by assumption) (by assumption) (by assumption) (XB := by assumption) (by assumption) (tup_test (ns_T _) (ns_V _) (by first | exact exm_T _ | exact exm_V _) rfl rfl rfl) ?_); intro h' g' F' B' c1'; (have X' := Frag.In.keeps (K := Mine.hd.heap_1 _) (by assumption) (Below.stays B')); (have T' := top_base (by assumption) B'))
  k_with "exec Raise some some" => (k_here; k_dflt (refine Raise_two (by rfl) ?_))
  k_with "exec Raise some none" => (k_here; k_dflt (refine Raise_one (by rfl) ?_))
  k_with "call ref" => (k_here; (with_reducible show wpAny _ _ (call (Value.ref 83) [Value.str _ _]) _ _ _); (refine mk_disk_K (by k_asm) (by k_asm) (by assumption) ?hd ?hu ?_; (case hd => ktr_room); (case hu => ktr_units)); intro h' tk' e' x')
  k_with "RaiseFrom" => (refine RaiseFrom.of (by assumption) (isExc_of (Frag.In.keeps (K := Mine.hd.heap_1 _) (by assumption) (Fr.keep (by assumption))) (kts83 _)) (by assumption) ?_; intro h' f'; show wpAny _ _ (leaving _ _) _ _ _)
  k_with "RaiseGo" => (refine RaiseGo.of (by assumption) (isExc_of (Frag.In.keeps (K := Mine.hd.heap_1 _) (by assumption) (Fr.keep (by assumption))) (by first | exact kts83 _ | exact kts102 _ | exact kts52 _)) ?_; show wpAny _ _ (leaving _ _) _ _ _)
  k_with "leaving ref" => (k_here; first
      | (refine' leave_onSN ?k1 ?k2 ?k3 ?k4 ?_; (case k3 => assumption); (case k2 => assumption); (case k1 => assumption); (case k4 => assumption); intro h' R1' R2' U1'; (try dsimp only at R1' U1' ⊢))
      | (refine' leave_made ?k1 ?k0 ?k2 ?k3 ?_; (case k0 => assumption); (case k2 => k_asm); (case k1 => assumption); (case k3 => k_asm); intro h' R1' R2' U1'; (try dsimp only at R1' U1' ⊢))
      | (refine' leave_from ?k1 ?k0 ?k2 ?k3 ?_; (case k0 => assumption); (case k2 => assumption); (case k1 => assumption); (case k3 => assumption); intro h' R1' R2' U1'; (try dsimp only at R1' U1' ⊢)))
  k_with "call ref" => (k_here; (with_reducible show wpAny _ _ (call (Value.ref 102) [Value.int _ _]) _ _ _); (refine mk_crash_K (by k_asm) (by k_asm) (by assumption) ?h0 ?h1 ?hd ?hu ?_; (case h0 => omega); (case h1 => omega); (case hd => ktr_room); (case hu => ktr_units)); intro h' tk' e' x')
  k_with "call ref" => (k_here; (with_reducible show wpAny _ _ (call (Value.ref 52) [Value.str _ _]) _ _ _); (refine mk_arg_K (by k_asm) (by k_asm) (by assumption) ?hd ?hu ?_; (case hd => ktr_room); (case hu => ktr_units)); intro h' tk' e' x')
  k_with "call type:bytes" => (k_here; (with_reducible show wpAny _ _ (call (Value.type "bytes") [Value.ref _]) _ _ _); k_dflt (refine bytes_list_K (by k_asm) (by k_asm) (by assumption) (by k_asm) (by k_mem) (by assumption) (by rfl) ?hd ?hu ?_; (case hd => ktr_room); (case hu => ktr_units)); intro h' tk' e' x')
  k_fill
  intros
  rename_i hE
  refine wpAny_call ?_
  k_dflt cell_enter
  k_steps
  all_goals exact hE _ _ _ _ (by assumption) (by assumption) (by assumption)
end
/-- a call that raises an own exception of the class C; what the call has made of the ledger stands behind it -/
abbrev RaiseCl (w : World) (mean : ExcName → Option Value) (mg mb : Str → Option Value) (f : Value) (vs : List Value) (C : Addr) (k : Nat) (own own' : List (Addr × Obj)) : Prop :=
  ∀ (dp un : Nat) (gd : Option (List Code)) (cn : Str) (cs : Scope) (a : Addr) (ccd : Value) (cl : List (Str × Addr)) (outer : List Env) (A₀ : Around) (base h₀ : Heap) (L : Addr) (m : Str → Option Value) (s : Shared) (Q E : Value → Shared → Prop),
    Below A₀ base outer h₀ → Fr h₀ L s.heap m → (hd.heap_1 w.params).In h₀ → KX w base → (hd.heap_1 w.params).In base → Top topProg LO mean mg mb base → News h₀ L s.heap own → Top topProg LO mean mg mb h₀ → cs.kind = .function →
    dp + k < 350 → un + 8 * k < 300 →
    (∀ g₂ h' e tk', Fr h₀ L g₂ m → RaisedSN base g₂ (envX cn cs L a ccd cl :: outer) e (.ref C) own' h' → g₂.UpToSlots h' → E (.ref e) { s with heap := h', toks := tk' }) →
    wpAny (model Challenge.rw_pq0901_01.row.prog w) (ktrTop dp un gd cn cs L a ccd cl outer) (call f vs) Q E s
theorem octets_bad_all (w : World) (mean : ExcName → Option Value) (mg mb : Str → Option Value) (own : List (Addr × Obj)) (v : Value) (hv : OctBad own v) : RaiseCl w mean mg mb (.ref 313) [v] 83 1 own own := by
  intro dp un gd cn cs a ccd cl outer A₀ base h₀ L m s Q E B F X Y XB TB N T hk hd hu hE
  rcases hv with rfl | ⟨x, t, rfl⟩ | ⟨i, t, rfl⟩ | ⟨l, its, lc, rfl, hm, hb⟩
  · exact octets_bad w mean mg mb .none (.inl rfl) dp un gd cn cs a ccd cl outer A₀ base h₀ L m s Q E own B F X Y XB TB N T hk hd (by omega) hE
  · exact octets_bad w mean mg mb (.str x t) (.inr ⟨x, t, rfl⟩) dp un gd cn cs a ccd cl outer A₀ base h₀ L m s Q E own B F X Y XB TB N T hk hd (by omega) hE
  · exact octets_bad_int w mean mg mb i t own dp un gd cn cs a ccd cl outer A₀ base h₀ L m s Q E B F X Y XB TB N T hk hd (by omega) hE
  · refine octets_bad_list w mean mg mb l its lc hb own dp un gd cn cs a ccd cl outer A₀ base h₀ L m s Q E B F X Y XB TB (fun p hp => ?_) T hk hd (by omega) fun g₂ h' e tk' f r u => hE g₂ h' e tk' f (raisedSN_sub r fun p hp => .tail _ hp) u
    rcases List.mem_cons.mp hp with rfl | hp
    · exact N _ hm
    · exact N p hp
section
set_option hygiene false in
local macro_rules | `(tactic| x_close) => `(tactic| exact hret _ _)
open PySem.W.X PySem.W.XRun in
set_option maxRecDepth 100000 in
set_option maxHeartbeats 0 in
theorem bytes_bytes_x (prog : Program) (w : World) (h : Heap) (gs : Array GenState) (d : Drawn) (tk : Nat) (os : OsState) (b : Array UInt8) (t : Tok) (Q E : Value → Shared → Prop)
   (hret : ∀ tk' t', Q (.bytes b t') ⟨h, gs, d, tk', os⟩) :
    wpAny (model prog w) AX (call (.type "bytes") [.bytes b t]) Q E ⟨h, gs, d, tk, os⟩ := by
  x_run
end
section
variable {w : World} {A : Around} {E : Value → Shared → Prop} {s : Shared} {Q : Value → Shared → Prop}
theorem bytes_bytes_K {b : Array UInt8} {t : Tok} (hh : A.handled = none) (hd : A.depth ≤ 400) (hu : A.units ≤ 400)
    (h : ∀ tk t', Q (.bytes b t') { s with toks := tk }) :
    wpAny (model Challenge.rw_pq0901_01.row.prog w) A (call (.type "bytes") [.bytes b t]) Q E s :=
  wp_weak (A' := AX) (bytes_bytes_x _ w s.heap s.gens s.drawn s.toks s.os b t Q E h) hh hd rfl rfl hu
end
section
variable {prog : Program} {w : World} {A : Around} {E : Value → Shared → Prop} {s : Shared} {Q : Value → Shared → Prop}
theorem ne_true {a b : Int} {t u : Tok} (e : a ≠ b) (h : Q (.bool true) s) : wpAny (model prog w) A (compareOp .NotEq (.int a t) (.int b u)) Q E s := by
  refine PyProof.Rows.ne_int ?_
  rw [show (a != b) = true from by simpa using e]
  exact h
theorem ne_false {a b : Int} {t u : Tok} (e : a = b) (h : Q (.bool false) s) : wpAny (model prog w) A (compareOp .NotEq (.int a t) (.int b u)) Q E s := by
  refine PyProof.Rows.ne_int ?_
  rw [show (a != b) = false from by simpa using e]
  exact h
end
section
variable {w : World} {A : Around} {E : Value → Shared → Prop} {s : Shared} {base h₀ : Heap} {L : Addr} {m : Str → Option Value} {outer : List Env} {A₀ : Around} {Q : Value → Shared → Prop}
theorem mk_crash_K {n : Int} {t : Tok} (F : Fr h₀ L s.heap m) (B : Below A₀ base outer h₀) (Y : KX w base) (h0 : 0 ≤ n) (h1 : n < 3) (hd : A.depth ≤ 400) (hu : A.units ≤ 400)
    (h : ∀ h' tk e, MadeX s.heap h' e 102 → Q (.ref e) { s with heap := h', toks := tk }) :
    wpAny (model Challenge.rw_pq0901_01.row.prog w) A (call (.ref 102) [.int n t]) Q E s :=
  wp_weak (A' := AXh A.handled) (mk_crash_x _ w s.heap ((Y.keeps B.stays).keeps F.keep) s.gens s.drawn s.toks s.os A.handled n h0 h1 t Q E fun h' e tk' x => h h' tk' e x) rfl hd rfl rfl hu
theorem mk_arg_K {x : Str} {t : Tok} (F : Fr h₀ L s.heap m) (B : Below A₀ base outer h₀) (Y : KX w base) (hd : A.depth ≤ 400) (hu : A.units ≤ 400)
    (h : ∀ h' tk e, MadeX s.heap h' e 52 → Q (.ref e) { s with heap := h', toks := tk }) :
    wpAny (model Challenge.rw_pq0901_01.row.prog w) A (call (.ref 52) [.str x t]) Q E s :=
  wp_weak (A' := AXh A.handled) (mk_arg_x _ w s.heap ((Y.keeps B.stays).keeps F.keep) s.gens s.drawn s.toks s.os A.handled x t Q E fun h' e tk' x => h h' tk' e x) rfl hd rfl rfl hu
end
end Mine
end
section
open PySem PySem.W PyProof.Rows PySem.Calls
set_option linter.unusedVariables false
namespace Mine
section
set_option maxRecDepth 100000 in
set_option maxHeartbeats 4000000 in
theorem write_oct (w : World) (mean : ExcName → Option Value) (mg mb : Str → Option Value) (own : List (Addr × Obj)) (t1 t2 t3 t4 t5 t6 t7 t8 t9 t10 u1 u2 u3 u4 u5 : Tok) (size wr last n : Int) (x dx kept lt un : Addr) (tn : Tok) (v : Value) (h0 : 0 ≤ n) (h1 : n < 2) (hv : OctBad ((x, instObj 302 dx) :: (dx, diskD w t1 t2 t3 t4 t5 t6 t7 t8 t9 t10 u1 u2 u3 u4 u5 size wr last kept lt un false) :: own) v) :
  RaiseCl w mean mg mb (.ref 252) [.ref x, .int n tn, v] 83 2 ((x, instObj 302 dx) :: (dx, diskD w t1 t2 t3 t4 t5 t6 t7 t8 t9 t10 u1 u2 u3 u4 u5 size wr last kept lt un false) :: own) ((x, instObj 302 dx) :: (dx, diskD w t1 t2 t3 t4 t5 t6 t7 t8 t9 t10 u1 u2 u3 u4 u5 size wr last kept lt un false) :: own) := by
  k_with_none
  w_top off
  k_with "execs cons" => (with_reducible refine forget_toks ?_; intro tk'; (rename News _ _ _ _ => hN9); (try dsimp only at hN9))
  k_with "call type:bytes" => (k_here; (with_reducible show wpAny _ _ (call (Value.type "bytes") [Value.int _ _]) _ _ _); k_dflt (refine' bytes_int_K ?h0 ?h1 ?hh ?hd ?hu ?_; (case h0 => omega); (case h1 => omega); (case hh => rfl); (case hd => ktr_room); (case hu => ktr_units)); intro tk' t'; (try dsimp only))
  k_with "call type:bytes" => (k_here; (with_reducible show wpAny _ _ (call (Value.type "bytes") [Value.str _ _]) _ _ _); (refine bytes_str_K (by k_asm) (by k_asm) (by assumption) (by rfl) ?hd ?hu ?_; (case hd => ktr_room); (case hu => ktr_units)); intro h' tk' e' x')
  k_with "call type:bytes" => (k_here; (with_reducible show wpAny _ _ (call (Value.type "bytes") [Value.none]) _ _ _); (refine bytes_none_K (by k_asm) (by k_asm) (by assumption) (by rfl) ?hd ?hu ?_; (case hd => ktr_room); (case hu => ktr_units)); intro h' tk' e' x')
  k_with "noteFrame ref" => (k_here; (refine catch_fresh (by assumption) (by assumption) (by assumption) (XB := by assumption) (by assumption) (tup_test (ns_T _) (ns_V _) (by first | exact exm_T _ | exact exm_V _) rfl rfl rfl) ?_); intro h' g' F' B' c1'; (have X' := Frag.In.keeps (K := Mine.hd.heap_1 _) (by assumption) (Below.stays B')); (have T' := top_base (by assumption) B'))
  k_with "exec Raise some some" => (k_here; k_dflt (refine Raise_two (by rfl) ?_))
  k_with "exec Raise some none" => (k_here; k_dflt (refine Raise_one (by rfl) ?_))
  k_with "call ref" => (k_here; (with_reducible show wpAny _ _ (call (Value.ref 83) [Value.str _ _]) _ _ _); (refine mk_disk_K (by k_asm) (by k_asm) (by assumption) ?hd ?hu ?_; (case hd => ktr_room); (case hu => ktr_units)); intro h' tk' e' x')
  k_with "RaiseFrom" => (refine RaiseFrom.of (by assumption) (isExc_of (Frag.In.keeps (K := Mine.hd.heap_1 _) (by assumption) (Fr.keep (by assumption))) (kts83 _)) (by assumption) ?_; intro h' f'; show wpAny _ _ (leaving _ _) _ _ _)
  k_with "RaiseGo" => (refine RaiseGo.of (by assumption) (isExc_of (Frag.In.keeps (K := Mine.hd.heap_1 _) (by assumption) (Fr.keep (by assumption))) (by first | exact kts83 _ | exact kts102 _ | exact kts52 _)) ?_; show wpAny _ _ (leaving _ _) _ _ _)
  k_with "leaving ref" => (k_here; first
      | (refine' leave_onSN ?k1 ?k2 ?k3 ?k4 ?_; (case k3 => assumption); (case k2 => assumption); (case k1 => assumption); (case k4 => assumption); intro h' R1' R2' U1'; (try dsimp only at R1' U1' ⊢))
      | (refine' leave_made ?k1 ?k0 ?k2 ?k3 ?_; (case k0 => assumption); (case k2 => k_asm); (case k1 => assumption); (case k3 => k_asm); intro h' R1' R2' U1'; (try dsimp only at R1' U1' ⊢))
      | (refine' leave_from ?k1 ?k0 ?k2 ?k3 ?_; (case k0 => assumption); (case k2 => assumption); (case k1 => assumption); (case k3 => assumption); intro h' R1' R2' U1'; (try dsimp only at R1' U1' ⊢)))
  k_with "call ref" => (k_here; (with_reducible show wpAny _ _ (call (Value.ref 102) [Value.int _ _]) _ _ _); (refine mk_crash_K (by k_asm) (by k_asm) (by assumption) ?h0 ?h1 ?hd ?hu ?_; (case h0 => omega); (case h1 => omega); (case hd => ktr_room); (case hu => ktr_units)); intro h' tk' e' x')
  k_with "call ref" => (k_here; (with_reducible show wpAny _ _ (call (Value.ref 52) [Value.str _ _]) _ _ _); (refine mk_arg_K (by k_asm) (by k_asm) (by assumption) ?hd ?hu ?_; (case hd => ktr_room); (case hu => ktr_units)); intro h' tk' e' x')
  k_with "call ref" => (k_here; (with_reducible show wpAny _ _ (call (Value.ref 313) _) _ _ _); k_dflt (refine' octets_bad_all _ _ _ _ _ _ ?v _ _ _ _ _ _ _ _ _ _ _ _ _ _ _ _ _ ?B ?F ?X ?Y ?XB ?TB ?N ?T ?hk ?hd ?hu ?_; (case v => assumption); (case B => k_asm); (case F => k_asm); (case X => k_asm); (case Y => assumption); (case XB => assumption); (case TB => assumption); (case N => k_asm); (case T => k_asm); (case hk => rfl); (case hd => ktr_room); (case hu => ktr_units)); intro g' h' e' tk' F' R' U'; (try dsimp only at R' U' ⊢))
  k_with "compareOp NotEq int int" => (k_here; first | ((with_reducible refine ne_true ?h ?_); (case h => omega)) | ((with_reducible refine ne_false ?h ?_); (case h => omega)))
  k_with "call type:bytes" => (k_here; (with_reducible show wpAny _ _ (call (Value.type "bytes") [Value.bytes _ _]) _ _ _); k_dflt (refine bytes_bytes_K (by rfl) ?hd ?hu ?_; (case hd => ktr_room); (case hu => ktr_units)); intro tk' t'; (try dsimp only))
  unfold RaiseCl
  k_fill
  intro dp un gd cn cs a ccd cl outer A₀ base h₀ L m s Q E B F X Y XB TB N T hk hd hu hE
  refine wpAny_call ?_
  k_dflt cell_enter
  k_steps
  all_goals first | (exfalso; omega) | exact hE _ _ _ _ (by assumption) (by assumption) (by assumption)
set_option maxRecDepth 100000 in
set_option maxHeartbeats 4000000 in
theorem write_num (w : World) (mean : ExcName → Option Value) (mg mb : Str → Option Value) (own : List (Addr × Obj)) (t1 t2 t3 t4 t5 t6 t7 t8 t9 t10 u1 u2 u3 u4 u5 : Tok) (size wr last n : Int) (x dx kept lt un : Addr) (tn : Tok) (v : Value) :
  RaiseCl w mean mg mb (.ref 252) [.ref x, .int 2 tn, v] 83 2 ((x, instObj 302 dx) :: (dx, diskD w t1 t2 t3 t4 t5 t6 t7 t8 t9 t10 u1 u2 u3 u4 u5 size wr last kept lt un false) :: own) ((x, instObj 302 dx) :: (dx, diskD w t1 t2 t3 t4 t5 t6 t7 t8 t9 t10 u1 u2 u3 u4 u5 size wr last kept lt un false) :: own) := by
  k_with_none
  w_top off
  k_with "execs cons" => (with_reducible refine forget_toks ?_; intro tk'; (rename News _ _ _ _ => hN9); (try dsimp only at hN9))
  k_with "call type:bytes" => (k_here; (with_reducible show wpAny _ _ (call (Value.type "bytes") [Value.int _ _]) _ _ _); k_dflt (refine' bytes_int_K ?h0 ?h1 ?hh ?hd ?hu ?_; (case h0 => omega); (case h1 => omega); (case hh => rfl); (case hd => ktr_room); (case hu => ktr_units)); intro tk' t'; (try dsimp only))
  k_with "call type:bytes" => (k_here; (with_reducible show wpAny _ _ (call (Value.type "bytes") [Value.str _ _]) _ _ _); (refine bytes_str_K (by k_asm) (by k_asm) (by assumption) (by rfl) ?hd ?hu ?_; (case hd => ktr_room); (case hu => ktr_units)); intro h' tk' e' x')
  k_with "call type:bytes" => (k_here; (with_reducible show wpAny _ _ (call (Value.type "bytes") [Value.none]) _ _ _); (refine bytes_none_K (by k_asm) (by k_asm) (by assumption) (by rfl) ?hd ?hu ?_; (case hd => ktr_room); (case hu => ktr_units)); intro h' tk' e' x')
  k_with "noteFrame ref" => (k_here; (refine catch_fresh (by assumption) (by assumption) (by assumption) (XB := by assumption) (by assumption) (tup_test (ns_T _) (ns_V _) (by first | exact exm_T _ | exact exm_V _) rfl rfl rfl) ?_); intro h' g' F' B' c1'; (have X' := Frag.In.keeps (K := Mine.hd.heap_1 _) (by assumption) (Below.stays B')); (have T' := top_base (by assumption) B'))
  k_with "exec Raise some some" => (k_here; k_dflt (refine Raise_two (by rfl) ?_))
  k_with "exec Raise some none" => (k_here; k_dflt (refine Raise_one (by rfl) ?_))
  k_with "call ref" => (k_here; (with_reducible show wpAny _ _ (call (Value.ref 83) [Value.str _ _]) _ _ _); (refine mk_disk_K (by k_asm) (by k_asm) (by assumption) ?hd ?hu ?_; (case hd => ktr_room); (case hu => ktr_units)); intro h' tk' e' x')
  k_with "RaiseFrom" => (refine RaiseFrom.of (by assumption) (isExc_of (Frag.In.keeps (K := Mine.hd.heap_1 _) (by assumption) (Fr.keep (by assumption))) (kts83 _)) (by assumption) ?_; intro h' f'; show wpAny _ _ (leaving _ _) _ _ _)
  k_with "RaiseGo" => (refine RaiseGo.of (by assumption) (isExc_of (Frag.In.keeps (K := Mine.hd.heap_1 _) (by assumption) (Fr.keep (by assumption))) (by first | exact kts83 _ | exact kts102 _ | exact kts52 _)) ?_; show wpAny _ _ (leaving _ _) _ _ _)
  k_with "leaving ref" => (k_here; first
      | (refine' leave_onSN ?k1 ?k2 ?k3 ?k4 ?_; (case k3 => assumption); (case k2 => assumption); (case k1 => assumption); (case k4 => assumption); intro h' R1' R2' U1'; (try dsimp only at R1' U1' ⊢))
      | (refine' leave_made ?k1 ?k0 ?k2 ?k3 ?_; (case k0 => assumption); (case k2 => k_asm); (case k1 => assumption); (case k3 => k_asm); intro h' R1' R2' U1'; (try dsimp only at R1' U1' ⊢))
      | (refine' leave_from ?k1 ?k0 ?k2 ?k3 ?_; (case k0 => assumption); (case k2 => assumption); (case k1 => assumption); (case k3 => assumption); intro h' R1' R2' U1'; (try dsimp only at R1' U1' ⊢)))
  k_with "call ref" => (k_here; (with_reducible show wpAny _ _ (call (Value.ref 102) [Value.int _ _]) _ _ _); (refine mk_crash_K (by k_asm) (by k_asm) (by assumption) ?h0 ?h1 ?hd ?hu ?_; (case h0 => omega); (case h1 => omega); (case hd => ktr_room); (case hu => ktr_units)); intro h' tk' e' x')
  k_with "call ref" => (k_here; (with_reducible show wpAny _ _ (call (Value.ref 52) [Value.str _ _]) _ _ _); (refine mk_arg_K (by k_asm) (by k_asm) (by assumption) ?hd ?hu ?_; (case hd => ktr_room); (case hu => ktr_units)); intro h' tk' e' x')
  k_with "call ref" => (k_here; (with_reducible show wpAny _ _ (call (Value.ref 313) _) _ _ _); k_dflt (refine' octets_bad_all _ _ _ _ _ _ ?v _ _ _ _ _ _ _ _ _ _ _ _ _ _ _ _ _ ?B ?F ?X ?Y ?XB ?TB ?N ?T ?hk ?hd ?hu ?_; (case v => assumption); (case B => k_asm); (case F => k_asm); (case X => k_asm); (case Y => assumption); (case XB => assumption); (case TB => assumption); (case N => k_asm); (case T => k_asm); (case hk => rfl); (case hd => ktr_room); (case hu => ktr_units)); intro g' h' e' tk' F' R' U'; (try dsimp only at R' U' ⊢))
  k_with "compareOp NotEq int int" => (k_here; first | ((with_reducible refine ne_true ?h ?_); (case h => omega)) | ((with_reducible refine ne_false ?h ?_); (case h => omega)))
  k_with "call type:bytes" => (k_here; (with_reducible show wpAny _ _ (call (Value.type "bytes") [Value.bytes _ _]) _ _ _); k_dflt (refine bytes_bytes_K (by rfl) ?hd ?hu ?_; (case hd => ktr_room); (case hu => ktr_units)); intro tk' t'; (try dsimp only))
  unfold RaiseCl
  k_fill
  intro dp un gd cn cs a ccd cl outer A₀ base h₀ L m s Q E B F X Y XB TB N T hk hd hu hE
  refine wpAny_call ?_
  k_dflt cell_enter
  k_steps
  all_goals first | (exfalso; omega) | exact hE _ _ _ _ (by assumption) (by assumption) (by assumption)
set_option maxRecDepth 100000 in
set_option maxHeartbeats 4000000 in
theorem write_len (w : World) (mean : ExcName → Option Value) (mg mb : Str → Option Value) (own : List (Addr × Obj)) (t1 t2 t3 t4 t5 t6 t7 t8 t9 t10 u1 u2 u3 u4 u5 : Tok) (size wr last n : Int) (x dx kept lt un : Addr) (tn : Tok) (b : Array UInt8) (t : Tok) (h0 : 0 ≤ n) (h1 : n < 2) (hb : b.size ≤ 100) (hs0 : 1 ≤ size) (hs1 : size ≤ 4) (hne : size < (b.size : Int)) :
  RaiseCl w mean mg mb (.ref 252) [.ref x, .int n tn, .bytes b t] 83 2 ((x, instObj 302 dx) :: (dx, diskD w t1 t2 t3 t4 t5 t6 t7 t8 t9 t10 u1 u2 u3 u4 u5 size wr last kept lt un false) :: own) ((x, instObj 302 dx) :: (dx, diskD w t1 t2 t3 t4 t5 t6 t7 t8 t9 t10 u1 u2 u3 u4 u5 size wr last kept lt un false) :: own) := by
  k_with_none
  w_top off
  k_with "execs cons" => (with_reducible refine forget_toks ?_; intro tk'; (rename News _ _ _ _ => hN9); (try dsimp only at hN9))
  k_with "call type:bytes" => (k_here; (with_reducible show wpAny _ _ (call (Value.type "bytes") [Value.int _ _]) _ _ _); k_dflt (refine' bytes_int_K ?h0 ?h1 ?hh ?hd ?hu ?_; (case h0 => omega); (case h1 => omega); (case hh => rfl); (case hd => ktr_room); (case hu => ktr_units)); intro tk' t'; (try dsimp only))
  k_with "call type:bytes" => (k_here; (with_reducible show wpAny _ _ (call (Value.type "bytes") [Value.str _ _]) _ _ _); (refine bytes_str_K (by k_asm) (by k_asm) (by assumption) (by rfl) ?hd ?hu ?_; (case hd => ktr_room); (case hu => ktr_units)); intro h' tk' e' x')
  k_with "call type:bytes" => (k_here; (with_reducible show wpAny _ _ (call (Value.type "bytes") [Value.none]) _ _ _); (refine bytes_none_K (by k_asm) (by k_asm) (by assumption) (by rfl) ?hd ?hu ?_; (case hd => ktr_room); (case hu => ktr_units)); intro h' tk' e' x')
  k_with "noteFrame ref" => (k_here; (refine catch_fresh (by assumption) (by assumption) (by assumption) (XB := by assumption) (by assumption) (tup_test (ns_T _) (ns_V _) (by first | exact exm_T _ | exact exm_V _) rfl rfl rfl) ?_); intro h' g' F' B' c1'; (have X' := Frag.In.keeps (K := Mine.hd.heap_1 _) (by assumption) (Below.stays B')); (have T' := top_base (by assumption) B'))
  k_with "exec Raise some some" => (k_here; k_dflt (refine Raise_two (by rfl) ?_))
  k_with "exec Raise some none" => (k_here; k_dflt (refine Raise_one (by rfl) ?_))
  k_with "call ref" => (k_here; (with_reducible show wpAny _ _ (call (Value.ref 83) [Value.str _ _]) _ _ _); (refine mk_disk_K (by k_asm) (by k_asm) (by assumption) ?hd ?hu ?_; (case hd => ktr_room); (case hu => ktr_units)); intro h' tk' e' x')
  k_with "RaiseFrom" => (refine RaiseFrom.of (by assumption) (isExc_of (Frag.In.keeps (K := Mine.hd.heap_1 _) (by assumption) (Fr.keep (by assumption))) (kts83 _)) (by assumption) ?_; intro h' f'; show wpAny _ _ (leaving _ _) _ _ _)
  k_with "RaiseGo" => (refine RaiseGo.of (by assumption) (isExc_of (Frag.In.keeps (K := Mine.hd.heap_1 _) (by assumption) (Fr.keep (by assumption))) (by first | exact kts83 _ | exact kts102 _ | exact kts52 _)) ?_; show wpAny _ _ (leaving _ _) _ _ _)
  k_with "leaving ref" => (k_here; first
      | (refine' leave_onSN ?k1 ?k2 ?k3 ?k4 ?_; (case k3 => assumption); (case k2 => assumption); (case k1 => assumption); (case k4 => assumption); intro h' R1' R2' U1'; (try dsimp only at R1' U1' ⊢))
      | (refine' leave_made ?k1 ?k0 ?k2 ?k3 ?_; (case k0 => assumption); (case k2 => k_asm); (case k1 => assumption); (case k3 => k_asm); intro h' R1' R2' U1'; (try dsimp only at R1' U1' ⊢))
      | (refine' leave_from ?k1 ?k0 ?k2 ?k3 ?_; (case k0 => assumption); (case k2 => assumption); (case k1 => assumption); (case k3 => assumption); intro h' R1' R2' U1'; (try dsimp only at R1' U1' ⊢)))
  k_with "call ref" => (k_here; (with_reducible show wpAny _ _ (call (Value.ref 102) [Value.int _ _]) _ _ _); (refine mk_crash_K (by k_asm) (by k_asm) (by assumption) ?h0 ?h1 ?hd ?hu ?_; (case h0 => omega); (case h1 => omega); (case hd => ktr_room); (case hu => ktr_units)); intro h' tk' e' x')
  k_with "call ref" => (k_here; (with_reducible show wpAny _ _ (call (Value.ref 52) [Value.str _ _]) _ _ _); (refine mk_arg_K (by k_asm) (by k_asm) (by assumption) ?hd ?hu ?_; (case hd => ktr_room); (case hu => ktr_units)); intro h' tk' e' x')
  k_with "call ref" => (k_here; (with_reducible show wpAny _ _ (call (Value.ref 313) _) _ _ _); k_dflt (refine' octets_bad_all _ _ _ _ _ _ ?v _ _ _ _ _ _ _ _ _ _ _ _ _ _ _ _ _ ?B ?F ?X ?Y ?XB ?TB ?N ?T ?hk ?hd ?hu ?_; (case v => assumption); (case B => k_asm); (case F => k_asm); (case X => k_asm); (case Y => assumption); (case XB => assumption); (case TB => assumption); (case N => k_asm); (case T => k_asm); (case hk => rfl); (case hd => ktr_room); (case hu => ktr_units)); intro g' h' e' tk' F' R' U'; (try dsimp only at R' U' ⊢))
  k_with "compareOp NotEq int int" => (k_here; first | ((with_reducible refine ne_true ?h ?_); (case h => omega)) | ((with_reducible refine ne_false ?h ?_); (case h => omega)))
  k_with "call type:bytes" => (k_here; (with_reducible show wpAny _ _ (call (Value.type "bytes") [Value.bytes _ _]) _ _ _); k_dflt (refine bytes_bytes_K (by rfl) ?hd ?hu ?_; (case hd => ktr_room); (case hu => ktr_units)); intro tk' t'; (try dsimp only))
  unfold RaiseCl
  k_fill
  intro dp un gd cn cs a ccd cl outer A₀ base h₀ L m s Q E B F X Y XB TB N T hk hd hu hE
  refine wpAny_call ?_
  k_dflt cell_enter
  k_steps
  all_goals first | (exfalso; omega) | exact hE _ _ _ _ (by assumption) (by assumption) (by assumption)
set_option maxRecDepth 100000 in
set_option maxHeartbeats 4000000 in
theorem write_crash (w : World) (mean : ExcName → Option Value) (mg mb : Str → Option Value) (own : List (Addr × Obj)) (t1 t2 t3 t4 t5 t6 t7 t8 t9 t10 u1 u2 u3 u4 u5 : Tok) (size wr last n : Int) (x dx : Nat) (kept lt un : Addr) (tn : Tok) (b : Array UInt8) (t : Tok) (h0 : 0 ≤ n) (h1 : n < 2) (hb : b.size ≤ 100) (hs0 : 1 ≤ size) (hs1 : size ≤ 4) (hne : (b.size : Int) = size) (hw0 : 0 ≤ wr) (hw1 : wr < 3) (hl : last ≤ wr) (hxd : x ≠ dx) (ho : OwnOff own [dx]) :
  RaiseCl w mean mg mb (.ref 252) [.ref x, .int n tn, .bytes b t] 102 3 ((x, instObj 302 dx) :: (dx, diskD w t1 t2 t3 t4 t5 t6 t7 t8 t9 t10 u1 u2 u3 u4 u5 size wr last kept lt un false) :: own) ((x, instObj 302 dx) :: (dx, diskD w t1 t2 t3 t4 t5 t6 t7 t8 t9 t10 u1 u2 u3 u4 u5 size wr last kept lt un true) :: own) := by
  k_with_none
  w_top off
  k_with "execs cons" => (with_reducible refine forget_toks ?_; intro tk'; (rename News _ _ _ _ => hN9); (try dsimp only at hN9))
  k_with "call type:bytes" => (k_here; (with_reducible show wpAny _ _ (call (Value.type "bytes") [Value.int _ _]) _ _ _); k_dflt (refine' bytes_int_K ?h0 ?h1 ?hh ?hd ?hu ?_; (case h0 => omega); (case h1 => omega); (case hh => rfl); (case hd => ktr_room); (case hu => ktr_units)); intro tk' t'; (try dsimp only))
  k_with "call type:bytes" => (k_here; (with_reducible show wpAny _ _ (call (Value.type "bytes") [Value.str _ _]) _ _ _); (refine bytes_str_K (by k_asm) (by k_asm) (by assumption) (by rfl) ?hd ?hu ?_; (case hd => ktr_room); (case hu => ktr_units)); intro h' tk' e' x')
  k_with "call type:bytes" => (k_here; (with_reducible show wpAny _ _ (call (Value.type "bytes") [Value.none]) _ _ _); (refine bytes_none_K (by k_asm) (by k_asm) (by assumption) (by rfl) ?hd ?hu ?_; (case hd => ktr_room); (case hu => ktr_units)); intro h' tk' e' x')
  k_with "noteFrame ref" => (k_here; (refine catch_fresh (by assumption) (by assumption) (by assumption) (XB := by assumption) (by assumption) (tup_test (ns_T _) (ns_V _) (by first | exact exm_T _ | exact exm_V _) rfl rfl rfl) ?_); intro h' g' F' B' c1'; (have X' := Frag.In.keeps (K := Mine.hd.heap_1 _) (by assumption) (Below.stays B')); (have T' := top_base (by assumption) B'))
  k_with "exec Raise some some" => (k_here; k_dflt (refine Raise_two (by rfl) ?_))
  k_with "exec Raise some none" => (k_here; k_dflt (refine Raise_one (by rfl) ?_))
  k_with "call ref" => (k_here; (with_reducible show wpAny _ _ (call (Value.ref 83) [Value.str _ _]) _ _ _); (refine mk_disk_K (by k_asm) (by k_asm) (by assumption) ?hd ?hu ?_; (case hd => ktr_room); (case hu => ktr_units)); intro h' tk' e' x')
  k_with "RaiseFrom" => (refine RaiseFrom.of (by assumption) (isExc_of (Frag.In.keeps (K := Mine.hd.heap_1 _) (by assumption) (Fr.keep (by assumption))) (kts83 _)) (by assumption) ?_; intro h' f'; show wpAny _ _ (leaving _ _) _ _ _)
  k_with "RaiseGo" => (refine RaiseGo.of (by assumption) (isExc_of (Frag.In.keeps (K := Mine.hd.heap_1 _) (by assumption) (Fr.keep (by assumption))) (by first | exact kts83 _ | exact kts102 _ | exact kts52 _)) ?_; show wpAny _ _ (leaving _ _) _ _ _)
  k_with "leaving ref" => (k_here; first
      | (refine' leave_onSN ?k1 ?k2 ?k3 ?k4 ?_; (case k3 => assumption); (case k2 => assumption); (case k1 => assumption); (case k4 => assumption); intro h' R1' R2' U1'; (try dsimp only at R1' U1' ⊢))
      | (refine' leave_made ?k1 ?k0 ?k2 ?k3 ?_; (case k0 => assumption); (case k2 => k_asm); (case k1 => assumption); (case k3 => k_asm); intro h' R1' R2' U1'; (try dsimp only at R1' U1' ⊢))
      | (refine' leave_from ?k1 ?k0 ?k2 ?k3 ?_; (case k0 => assumption); (case k2 => assumption); (case k1 => assumption); (case k3 => assumption); intro h' R1' R2' U1'; (try dsimp only at R1' U1' ⊢)))
  k_with "call ref" => (k_here; (with_reducible show wpAny _ _ (call (Value.ref 102) [Value.int _ _]) _ _ _); (refine mk_crash_K (by k_asm) (by k_asm) (by assumption) ?h0 ?h1 ?hd ?hu ?_; (case h0 => omega); (case h1 => omega); (case hd => ktr_room); (case hu => ktr_units)); intro h' tk' e' x')
  k_with "call ref" => (k_here; (with_reducible show wpAny _ _ (call (Value.ref 52) [Value.str _ _]) _ _ _); (refine mk_arg_K (by k_asm) (by k_asm) (by assumption) ?hd ?hu ?_; (case hd => ktr_room); (case hu => ktr_units)); intro h' tk' e' x')
  k_with "call ref" => (k_here; (with_reducible show wpAny _ _ (call (Value.ref 313) _) _ _ _); k_dflt (refine' octets_bad_all _ _ _ _ _ _ ?v _ _ _ _ _ _ _ _ _ _ _ _ _ _ _ _ _ ?B ?F ?X ?Y ?XB ?TB ?N ?T ?hk ?hd ?hu ?_; (case v => assumption); (case B => k_asm); (case F => k_asm); (case X => k_asm); (case Y => assumption); (case XB => assumption); (case TB => assumption); (case N => k_asm); (case T => k_asm); (case hk => rfl); (case hd => ktr_room); (case hu => ktr_units)); intro g' h' e' tk' F' R' U'; (try dsimp only at R' U' ⊢))
  k_with "compareOp NotEq int int" => (k_here; first | ((with_reducible refine ne_true ?h ?_); (case h => omega)) | ((with_reducible refine ne_false ?h ?_); (case h => omega)))
  k_with "call type:bytes" => (k_here; (with_reducible show wpAny _ _ (call (Value.type "bytes") [Value.bytes _ _]) _ _ _); k_dflt (refine bytes_bytes_K (by rfl) ?hd ?hu ?_; (case hd => ktr_room); (case hu => ktr_units)); intro tk' t'; (try dsimp only))
  unfold RaiseCl
  k_fill
  intro dp un gd cn cs a ccd cl outer A₀ base h₀ L m s Q E B F X Y XB TB N T hk hd hu hE
  refine wpAny_call ?_
  k_dflt cell_enter
  k_steps
  all_goals first | (exfalso; omega) | exact hE _ _ _ _ (by assumption) (by assumption) (by assumption)
end
end Mine
end
section
open PySem PySem.W PyProof.Rows PySem.Calls PySem.Spec
set_option linter.unusedVariables false
set_option maxRecDepth 100000
namespace Mine
theorem frsX_mem {name : Str} {scope : Scope} {L a b : Addr} {cd : Value} {cl : List (Str × Addr)} {outer : List Env} (hm : b ∈ frs (envX name scope L a cd cl :: outer)) : b = L ∨ b ∈ frs outer := by
  obtain ⟨env, he, hf⟩ := List.mem_filterMap.mp hm
  rcases List.mem_cons.mp he with rfl | he
  · exact .inl (Option.some.inj hf).symm
  · exact .inr (List.mem_filterMap.mpr ⟨env, he, hf⟩)
section
variable {M : Model} {A : Around} {E : Value → Shared → Prop} {s' : Shared} {base g g₂ h : Heap} {outer : List Env} {L a e : Addr} {m : Str → Option Value} {name : Str} {scope : Scope} {cd : Value} {Q : Unit → Shared → Prop} {news : List (Addr × Obj)} {cl : List (Str × Addr)}
/-- an exception goes on through a frame that closes over names -/
theorem leave_onX {cls : Value} (K : Below A base outer g) (F : Fr g L g₂ m) (R : RaisedSN base g₂ (envX name scope L a cd cl :: outer) e cls news s'.heap) (hsm : g₂.UpToSlots s'.heap)
    (hQ : ∀ h', RaisedSN base g outer e cls news h' → RaisedN base outer e cls news h' → g.UpToSlots h' → Q () { s' with heap := h' }) :
    wpAny M (A.deeper (envX name scope L a cd cl)) (leaving (envX name scope L a cd cl) (.ref e)) Q E s' := by
  obtain ⟨B, a0, hB, hBG, hl, hfl⟩ := R
  exact wpAny_leaves_onW (Around.frames_deeper K.stack) rfl hfl fun h' x1 x2 =>
    have R : RaisedSN base g outer e cls news h' := ⟨B, a0, hB, fun b o q nm => hBG b o (F.keep b o q) (fun hm => by
      rcases frsX_mem hm with z | z
      · rw [z, kts_self F] at q
        cases q
      · exact nm z), fun q hq => ⟨(hl q hq).1, kts_none F.keep (hl q hq).2.1, (hl q hq).2.2⟩, x1⟩
    hQ h' R R.toN ((Heap.UpToSlots.of_keeps F.keep).trans (hsm.trans x2))
end
section
variable {A₀ A : Around} {base h₀ hs g g' h' : Heap} {outer : List Env} {L L' a : Addr} {m m' : Str → Option Value} {cn : Str} {cs : Scope} {ccd : Value} {cl : List (Str × Addr)} {news news' : List (Addr × Obj)} {K : Frag} {p : Program} {loose : List Str} {mean : ExcName → Option Value} {mg mb : Str → Option Value}
/-- the ground of a frame that calls -/
theorem enterX (B : Below A₀ base outer h₀) (s : Shared) (F : Fr h₀ L s.heap m) (N : News h₀ L s.heap news) (D : KtsDicts (frs outer) h₀) (hA : A.frames = some (envX cn cs L a ccd cl :: outer)) (hck : cs.kind = .function) :
    Fr h₀ L (hideAll s.heap (news.map (·.1))) m ∧ Below A base (envX cn cs L a ccd cl :: outer) (hideAll s.heap (news.map (·.1))) ∧ h₀.StaysIn (hideAll s.heap (news.map (·.1))) ∧ KtsDicts (frs (envX cn cs L a ccd cl :: outer)) (hideAll s.heap (news.map (·.1))) := by
  obtain ⟨FG, BG, st, _⟩ := groundX (s := s) (R := fun _ _ => True) (A := A) (env := envX cn cs L a ccd cl) B F N hA rfl hck
  refine ⟨FG, BG, st, fun b hb => ?_⟩
  rcases frsX_mem hb with rfl | hb
  · obtain ⟨o, es, ep, ho, hd, _⟩ := FG.ns
    exact ⟨o, es, ep, ho, hd⟩
  · obtain ⟨o, es, n, ho, hd⟩ := D b hb
    exact ⟨o, es, n, st b o ho, hd⟩
/-- back in the frame that called, the frames' slots turned -/
theorem ground_back (B : Below A₀ base outer h₀) (F : Fr h₀ L hs m) (FG : Fr h₀ L g m) (st : h₀.StaysIn g) (T' : KtsTurn (frs (envX cn cs L a ccd cl :: outer)) g g') (F' : Fr g' L' h' m') (N' : News g' L' h' news')
    (XB : K.In base) (TB : Top p loose mean mg mb base) (D : KtsDicts (frs outer) h₀) :
    ∃ h₁, KtsTurn (frs outer) h₀ h₁ ∧ Fr h₁ L h' m ∧ News h₁ L h' news' ∧ Below A₀ base outer h₁ ∧ K.In h₁ ∧ Top p loose mean mg mb h₁ ∧ KtsDicts (frs outer) h₁ := by
  have nL₀ : h₀.get? L = none := kts_self F
  obtain ⟨oL, es, ep, hLg, hLd, hLk, hLf⟩ := FG.ns
  obtain ⟨sl, hs'⟩ := T'.up hLg
  obtain ⟨T₁, S₁⟩ := kts_turn_at (h := h') (fs := frs outer) (g := h₀)
    (fun b hb => by
      obtain ⟨_, o, ho', _⟩ := B.frames.mem hb
      exact ⟨o, ho'⟩)
    (fun b o e nmem => F'.keep b o (T'.other b o (st b o e) (fun q => by
      rcases frsX_mem q with z | z
      · rw [z, nL₀] at e
        cases e
      · exact nmem z)))
    (fun b o e hm => by
      obtain ⟨sl', hs''⟩ := T'.up (st b o e)
      exact ⟨sl', F'.keep _ _ hs''⟩)
  have B₃ : Below A₀ base outer (ktsHeap h' (frs outer) h₀) := ⟨B.stack, fun b o e => T₁.other b o (B.stays b o e) (fun hm => by
    rw [(B.frames.mem hm).1] at e
    cases e), B.frames.of_keeps fun b o e _ => by
    obtain ⟨sl', hs''⟩ := T₁.up e
    exact ⟨_, hs'', rfl⟩⟩
  refine ⟨_, T₁, ⟨⟨_, es, ep, F'.keep _ _ hs', hLd, hLk, hLf⟩, S₁, by rw [T₁.size]; exact F.above⟩, fun q hq => ⟨(N' q hq).1, fun z => ?_, ?_⟩, B₃, XB.keeps B₃.stays, TB.keeps B₃.stays, D.turn T₁⟩
  · have := (N' q hq).2.2; rw [z, hs'] at this; cases this
  · refine T₁.none_ _ ?_
    cases z : h₀.get? q.1 with
    | none => rfl
    | some o =>
      obtain ⟨sl', hs''⟩ := T'.up (st _ _ z)
      have := (N' q hq).2.2
      rw [hs''] at this
      cases this
end
/-- how a call comes back whose frames' slots may have turned -/
def LeaveT (fs : List Addr) (A₀ : Around) (base : Heap) (outer : List Env) (K : Frag) (p : Program) (loose : List Str) (mean : ExcName → Option Value) (mg mb : Str → Option Value) (h₀ : Heap) (L : Addr) (m : Str → Option Value) (g : Heap) (R : Result → Shared → Prop) (v : Value) (s' : Shared) : Prop :=
  ∃ g' L' m' news', KtsTurn fs g g' ∧ Fr g' L' s'.heap m' ∧ News g' L' s'.heap news' ∧ ∀ h₁, KtsTurn (frs outer) h₀ h₁ → Fr h₁ L s'.heap m → News h₁ L s'.heap news' → Below A₀ base outer h₁ → K.In h₁ → Top p loose mean mg mb h₁ →
    KtsDicts (frs outer) h₁ → R (.ok (.ret v)) s'
theorem LeaveT.intro {fs : List Addr} {A₀ : Around} {base : Heap} {outer : List Env} {K : Frag} {p : Program} {loose : List Str} {mean : ExcName → Option Value} {mg mb : Str → Option Value} {h₀ g g' : Heap} {L L' : Addr} {m m' : Str → Option Value} {news' : List (Addr × Obj)} {R : Result → Shared → Prop} {v : Value} {s' : Shared}
    (F' : Fr g' L' s'.heap m') (N' : News g' L' s'.heap news') (T : KtsTurn fs g g')
    (k : ∀ h₁, KtsTurn (frs outer) h₀ h₁ → Fr h₁ L s'.heap m → News h₁ L s'.heap news' → Below A₀ base outer h₁ → K.In h₁ → Top p loose mean mg mb h₁ → KtsDicts (frs outer) h₁ → R (.ok (.ret v)) s') :
    LeaveT fs A₀ base outer K p loose mean mg mb h₀ L m g R v s' := ⟨g', L', m', news', T, F', N', k⟩
section
variable {prog : Program} {w : World} {A₀ A : Around} {s : Shared} {base h₀ : Heap} {outer : List Env} {L a : Addr} {m : Str → Option Value} {cn : Str} {cs : Scope} {ccd : Value} {cl : List (Str × Addr)} {news : List (Addr × Obj)} {K : Frag} {p : Program} {loose : List Str} {mean : ExcName → Option Value} {mg mb : Str → Option Value}
    {R : Result → Shared → Prop} {name qual : Str} {params : Arguments} {body : List Stmt} {scope : Scope} {dV kV doc pm cdv ct oc : Value} {an od : Option Addr} {osl : Array (Option Value)} {f : Addr} {args : Args} {binds : List (Str × Value)}
theorem code_T (B : Below A₀ base outer h₀) (F : Fr h₀ L s.heap m) (X₀ : K.In h₀) (N : News h₀ L s.heap news) (T : Top p loose mean mg mb h₀) (XB : K.In base) (TB : Top p loose mean mg mb base) (D : KtsDicts (frs outer) h₀)
    (hA : A.frames = some (envX cn cs L a ccd cl :: outer))
    (ho : K.lookup f = some ⟨oc, od, .func (fnOf name qual params body scope dV kV doc pm an cdv ct), osl⟩) (hcd : codeIn K cdv qual = true) (hroom : A.depth < recursionLimit)
    (hbind : BindsTo s (fnOf name qual params body scope dV kV doc pm an cdv ct) args binds) (hloc : ∀ y ∈ binds, scope.names.lookup y.1 = some .local)
    (h : ∀ g L' h₁, Fr h₀ L g m → Fr g L' h₁ (fun y => binds.reverse.lookup y) → News g L' h₁ news → Below A base (envX cn cs L a ccd cl :: outer) g → K.In g → Top p loose mean mg mb g → KtsDicts (frs (envX cn cs L a ccd cl :: outer)) g →
      wpAny (model prog w) (A.deeper (envOf qual scope L' f cdv)) (execs body (envOf qual scope L' f cdv))
        (fun fl s' => LeaveT (frs (envX cn cs L a ccd cl :: outer)) A₀ base outer K p loose mean mg mb h₀ L m g R (match fl with | .ret v => v | _ => .none) s')
        (fun e s' => wpAny (model prog w) (A.deeper (envOf qual scope L' f cdv)) (leaving (envOf qual scope L' f cdv) e) (fun _ s'' => R (.error e) s'') (fun e' s'' => R (.error e') s'') s')
        { s with heap := h₁, toks := s.toks + binds.length })
    (hck : cs.kind = .function) (hco : scope.isCoroutine = false) (hgen : scope.isGenerator = false) (hk : scope.kind = .function)
    (hcell : ∀ x ∈ scope.names, x.2 ≠ .cell) : codeAny (model prog w) A (.call (.ref f) args) R s := by
  have X := X₀.keeps F.keep
  refine codeAny_call_def (fd := fnOf name qual params body scope dV kV doc pm an cdv ct) (body := body) (binds := binds) hroom (X _ _ ho) rfl (T.nolimit.keeps F.keep) (codeRec_of X hcd) rfl hbind hcell hloc (fun h₁ hns hk₁ => ?_) hco hgen hk
  obtain ⟨FG, BG, st, DG⟩ := enterX (A := A) (cl := cl) B s F N D hA hck
  refine wpAny_mono (h _ s.heap.objs.size h₁ FG ⟨hns, fun b o e => hk₁ b o (of_hideAll _ e), Nat.le_of_eq (hideAll_size _ _)⟩
    (fun p hp => ⟨hk₁ _ _ (N p hp).1, Nat.ne_of_lt (Heap.lt_size (N p hp).1), hideAll_none _ (List.mem_map_of_mem hp)⟩) BG (X₀.keeps st) (T.keeps st) DG) (fun fl s' hl => ?_) fun _ _ y => y
  obtain ⟨g', L', m', news', T', F', N', k⟩ := hl
  obtain ⟨h₂, x1, x2, x3, x4, x5, x6, x7⟩ := ground_back B F FG st T' F' N' XB TB D
  exact k h₂ x1 x2 x3 x4 x5 x6 x7
theorem code_TC (B : Below A₀ base outer h₀) (F : Fr h₀ L s.heap m) (X₀ : K.In h₀) (N : News h₀ L s.heap news) (T : Top p loose mean mg mb h₀) (XB : K.In base) (TB : Top p loose mean mg mb base) (D : KtsDicts (frs outer) h₀)
    (hA : A.frames = some (envX cn cs L a ccd cl :: outer))
    (ho : K.lookup f = some ⟨oc, od, .func (fnOf name qual params body scope dV kV doc pm an cdv ct), osl⟩) (hcd : codeIn K cdv qual = true) (hroom : A.depth < recursionLimit)
    (hbind : BindsTo s (fnOf name qual params body scope dV kV doc pm an cdv ct) args binds) (hkind : (binds.all fun y => scope.names.lookup y.1 == some .local || scope.names.lookup y.1 == some .cell) = true)
    (hnd : ((cellsFrom 0 scope.names []).map (·.1)).Nodup)
    (h : ∀ g L' h₁ tk cells, Fr h₀ L g m → Fr g L' h₁ (bindL (envOfC qual scope L' f cdv).kindOf binds fun _ => none) → News g L' h₁ (cells ++ news) →
      CellsAre (bindC (envOfC qual scope L' f cdv).kindOf binds fun _ => none) (cellsFrom (L' + 1) scope.names []) cells → Below A base (envX cn cs L a ccd cl :: outer) g → K.In g → Top p loose mean mg mb g → KtsDicts (frs (envX cn cs L a ccd cl :: outer)) g → (∀ p ∈ news, p.1 < L') →
      wpAny (model prog w) (A.deeper (envOfC qual scope L' f cdv)) (execs body (envOfC qual scope L' f cdv))
        (fun fl s' => LeaveT (frs (envX cn cs L a ccd cl :: outer)) A₀ base outer K p loose mean mg mb h₀ L m g R (match fl with | .ret v => v | _ => .none) s')
        (fun e s' => wpAny (model prog w) (A.deeper (envOfC qual scope L' f cdv)) (leaving (envOfC qual scope L' f cdv) e) (fun _ s'' => R (.error e) s'') (fun e' s'' => R (.error e') s'') s')
        { s with heap := h₁, toks := tk })
    (hck : cs.kind = .function) (hco : scope.isCoroutine = false) (hgen : scope.isGenerator = false) (hk : scope.kind = .function) : codeAny (model prog w) A (.call (.ref f) args) R s := by
  have X := X₀.keeps F.keep
  obtain ⟨FG, BG, st, DG⟩ := enterX (A := A) (cl := cl) B s F N D hA hck
  refine codeAny_call_function hroom (X _ _ ho) rfl hco hgen rfl (codeRec_of X hcd) (hbind _ _ _ _ ?_)
  refine wpAny_newFunctionEnv_cells hk (kindsX hkind _) fun env' he s' x => ?_
  subst he
  refine ⟨(T.nolimit.keeps F.keep).keeps x.toInCall.keep, codeAny_func ?_⟩
  obtain ⟨h₁, tk, rfl, _⟩ := x.done
  have hk₁ := x.toInCall.keep
  obtain ⟨cells, NC, Y⟩ := Cl.news (h₀ := s.heap) (Nat.le_refl _) fun n c hm => ⟨x.cell n c (lookup_of_mem_nodup (cellsFrom_names scope.names 0 (s.heap.objs.size + 1) [] [] rfl ▸ hnd) hm), x.above n c hm⟩
  refine wpAny_mono (h _ s.heap.objs.size h₁ tk cells FG ⟨x.toInCall.ns, fun b o e => hk₁ b o (of_hideAll _ e), Nat.le_of_eq (hideAll_size _ _)⟩ (fun p hp => ?_) Y BG (X₀.keeps st) (T.keeps st) DG (fun p hp => Heap.lt_size (N p hp).1)) (fun fl s' hl => ?_) fun _ _ y => y
  · rcases List.mem_append.mp hp with hp | hp
    · refine ⟨(NC p hp).1, (NC p hp).2.1, ?_⟩
      cases q : (hideAll s.heap (news.map (·.1))).get? p.1 with
      | none => rfl
      | some o => have := of_hideAll _ q; rw [(NC p hp).2.2] at this; cases this
    · exact ⟨hk₁ _ _ (N p hp).1, Nat.ne_of_lt (Heap.lt_size (N p hp).1), hideAll_none _ (List.mem_map_of_mem hp)⟩
  · obtain ⟨g', L', m', news', T', F', N', k⟩ := hl
    obtain ⟨h₂, x1, x2, x3, x4, x5, x6, x7⟩ := ground_back B F FG st T' F' N' XB TB D
    exact k h₂ x1 x2 x3 x4 x5 x6 x7
end
section
variable {prog : Program} {w : World} {A₀ : Around} {E : Value → Shared → Prop} {s' : Shared} {base g g₀ G : Heap} {outer : List Env} {L a e C : Addr} {m : Str → Option Value} {name : Str} {scope : Scope} {cd : Value}
  {b₀ : Stmt} {suite : List Stmt} {pos np : Pos} {rest : List ExceptHandler} {Q : Flow → Shared → Prop} {news : List (Addr × Obj)} {KF : Frag} {x : Str}
  {p : Program} {loose : List Str} {mean : ExcName → Option Value} {mg mb : Str → Option Value}
/-- an exception is caught by a local name that holds its class -/
theorem caught_local (R₀ : RaisedSN base G (envOf name scope L a cd :: outer) e (.ref C) news s'.heap) (F : Fr g L G m) (K : Below A₀ base outer g) (hsm₀ : G.UpToSlots s'.heap) (XB : KF.In base) (TB : Top p loose mean mg mb base)
    (D : KtsDicts (frs outer) g) (T0 : KtsTurn (frs outer) g₀ g) (hx : m x = some (.ref C)) (he : exmOne KF (.ref C) (.ref C) = some true)
    (k : ∀ h' g', KtsTurn (frs outer) g₀ g' → Fr g' L h' m → News g' L h' news → Below A₀ base outer g' → KF.In g' → Top p loose mean mg mb g' → KtsDicts (frs outer) g' →
      wpAny (model prog w) ((A₀.deeper (envOf name scope L a cd)).mark (some (.ref e))) (execs (b₀ :: suite) (envOf name scope L a cd)) Q E { s' with heap := h' })
    (hk : scope.kind = .function := by rfl) (hlo : (envOf name scope L a cd).kindOf x = some .local := by rfl) (hd : (x == ("__debug__" : Str)) = false := by decide)
    (hE : PassesOwnAt (model prog w) ((A₀.deeper (envOf name scope L a cd)).mark (some (.ref e))) (A₀.deeper (envOf name scope L a cd)) (envOf name scope L a cd) E := by passes_own) :
    wpAny (model prog w) (A₀.deeper (envOf name scope L a cd)) (noteFrame (.ref e) (envOf name scope L a cd))
      (fun _ s₂ => wpAny (model prog w) (A₀.deeper (envOf name scope L a cd)) (setFlight (.ref e) none) (fun _ s₃ =>
        wpAny (model prog w) (A₀.deeper (envOf name scope L a cd)) (handleBy (.ref e) (envOf name scope L a cd) (.ExceptHandler (some (.Name x np)) none (b₀ :: suite) pos :: rest)) Q E s₃) E s₂) E s' := by
  refine kts_lookSN R₀ F K hsm₀ D fun h₄ R hsm => ?_
  have R' := R
  obtain ⟨B₁, a1, _, hBG₁, _, hfl₁⟩ := R'
  obtain ⟨g₅, T₅, F₅, K₅⟩ := kts_ground K F hBG₁ hfl₁.1 hsm
  refine wpAny_handleBy_cons (codeAny_handlers_test (ld (s := { s' with heap := h₄ }) F₅ hx ((exm_one ((XB.keeps K₅.stays).keeps F₅.keep) R.ty he).here ?_) hk hlo hd)) (by intro q; cases q)
  obtain ⟨B, a0, hB, hBG, hl, hheld⟩ := R
  have hL : B.get? L = none := by
    obtain ⟨_, ⟨L', _, hf, hn', _⟩, _⟩ := hheld.2.2.1
    obtain rfl : L = L' := Option.some.inj hf
    exact hn'
  refine codeAny_handlers_suite ?_
  refine lands_againW hheld fun h₆ hfl₆ hsm₆ => ?_
  obtain ⟨g₆, T₆, F₆, K₆⟩ := kts_ground K F hBG hfl₆.1 (hsm.trans hsm₆)
  have Nl : News g₆ L h₆ news := fun q hq => ⟨hfl₆.1 _ _ (hl q hq).1, (fun z => by have := (hl q hq).1; rw [z, hL] at this; cases this), T₆.none_ _ (kts_none F.keep (hl q hq).2.1)⟩
  exact wpAny_passesOwnAt hE (k h₆ g₆ (T0.trans T₆) F₆ Nl K₆ (XB.keeps K₆.stays) (TB.keeps K₆.stays) (D.turn T₆))
end
end Mine
end
section
open PySem PySem.W PyProof.Rows PySem.Calls
set_option linter.unusedVariables false
namespace Mine
abbrev lamScope : Scope := { kind := ScopeKind.function, names := [(Str.ofString "disk", NameKind.free), (Str.ofString "number", NameKind.free), (Str.ofString "octets", NameKind.free)], isGenerator := false, isCoroutine := false }
abbrev noArgs : Arguments := { posonlyargs := [], args := [], vararg := none, kwonlyargs := [], kw_defaults := [], kwarg := none, defaults := [] }
abbrev lamBody1 : Expr := (Expr.Call (Expr.Attribute (Expr.Name (Str.ofString "disk") { line := 240, col := 43, endLine := 240, endCol := 47 }) (Str.ofString "write") { line := 240, col := 43, endLine := 240, endCol := 53 }) [Expr.Name (Str.ofString "number") { line := 240, col := 54, endLine := 240, endCol := 60 }, Expr.Name (Str.ofString "octets") { line := 240, col := 62, endLine := 240, endCol := 68 }] [] { line := 240, col := 43, endLine := 240, endCol := 69 })
abbrev lamBody2 : Expr := (Expr.Call (Expr.Attribute (Expr.Name (Str.ofString "disk") { line := 245, col := 50, endLine := 245, endCol := 54 }) (Str.ofString "write") { line := 245, col := 50, endLine := 245, endCol := 60 }) [Expr.Name (Str.ofString "number") { line := 245, col := 61, endLine := 245, endCol := 67 }, Expr.Name (Str.ofString "octets") { line := 245, col := 69, endLine := 245, endCol := 75 }] [] { line := 245, col := 50, endLine := 245, endCol := 76 })
section
set_option hygiene false in
set_option maxRecDepth 100000 in
set_option maxHeartbeats 4000000 in
theorem lam_raise1 (w : World) (mean : ExcName → Option Value) (mg mb : Str → Option Value) (own led' : List (Addr × Obj)) (t1 t2 t3 t4 t5 t6 t7 t8 t9 t10 u1 u2 u3 u4 u5 : Tok) (size wr last : Int) (x dx kept lt un lam c' cD cN cO : Addr) (dead : Bool) (nv v pm ctv : Value) (C : Addr) (k : Nat)
    (oc oD oN oO : Obj) (qual : Str) (vs : Array Value) (tq : Tok) (hoc : oc.data = .fields vs) (hvs : vs[1]? = some (.str qual tq)) (hD : oD.data = .cell (some (.ref x))) (hN : oN.data = .cell (some nv)) (hO : oO.data = .cell (some v))
    (hW : RaiseCl w mean mg mb (.ref 252) [.ref x, nv, v] C k ((x, instObj 302 dx) :: (dx, diskD w t1 t2 t3 t4 t5 t6 t7 t8 t9 t10 u1 u2 u3 u4 u5 size wr last kept lt un dead) :: (lam, kla_obj "<lambda>" qual noArgs lamBody1 lamScope [("octets", cO), ("number", cN), ("disk", cD)] pm c' ctv) :: (c', oc) :: (cD, oD) :: (cN, oN) :: (cO, oO) :: own) led') :
  RaiseCl w mean mg mb (.ref lam) [] C (k + 1) ((x, instObj 302 dx) :: (dx, diskD w t1 t2 t3 t4 t5 t6 t7 t8 t9 t10 u1 u2 u3 u4 u5 size wr last kept lt un dead) :: (lam, kla_obj "<lambda>" qual noArgs lamBody1 lamScope [("octets", cO), ("number", cN), ("disk", cD)] pm c' ctv) :: (c', oc) :: (cD, oD) :: (cN, oN) :: (cO, oO) :: own) led' := by
  k_with_none
  w_top off
  k_with "execs cons" => (with_reducible refine forget_toks ?_; intro tk'; (rename News _ _ _ _ => hN9); (try dsimp only at hN9))
  k_with "call type:bytes" => (k_here; (with_reducible show wpAny _ _ (call (Value.type "bytes") [Value.int _ _]) _ _ _); k_dflt (refine' bytes_int_K ?h0 ?h1 ?hh ?hd ?hu ?_; (case h0 => omega); (case h1 => omega); (case hh => rfl); (case hd => ktr_room); (case hu => ktr_units)); intro tk' t'; (try dsimp only))
  k_with "call type:bytes" => (k_here; (with_reducible show wpAny _ _ (call (Value.type "bytes") [Value.str _ _]) _ _ _); (refine bytes_str_K (by k_asm) (by k_asm) (by assumption) (by rfl) ?hd ?hu ?_; (case hd => ktr_room); (case hu => ktr_units)); intro h' tk' e' x')
  k_with "call type:bytes" => (k_here; (with_reducible show wpAny _ _ (call (Value.type "bytes") [Value.none]) _ _ _); (refine bytes_none_K (by k_asm) (by k_asm) (by assumption) (by rfl) ?hd ?hu ?_; (case hd => ktr_room); (case hu => ktr_units)); intro h' tk' e' x')
  k_with "noteFrame ref" => (k_here; (refine catch_fresh (by assumption) (by assumption) (by assumption) (XB := by assumption) (by assumption) (tup_test (ns_T _) (ns_V _) (by first | exact exm_T _ | exact exm_V _) rfl rfl rfl) ?_); intro h' g' F' B' c1'; (have X' := Frag.In.keeps (K := Mine.hd.heap_1 _) (by assumption) (Below.stays B')); (have T' := top_base (by assumption) B'))
  k_with "exec Raise some some" => (k_here; k_dflt (refine Raise_two (by rfl) ?_))
  k_with "exec Raise some none" => (k_here; k_dflt (refine Raise_one (by rfl) ?_))
  k_with "call ref" => (k_here; (with_reducible show wpAny _ _ (call (Value.ref 83) [Value.str _ _]) _ _ _); (refine mk_disk_K (by k_asm) (by k_asm) (by assumption) ?hd ?hu ?_; (case hd => ktr_room); (case hu => ktr_units)); intro h' tk' e' x')
  k_with "RaiseFrom" => (refine RaiseFrom.of (by assumption) (isExc_of (Frag.In.keeps (K := Mine.hd.heap_1 _) (by assumption) (Fr.keep (by assumption))) (kts83 _)) (by assumption) ?_; intro h' f'; show wpAny _ _ (leaving _ _) _ _ _)
  k_with "RaiseGo" => (refine RaiseGo.of (by assumption) (isExc_of (Frag.In.keeps (K := Mine.hd.heap_1 _) (by assumption) (Fr.keep (by assumption))) (by first | exact kts83 _ | exact kts102 _ | exact kts52 _)) ?_; show wpAny _ _ (leaving _ _) _ _ _)
  k_with "leaving ref" => (k_here; first
      | (refine' leave_onSN ?k1 ?k2 ?k3 ?k4 ?_; (case k3 => assumption); (case k2 => assumption); (case k1 => assumption); (case k4 => assumption); intro h' R1' R2' U1'; (try dsimp only at R1' U1' ⊢))
      | (refine' leave_made ?k1 ?k0 ?k2 ?k3 ?_; (case k0 => assumption); (case k2 => k_asm); (case k1 => assumption); (case k3 => k_asm); intro h' R1' R2' U1'; (try dsimp only at R1' U1' ⊢))
      | (refine' leave_from ?k1 ?k0 ?k2 ?k3 ?_; (case k0 => assumption); (case k2 => assumption); (case k1 => assumption); (case k3 => assumption); intro h' R1' R2' U1'; (try dsimp only at R1' U1' ⊢)))
  k_with "call ref" => (k_here; (with_reducible show wpAny _ _ (call (Value.ref 102) [Value.int _ _]) _ _ _); (refine mk_crash_K (by k_asm) (by k_asm) (by assumption) ?h0 ?h1 ?hd ?hu ?_; (case h0 => omega); (case h1 => omega); (case hd => ktr_room); (case hu => ktr_units)); intro h' tk' e' x')
  k_with "call ref" => (k_here; (with_reducible show wpAny _ _ (call (Value.ref 52) [Value.str _ _]) _ _ _); (refine mk_arg_K (by k_asm) (by k_asm) (by assumption) ?hd ?hu ?_; (case hd => ktr_room); (case hu => ktr_units)); intro h' tk' e' x')
  k_with "eval Name" => (k_here; k_dflt (refine nameX_F (by k_asm) (by rfl) (by k_mem) (by assumption) ?_))
  k_with "call ref" => (k_here; (with_reducible show wpAny _ _ (call (Value.ref 252) _) _ _ _); k_dflt (refine' hW _ _ _ _ _ _ _ _ _ _ _ _ _ _ _ _ _ ?B ?F ?X ?Y ?XB ?TB ?N ?T ?hk ?hd ?hu ?_; (case B => k_asm); (case F => k_asm); (case X => k_asm); (case Y => assumption); (case XB => assumption); (case TB => assumption); (case N => k_asm); (case T => k_asm); (case hk => rfl); (case hd => ktr_room); (case hu => ktr_units)); intro g' h' e' tk' F' R' U'; (try dsimp only at R' U' ⊢))
  k_with "leaving ref" => (k_here; (refine' leave_onX ?k1 ?k2 ?k3 ?k4 ?_; (case k3 => assumption); (case k2 => assumption); (case k1 => assumption); (case k4 => assumption); intro h' R1' R2' U1'; (try dsimp only at R1' U1' ⊢)))
  unfold RaiseCl at hW ⊢
  dsimp only [lamBody1, lamScope, noArgs] at hW ⊢
  k_fill
  intro dp un gd cn cs a ccd cl outer A₀ base h₀ L m s Q E B F X Y XB TB N T hk hd hu hE
  refine wpAny_call ?_
  (refine' kla_code ?k1 ?k2 ?k3 ?k4 ?k5 ?kA ?kF ?kK ?k6 ?k7 ?k8 ?k9 ?kB ?_ ?c2 ?c3 ?c4 ?c5; (case kA => exact rfl); (case kF => exact rfl); (case kK => assumption); (case k1 => k_asm); (case k2 => k_asm); (case k3 => k_asm); (case k4 => k_asm); (case k5 => k_asm); (case k6 => k_mem); (case k7 => exact codeRec_news (by k_asm) (by k_mem) (by assumption) (by assumption)); (case k8 => ktr_room); (case k9 => exact rfl); (case c5 => decide); (case kB => exact locs rfl); (case c2 => exact rfl); (case c3 => exact rfl); (case c4 => exact rfl); k_whole; intro g' L' h' FG' F' N' B' X' T'; (try dsimp only); (try k_lift B'); (try k_fold))
  k_steps
  all_goals exact hE _ _ _ _ (by assumption) (by assumption) (by assumption)
set_option maxRecDepth 100000 in
set_option maxHeartbeats 4000000 in
theorem lam_raise2 (w : World) (mean : ExcName → Option Value) (mg mb : Str → Option Value) (own led' : List (Addr × Obj)) (t1 t2 t3 t4 t5 t6 t7 t8 t9 t10 u1 u2 u3 u4 u5 : Tok) (size wr last : Int) (x dx kept lt un lam c' cD cN cO : Addr) (dead : Bool) (nv v pm ctv : Value) (C : Addr) (k : Nat)
    (oc oD oN oO : Obj) (qual : Str) (vs : Array Value) (tq : Tok) (hoc : oc.data = .fields vs) (hvs : vs[1]? = some (.str qual tq)) (hD : oD.data = .cell (some (.ref x))) (hN : oN.data = .cell (some nv)) (hO : oO.data = .cell (some v))
    (hW : RaiseCl w mean mg mb (.ref 252) [.ref x, nv, v] C k ((x, instObj 302 dx) :: (dx, diskD w t1 t2 t3 t4 t5 t6 t7 t8 t9 t10 u1 u2 u3 u4 u5 size wr last kept lt un dead) :: (lam, kla_obj "<lambda>" qual noArgs lamBody2 lamScope [("octets", cO), ("number", cN), ("disk", cD)] pm c' ctv) :: (c', oc) :: (cD, oD) :: (cN, oN) :: (cO, oO) :: own) led') :
  RaiseCl w mean mg mb (.ref lam) [] C (k + 1) ((x, instObj 302 dx) :: (dx, diskD w t1 t2 t3 t4 t5 t6 t7 t8 t9 t10 u1 u2 u3 u4 u5 size wr last kept lt un dead) :: (lam, kla_obj "<lambda>" qual noArgs lamBody2 lamScope [("octets", cO), ("number", cN), ("disk", cD)] pm c' ctv) :: (c', oc) :: (cD, oD) :: (cN, oN) :: (cO, oO) :: own) led' := by
  k_with_none
  w_top off
  k_with "execs cons" => (with_reducible refine forget_toks ?_; intro tk'; (rename News _ _ _ _ => hN9); (try dsimp only at hN9))
  k_with "call type:bytes" => (k_here; (with_reducible show wpAny _ _ (call (Value.type "bytes") [Value.int _ _]) _ _ _); k_dflt (refine' bytes_int_K ?h0 ?h1 ?hh ?hd ?hu ?_; (case h0 => omega); (case h1 => omega); (case hh => rfl); (case hd => ktr_room); (case hu => ktr_units)); intro tk' t'; (try dsimp only))
  k_with "call type:bytes" => (k_here; (with_reducible show wpAny _ _ (call (Value.type "bytes") [Value.str _ _]) _ _ _); (refine bytes_str_K (by k_asm) (by k_asm) (by assumption) (by rfl) ?hd ?hu ?_; (case hd => ktr_room); (case hu => ktr_units)); intro h' tk' e' x')
  k_with "call type:bytes" => (k_here; (with_reducible show wpAny _ _ (call (Value.type "bytes") [Value.none]) _ _ _); (refine bytes_none_K (by k_asm) (by k_asm) (by assumption) (by rfl) ?hd ?hu ?_; (case hd => ktr_room); (case hu => ktr_units)); intro h' tk' e' x')
  k_with "noteFrame ref" => (k_here; (refine catch_fresh (by assumption) (by assumption) (by assumption) (XB := by assumption) (by assumption) (tup_test (ns_T _) (ns_V _) (by first | exact exm_T _ | exact exm_V _) rfl rfl rfl) ?_); intro h' g' F' B' c1'; (have X' := Frag.In.keeps (K := Mine.hd.heap_1 _) (by assumption) (Below.stays B')); (have T' := top_base (by assumption) B'))
  k_with "exec Raise some some" => (k_here; k_dflt (refine Raise_two (by rfl) ?_))
  k_with "exec Raise some none" => (k_here; k_dflt (refine Raise_one (by rfl) ?_))
  k_with "call ref" => (k_here; (with_reducible show wpAny _ _ (call (Value.ref 83) [Value.str _ _]) _ _ _); (refine mk_disk_K (by k_asm) (by k_asm) (by assumption) ?hd ?hu ?_; (case hd => ktr_room); (case hu => ktr_units)); intro h' tk' e' x')
  k_with "RaiseFrom" => (refine RaiseFrom.of (by assumption) (isExc_of (Frag.In.keeps (K := Mine.hd.heap_1 _) (by assumption) (Fr.keep (by assumption))) (kts83 _)) (by assumption) ?_; intro h' f'; show wpAny _ _ (leaving _ _) _ _ _)
  k_with "RaiseGo" => (refine RaiseGo.of (by assumption) (isExc_of (Frag.In.keeps (K := Mine.hd.heap_1 _) (by assumption) (Fr.keep (by assumption))) (by first | exact kts83 _ | exact kts102 _ | exact kts52 _)) ?_; show wpAny _ _ (leaving _ _) _ _ _)
  k_with "leaving ref" => (k_here; first
      | (refine' leave_onSN ?k1 ?k2 ?k3 ?k4 ?_; (case k3 => assumption); (case k2 => assumption); (case k1 => assumption); (case k4 => assumption); intro h' R1' R2' U1'; (try dsimp only at R1' U1' ⊢))
      | (refine' leave_made ?k1 ?k0 ?k2 ?k3 ?_; (case k0 => assumption); (case k2 => k_asm); (case k1 => assumption); (case k3 => k_asm); intro h' R1' R2' U1'; (try dsimp only at R1' U1' ⊢))
      | (refine' leave_from ?k1 ?k0 ?k2 ?k3 ?_; (case k0 => assumption); (case k2 => assumption); (case k1 => assumption); (case k3 => assumption); intro h' R1' R2' U1'; (try dsimp only at R1' U1' ⊢)))
  k_with "call ref" => (k_here; (with_reducible show wpAny _ _ (call (Value.ref 102) [Value.int _ _]) _ _ _); (refine mk_crash_K (by k_asm) (by k_asm) (by assumption) ?h0 ?h1 ?hd ?hu ?_; (case h0 => omega); (case h1 => omega); (case hd => ktr_room); (case hu => ktr_units)); intro h' tk' e' x')
  k_with "call ref" => (k_here; (with_reducible show wpAny _ _ (call (Value.ref 52) [Value.str _ _]) _ _ _); (refine mk_arg_K (by k_asm) (by k_asm) (by assumption) ?hd ?hu ?_; (case hd => ktr_room); (case hu => ktr_units)); intro h' tk' e' x')
  k_with "eval Name" => (k_here; k_dflt (refine nameX_F (by k_asm) (by rfl) (by k_mem) (by assumption) ?_))
  k_with "call ref" => (k_here; (with_reducible show wpAny _ _ (call (Value.ref 252) _) _ _ _); k_dflt (refine' hW _ _ _ _ _ _ _ _ _ _ _ _ _ _ _ _ _ ?B ?F ?X ?Y ?XB ?TB ?N ?T ?hk ?hd ?hu ?_; (case B => k_asm); (case F => k_asm); (case X => k_asm); (case Y => assumption); (case XB => assumption); (case TB => assumption); (case N => k_asm); (case T => k_asm); (case hk => rfl); (case hd => ktr_room); (case hu => ktr_units)); intro g' h' e' tk' F' R' U'; (try dsimp only at R' U' ⊢))
  k_with "leaving ref" => (k_here; (refine' leave_onX ?k1 ?k2 ?k3 ?k4 ?_; (case k3 => assumption); (case k2 => assumption); (case k1 => assumption); (case k4 => assumption); intro h' R1' R2' U1'; (try dsimp only at R1' U1' ⊢)))
  unfold RaiseCl at hW ⊢
  dsimp only [lamBody2, lamScope, noArgs] at hW ⊢
  k_fill
  intro dp un gd cn cs a ccd cl outer A₀ base h₀ L m s Q E B F X Y XB TB N T hk hd hu hE
  refine wpAny_call ?_
  (refine' kla_code ?k1 ?k2 ?k3 ?k4 ?k5 ?kA ?kF ?kK ?k6 ?k7 ?k8 ?k9 ?kB ?_ ?c2 ?c3 ?c4 ?c5; (case kA => exact rfl); (case kF => exact rfl); (case kK => assumption); (case k1 => k_asm); (case k2 => k_asm); (case k3 => k_asm); (case k4 => k_asm); (case k5 => k_asm); (case k6 => k_mem); (case k7 => exact codeRec_news (by k_asm) (by k_mem) (by assumption) (by assumption)); (case k8 => ktr_room); (case k9 => exact rfl); (case c5 => decide); (case kB => exact locs rfl); (case c2 => exact rfl); (case c3 => exact rfl); (case c4 => exact rfl); k_whole; intro g' L' h' FG' F' N' B' X' T'; (try dsimp only); (try k_lift B'); (try k_fold))
  k_steps
  all_goals exact hE _ _ _ _ (by assumption) (by assumption) (by assumption)
end
end Mine
end
section
open PySem PySem.W PyProof.Rows PySem.Calls
set_option linter.unusedVariables false
namespace Mine
theorem exm83 (P : Params) : exmOne (hd.heap_1 P) (.ref 83) (.ref 83) = some true := by kernel_rfl
theorem exm102 (P : Params) : exmOne (hd.heap_1 P) (.ref 102) (.ref 102) = some true := by kernel_rfl
theorem exm52 (P : Params) : exmOne (hd.heap_1 P) (.ref 52) (.ref 52) = some true := by kernel_rfl
section
set_option hygiene false in
set_option hygiene false in
set_option maxRecDepth 100000 in
set_option maxHeartbeats 4000000 in
theorem refused (w : World) (mean : ExcName → Option Value) (mg mb : Str → Option Value) (rest led' : List (Addr × Obj)) (lam C c' : Addr) (k : Nat) (qual : Str) (body : Expr) (scope : Scope) (clos : List (Str × Addr)) (pm ctv : Value) (hC : exmOne (hd.heap_1 w.params) (.ref C) (.ref C) = some true) (hW : RaiseCl w mean mg mb (.ref lam) [] C k ((lam, kla_obj "<lambda>" qual noArgs body scope clos pm c' ctv) :: rest) led') :
  ∀ (dp un : Nat) (gd : Option (List Code)) (cn : Str) (cs : Scope) (a : Addr) (ccd : Value) (cl : List (Str × Addr)) (outer : List Env) (A₀ : Around) (base h₀ : Heap) (L : Addr) (m : Str → Option Value) (s : Shared) (Q E : Value → Shared → Prop),
    Below A₀ base outer h₀ → Fr h₀ L s.heap m → (hd.heap_1 w.params).In h₀ → KX w base → (hd.heap_1 w.params).In base → Top topProg LO mean mg mb base → News h₀ L s.heap ((lam, kla_obj "<lambda>" qual noArgs body scope clos pm c' ctv) :: rest) → Top topProg LO mean mg mb h₀ → KtsDicts (frs outer) h₀ → cs.kind = .function →
    dp + (k + 1) < 350 → un + 8 * (k + 1) < 300 →
    (∀ h₁ h' tk', KtsTurn (frs outer) h₀ h₁ → Fr h₁ L h' m → News h₁ L h' led' → Below A₀ base outer h₁ → (hd.heap_1 w.params).In h₁ → Top topProg LO mean mg mb h₁ → KtsDicts (frs outer) h₁ → Q (.bool true) { s with heap := h', toks := tk' }) →
    wpAny (model Challenge.rw_pq0901_01.row.prog w) (ktrTop dp un gd cn cs L a ccd cl outer) (call (.ref 334) [.ref lam, .ref C]) Q E s := by
  k_with_none
  w_top off
  k_with "execs cons" => (with_reducible refine forget_toks ?_; intro tk'; (rename News _ _ _ _ => hN9); (try dsimp only at hN9))
  k_with "call type:bytes" => (k_here; (with_reducible show wpAny _ _ (call (Value.type "bytes") [Value.int _ _]) _ _ _); k_dflt (refine' bytes_int_K ?h0 ?h1 ?hh ?hd ?hu ?_; (case h0 => omega); (case h1 => omega); (case hh => rfl); (case hd => ktr_room); (case hu => ktr_units)); intro tk' t'; (try dsimp only))
  k_with "call ref" => (k_here; (with_reducible show wpAny _ _ (call (Value.ref lam) _) _ _ _); k_dflt (refine' hW _ _ _ _ _ _ _ _ _ _ _ _ _ _ _ _ _ ?B ?F ?X ?Y ?XB ?TB ?N ?T ?hk ?hd ?hu ?_; (case B => k_asm); (case F => k_asm); (case X => k_asm); (case Y => assumption); (case XB => assumption); (case TB => assumption); (case N => k_asm); (case T => k_asm); (case hk => rfl); (case hd => ktr_room); (case hu => ktr_units)); intro g' h' e' tk' F' R' U'; (try dsimp only at R' U' ⊢))
  k_with "callWith ref" => (k_here; k_dflt (first
      | (refine' callWith_F0 ?k1 ?_; (case k1 => exact FnAt.of (by k_asm) (by k_mem)); k_whole; try dsimp only [List.nil_append, List.cons_append])))
  k_with "noteFrame ref" => (k_here; k_dflt (refine' caught_local ?R ?F ?K ?U ?XB ?TB ?D ?T0 ?hx hC ?_; (case R => assumption); (case F => assumption); (case K => assumption); (case U => assumption); (case XB => assumption); (case TB => assumption); (case D => assumption); (case T0 => exact KtsTurn.refl); (case hx => exact rfl)); intro h' g' T' F' N' K' X' P' D')
  k_with "LeaveT" => (k_dflt (refine' LeaveT.intro ?F ?N ?T ?_; (case F => k_asm); (case N => k_asm); (case T => assumption)); intro h1' T1' F1' N1' B1' X1' P1' D1'; (try dsimp only))
  unfold RaiseCl at hW
  k_fill
  intro dp un gd cn cs a ccd cl outer A₀ base h₀ L m s Q E B F X Y XB TB N T D hk hd hu hret
  refine wpAny_call ?_
  (refine' code_T ?k1 ?k2 ?k3 ?k4 ?k5 ?XB ?TB ?D ?kA ?k6 ?k7 ?k8 ?k9 ?kB ?_ ?kK ?c2 ?c3 ?c4 ?c5; (case kA => exact rfl); (case kK => assumption); (case k1 => k_asm); (case k2 => k_asm); (case k3 => k_asm); (case k4 => k_asm); (case k5 => k_asm); (case XB => assumption); (case TB => assumption); (case D => assumption); (case k6 => k_is); (case k7 => k_is); (case k8 => ktr_room); (case k9 => exact BindsTo.of_eq rfl); (case c5 => decide); (case kB => exact locs rfl); (case c2 => exact rfl); (case c3 => exact rfl); (case c4 => exact rfl); k_whole; intro g' L' h' FG' F' N' B' X' T' D'; (try dsimp only); (try k_lift B'); (try k_fold))
  k_steps
  all_goals (refine' hret _ _ _ ?T ?F ?N ?B ?X ?P ?D <;> assumption)
end
end Mine
end
section
open PySem PySem.W PyProof.Rows PySem.Calls PySem.Spec
set_option linter.unusedVariables false
set_option maxRecDepth 100000
namespace Mine
theorem and_let {a b : Int} {r : Int} (ha : a = 2 * r) (h0 : 0 ≤ r) (h1 : r < 1000) (hb : b = 4294967294) : Builtin.bitAnd a b = a := by
  subst ha hb
  rw [bitAnd_pp (by omega) (by omega)]
  obtain ⟨n, rfl⟩ := Int.eq_ofNat_of_zero_le h0
  have e1 : (2 * (n : Int)).toNat = n <<< 1 := by rw [Nat.shiftLeft_eq]; omega
  have e2 : (4294967294 : Int).toNat = 2147483647 <<< 1 := by decide
  rw [e1, e2, ← Nat.shiftLeft_and_distrib]
  have e3 : n &&& 2147483647 = n := by
    have := Nat.and_two_pow_sub_one_eq_mod n 31
    rw [show (2 : Nat) ^ 31 - 1 = 2147483647 from by decide] at this
    rw [this]
    omega
  rw [e3, Nat.shiftLeft_eq]
  omega
theorem and_floor {a b : Int} (h0 : 0 ≤ a) (h1 : a < 8) (hb : b = 7) : Builtin.bitAnd a b = a := by
  subst hb
  have := kbt_mask a 3
  rw [show (2 : Int) ^ 3 - 1 = 7 from by decide] at this
  rw [this]
  omega
section
variable {prog : Program} {w : World} {A : Around} {E : Value → Shared → Prop} {s : Shared} {h₀ : Heap} {L D : Addr} {m : Str → Option Value} {news news' : List (Addr × Obj)}
theorem and_rule {a b c : Int} {t u : Tok} {Q : Value → Shared → Prop} (e : Builtin.bitAnd a b = c) (h : Q (.int c s.toks) { s with toks := s.toks + 1 }) : wpAny (model prog w) A (binaryOp .BitAnd (.int a t) (.int b u)) Q E s := by
  subst e
  exact and_int h
theorem getD_rep (n : Nat) (i : Nat) : (List.replicate n [(0 : Int)]).flatten.getD i 0 = 0 := by
  have : (List.replicate n [(0 : Int)]).flatten = List.replicate n 0 := by
    induction n with
    | zero => rfl
    | succ n ih => rw [List.replicate_succ, List.flatten_cons, ih]; rfl
  rw [this]
  by_cases h : i < n
  · simp [h]
  · simp [h]
theorem mul0_K {l : Addr} {x : Int} {t u : Tok} {c : Nat} {Q : Value → Shared → Prop} (F : Fr h₀ L s.heap m) (N : News h₀ L s.heap news) (hl : (l, W.listOf #[.int 0 t] c) ∈ news) (hlo : 0 ≤ x) (hhi : x ≤ 99999)
    (h : ∀ D h' (vs : List Value) (ns : List Int), Fr h₀ L h' m → News h₀ L h' ((D, W.listOf vs.toArray 0) :: news) → (∀ p ∈ news, p.1 < D) → IntsAre vs ns → (ns.length : Int) = x → (∀ i, ns.getD i 0 = 0) → Q (.ref D) { s with heap := h' }) :
    wpAny (model prog w) A (binaryOp .Mult (.ref l) (.int x u)) Q E s := by
  refine KM.mul (vs := [.int 0 t]) (ns := [0]) F N (PySem.IsL.isList (n := c) (N _ hl).1) (.cons 0 t .nil) (by omega) (by omega) (by simp; omega) fun D h' F' N' l1 i1 n e1 e2 e3 e4 => ?_
  refine h D h' _ _ F' N' l1 i1 ?_ fun i => getD_rep _ i
  rw [e2, e4 hlo]
  simp
theorem set_O {vs : List Value} {ns : List Int} {k x : Int} {t u : Tok} {n : Nat} {Q : Unit → Shared → Prop} {g : Obj → List (Addr × Obj)} (F : Fr h₀ L s.heap m) (N : News h₀ L s.heap news) (U : UpdF D (W.listOf vs.toArray n) news g) (hi : IntsAre vs ns) (h0 : 0 ≤ k) (h1 : k < ns.length) (hfit : k < 2 ^ 63)
    (h : ∀ h' (vs' : List Value) (ns' : List Int), Fr h₀ L h' m → News h₀ L h' (g (W.listOf vs'.toArray n)) → IntsAre vs' ns' → ns'.length = ns.length → ns'.getD k.toNat 0 = x → (∀ i, i ≠ k.toNat → ns'.getD i 0 = ns.getD i 0) → Q () { s with heap := h' }) :
    wpAny (model prog w) A (setItem (.ref D) (.int k t) (.int x u)) Q E s := by
  obtain ⟨pre, post, rfl, hg, a, b⟩ := U.split
  have z := N (D, W.listOf vs.toArray n) (List.mem_append.mpr (.inr (.head _)))
  have hl : vs.length = ns.length := hi.length
  have hs : vs.toArray.size = ns.length := by rw [List.size_toArray]; exact hl
  have hj : k.toNat < ns.length := by omega
  refine ki_setAt z.1 h0 hfit (by omega) (h _ (vs.set k.toNat (.int x u)) (ns.set k.toNat x) (F.change (Heap.SameBut.update ..) z.2.1 z.2.2) (hg _ ▸ ki_turn _ N a b ?_ ?_) (ints_set hi _) (List.length_set ..) ?_ fun i e => ?_)
  · show vs.toArray.setIfInBounds k.toNat (.int x u) = (vs.set k.toNat (.int x u)).toArray
    apply Array.toList_inj.mp
    simp
  · simp
  · simp [List.getD_eq_getElem?_getD, hj]
  · simp [List.getD_eq_getElem?_getD, List.getElem?_set, Ne.symm e]
theorem get_O {value slice : PySem.Expr} {vs : List Value} {ns : List Int} {k v : Int} {u : Tok} {n : Nat} {Q : Value → Shared → Prop} (N : News h₀ L s.heap news) (hm : (D, W.listOf vs.toArray n) ∈ news) (hi : IntsAre vs ns) (h0 : 0 ≤ k) (h1 : k < ns.length) (hfit : k < 2 ^ 63) (hv : ns.getD k.toNat 0 = v) (h : ∀ t, Q (.int v t) s)
    (hs : subscripted slice false (.ref D) (.int k u) = operate [.ref D, .int k u] (getItem (.ref D) (.int k u)) := by with_unfolding_all rfl) :
    wpAny (model prog w) A (subscriptTail value slice (.ref D) (.int k u)) Q E s := by
  subst hv
  exact item_anyK (PySem.IsL.isList (n := n) (N _ hm).1) hi h0 h1 hfit h hs
end
end Mine
end
section
open PySem PySem.W PyProof.Rows PySem.Calls
set_option linter.unusedVariables false
namespace Mine
/-- a write that is none: what it names is none, or its octets are none -/
def BadW (size : Int) (l : Addr) (lo : Obj) (n : Int) (v : Value) : Prop := (0 ≤ n ∧ n < 2 ∧ OctBad [(l, lo)] v) ∨ n = 2 ∨ (0 ≤ n ∧ n < 2 ∧ ∃ b t, v = .bytes b t ∧ b.size ≤ 100 ∧ size < (b.size : Int))
theorem allLt_mono {a b : Nat} : ∀ {l : List (Addr × Obj)}, AllLt a l → a ≤ b → AllLt b l
  | [], _, _ => trivial
  | _ :: _, h, hb => ⟨Nat.lt_of_lt_of_le h.1 hb, allLt_mono h.2 hb⟩
theorem bw_mem {h₀ h' : Heap} {L tp l pen scr : Addr} {tu lo po so : Obj} {full own : List (Addr × Obj)} (N : News h₀ L h' full) (m1 : (tp, tu) ∈ full) (m2 : (l, lo) ∈ full) (m3 : (pen, po) ∈ full) (m4 : (scr, so) ∈ full) (m5 : ∀ p ∈ own, p ∈ full) :
    News h₀ L h' ((tp, tu) :: (l, lo) :: (pen, po) :: (scr, so) :: own) := fun p hp => by
  rcases List.mem_cons.mp hp with rfl | hp
  · exact N _ m1
  rcases List.mem_cons.mp hp with rfl | hp
  · exact N _ m2
  rcases List.mem_cons.mp hp with rfl | hp
  · exact N _ m3
  rcases List.mem_cons.mp hp with rfl | hp
  · exact N _ m4
  exact N _ (m5 p hp)
theorem badIts_rep {ws : List Value} {size x : Int} (h : IntsAre ws ((List.replicate (size - 1).toNat [0]).flatten ++ [x])) (h1 : 1 ≤ size) (h4 : size ≤ 4) (o : Off x) : BadIts ws.toArray := by
  have hsz : size = 1 ∨ size = 2 ∨ size = 3 ∨ size = 4 := by omega
  rcases hsz with rfl | rfl | rfl | rfl
  · change IntsAre ws [x] at h
    cases h with | cons _ t a => cases a; exact .inl ⟨_, _, rfl, o⟩
  · change IntsAre ws [0, x] at h
    cases h with | cons _ t1 a => cases a with | cons _ t a => cases a; exact .inr (.inl ⟨_, _, _, rfl, o⟩)
  · change IntsAre ws [0, 0, x] at h
    cases h with | cons _ t1 a => cases a with | cons _ t2 a => cases a with | cons _ t a => cases a; exact .inr (.inr (.inl ⟨_, _, _, _, rfl, o⟩))
  · change IntsAre ws [0, 0, 0, x] at h
    cases h with | cons _ t1 a => cases a with | cons _ t2 a => cases a with | cons _ t3 a => cases a with | cons _ t a => cases a; exact .inr (.inr (.inr ⟨_, _, _, _, _, rfl, o⟩))
theorem off256 : Off 256 := by unfold Off; omega
theorem offm1 : Off (-1) := by unfold Off; omega
section
set_option maxRecDepth 100000 in
set_option maxHeartbeats 4000000 in
theorem bad_write (w : World) (mean : ExcName → Option Value) (mg mb : Str → Option Value) (pen scr : Nat) (own : List (Addr × Obj)) (vs : List Value) (ns : List Int) (k e : Int) (tk te ts : Tok) (nl : Nat) (size : Int) (hs0 : 1 ≤ size) (hs1 : size ≤ 4)
    (hoff : OwnOff own [pen, scr]) (hne : pen ≠ scr) (hi : IntsAre vs ns) (hl : ns.length ≤ 63) (k0 : 0 ≤ k) (k1 : k ≤ 99) (e0 : 0 ≤ e) (e1 : e ≤ 99) :
  ∀ (dp un : Nat) (gd : Option (List Code)) (cn : Str) (cs : Scope) (a : Addr) (ccd : Value) (cl : List (Str × Addr)) (outer : List Env) (A₀ : Around) (base h₀ : Heap) (L : Addr) (m : Str → Option Value) (s : Shared) (Q E : Value → Shared → Prop),
    Below A₀ base outer h₀ → Fr h₀ L s.heap m → (hd.heap_1 w.params).In h₀ → KX w base → (hd.heap_1 w.params).In base → Top topProg LO mean mg mb base → News h₀ L s.heap ((pen, W.listOf #[.int k tk, .int e te, .ref scr] nl) :: (scr, W.listOf vs.toArray 0) :: own) → Top topProg LO mean mg mb h₀ → cs.kind = .function →
    dp + 2 < 350 → un + 16 < 300 →
    (∀ (tp l : Addr) (lo : Obj) (n : Int) (tn : Tok) (v : Value) (k' e' : Int) (tk' te' : Tok) (ct : Nat) h' tks, AllLt tp ((pen, W.listOf #[.int k tk, .int e te, .ref scr] nl) :: (scr, W.listOf vs.toArray 0) :: own) → AllLt l ((pen, W.listOf #[.int k tk, .int e te, .ref scr] nl) :: (scr, W.listOf vs.toArray 0) :: own) → BadW size l lo n v → k' = k + 1 → e ≤ e' → e' ≤ e + 1 →
      Fr h₀ L h' m → News h₀ L h' ((tp, { cls := .type "tuple", data := .seq #[.int n tn, v] ct }) :: (l, lo) :: (pen, W.listOf #[.int k' tk', .int e' te', .ref scr] nl) :: (scr, W.listOf vs.toArray 0) :: own) → Q (.ref tp) { s with heap := h', toks := tks }) →
    wpAny (model Challenge.rw_pq0901_01.row.prog w) (ktrTop dp un gd cn cs L a ccd cl outer) (call (.ref 327) [.ref pen, .int size ts]) Q E s := by
  k_with_none
  w_top off
  k_with "execs cons" => (with_reducible refine forget_toks ?_; intro tk'; (rename News _ _ _ _ => hN9); (try dsimp only at hN9))
  k_with "call type:bytes" => (k_here; (with_reducible show wpAny _ _ (call (Value.type "bytes") [Value.int _ _]) _ _ _); k_dflt (refine' bytes_int_K ?h0 ?h1 ?hh ?hd ?hu ?_; (case h0 => omega); (case h1 => omega); (case hh => rfl); (case hd => ktr_room); (case hu => ktr_units)); intro tk' t'; (try dsimp only))
  k_with "compareOp NotEq int int" => (k_here; first | ((with_reducible refine ne_true ?h ?_); (case h => omega)) | ((with_reducible refine ne_false ?h ?_); (case h => omega)))
  k_with "call type:bytes" => (k_here; (with_reducible show wpAny _ _ (call (Value.type "bytes") [Value.bytes _ _]) _ _ _); k_dflt (refine bytes_bytes_K (by rfl) ?hd ?hu ?_; (case hd => ktr_room); (case hu => ktr_units)); intro tk' t'; (try dsimp only))
  k_with "call ref" => (k_here; (with_reducible show wpAny _ _ (call (Value.ref 320) [Value.ref _, Value.int _ _]) _ _ _); k_dflt (refine' drawn_U ?B ?F ?X ?N ?U ?hs ?hne ?T ?hk ?hi ?hl ?k0 ?k1 ?e0 ?e1 ?m0 ?m1 ?hd ?hu ?_; (case B => k_asm); (case F => k_asm); (case X => k_asm); (case N => k_asm); (case U => k_updF); (case hs => k_mem); (case hne => k_ne); (case T => k_asm); (case hk => rfl); (case hi => assumption); (case hl => first | assumption | omega); (case k0 => first | assumption | omega); (case k1 => omega); (case e0 => first | assumption | omega); (case e1 => omega); (case m0 => omega); (case m1 => omega); (case hd => ktr_room); (case hu => ktr_units)); intro v' k' e' tk' te' t' h' tks' v0' v1' hk' he' he1' F' N'; (try have q0' := step_nonneg hk' (by assumption)); (try have q1' := Int.le_trans (by assumption) he'); (try dsimp only at N' ⊢); (have hv7' : v' = 0 ∨ v' = 1 ∨ v' = 2 ∨ v' = 3 ∨ v' = 4 ∨ v' = 5 ∨ v' = 6 := by omega); rcases hv7' with hv7' | hv7' | hv7' | hv7' | hv7' | hv7' | hv7' <;> subst hv7'; all_goals walk_say "DRAWN")
  k_fill
  intro dp un gd cn cs a ccd cl outer A₀ base h₀ L m s Q E B F X Y XB TB N T hk hd hu hret
  have hL : ∀ (tp l : Addr) (its : Array Value) (lc : Nat) (n : Int) (tn : Tok) (k' e' : Int) (tk' te' : Tok) (ct : Nat) (full : List (Addr × Obj)) h' tks, News h₀ L h' full → (tp, ({ cls := .type "tuple", data := .seq #[.int n tn, .ref l] ct } : Obj)) ∈ full → (l, W.listOf its lc) ∈ full → (pen, W.listOf #[.int k' tk', .int e' te', .ref scr] nl) ∈ full → (scr, W.listOf vs.toArray 0) ∈ full → (∀ p ∈ own, p ∈ full) →
      AllLt tp ((pen, W.listOf #[.int k tk, .int e te, .ref scr] nl) :: (scr, W.listOf vs.toArray 0) :: own) → AllLt l ((pen, W.listOf #[.int k tk, .int e te, .ref scr] nl) :: (scr, W.listOf vs.toArray 0) :: own) → 0 ≤ n → n < 2 → BadIts its → k' = k + 1 → e ≤ e' → e' ≤ e + 1 →
      Fr h₀ L h' m → Q (.ref tp) { s with heap := h', toks := tks } := fun tp l its lc n tn k' e' tk' te' ct full h' tks N1 m1 m2 m3 m4 m5 a1 a2 n0 n1 hb hk' he he1 F1 =>
    hret tp l _ n tn (.ref l) k' e' tk' te' ct h' tks a1 a2 (.inl ⟨n0, n1, .inr (.inr (.inr ⟨l, its, lc, rfl, .head _, hb⟩))⟩) hk' he he1 F1 (bw_mem N1 m1 m2 m3 m4 m5)
  have hS : ∀ (tp : Addr) (n : Int) (tn : Tok) (v : Value) (k' e' : Int) (tk' te' : Tok) (ct : Nat) (full : List (Addr × Obj)) h' tks, News h₀ L h' full → (tp, ({ cls := .type "tuple", data := .seq #[.int n tn, v] ct } : Obj)) ∈ full → (pen, W.listOf #[.int k' tk', .int e' te', .ref scr] nl) ∈ full → (scr, W.listOf vs.toArray 0) ∈ full → (∀ p ∈ own, p ∈ full) →
      AllLt tp ((pen, W.listOf #[.int k tk, .int e te, .ref scr] nl) :: (scr, W.listOf vs.toArray 0) :: own) → (∀ l lo, BadW size l lo n v) → k' = k + 1 → e ≤ e' → e' ≤ e + 1 →
      Fr h₀ L h' m → Q (.ref tp) { s with heap := h', toks := tks } := fun tp n tn v k' e' tk' te' ct full h' tks N1 m1 m3 m4 m5 a1 hb hk' he he1 F1 =>
    hret tp tp _ n tn v k' e' tk' te' ct h' tks a1 a1 (hb _ _) hk' he he1 F1 (bw_mem N1 m1 m1 m3 m4 m5)
  clear hret
  refine wpAny_call ?_
  k_dflt cell_enter
  k_steps
  all_goals (
      first
      | (refine' hL _ _ _ _ _ _ _ _ _ _ _ _ _ _ ?N ?m1 ?m2 ?m3 ?m4 ?m5 ?a1 ?a2 ?n0 ?n1 ?hb ?hk ?he ?he1 ?F
         case N => k_asm
         case F => k_asm
         case m1 => k_mem
         case m2 => k_mem
         case m3 => k_mem
         case m4 => k_mem
         case m5 => (intro p hp; repeat (first | exact hp | refine List.Mem.tail _ ?_))
         case a1 => first | exact AL.all_drop 0 (by with_reducible assumption) rfl | exact AL.all_drop 1 (by with_reducible assumption) rfl | exact AL.all_drop 2 (by with_reducible assumption) rfl | exact AL.all_drop 3 (by with_reducible assumption) rfl | exact AL.all_drop 4 (by with_reducible assumption) rfl | exact AL.all_drop 5 (by with_reducible assumption) rfl | exact AL.all_drop 6 (by with_reducible assumption) rfl | exact AL.all_drop 7 (by with_reducible assumption) rfl | exact AL.all_drop 8 (by with_reducible assumption) rfl | exact AL.all_drop 9 (by with_reducible assumption) rfl | exact AL.all_drop 10 (by with_reducible assumption) rfl | exact AL.all_drop 11 (by with_reducible assumption) rfl | exact AL.all_drop 12 (by with_reducible assumption) rfl | exact AL.all_drop 13 (by with_reducible assumption) rfl | exact AL.all_drop 14 (by with_reducible assumption) rfl | exact AL.all_drop 15 (by with_reducible assumption) rfl | exact AL.all_drop 16 (by with_reducible assumption) rfl | exact AL.all_drop 17 (by with_reducible assumption) rfl | exact AL.all_drop 18 (by with_reducible assumption) rfl | exact AL.all_drop 19 (by with_reducible assumption) rfl | exact AL.all_drop 20 (by with_reducible assumption) rfl | exact AL.all_drop 21 (by with_reducible assumption) rfl | exact AL.all_drop 22 (by with_reducible assumption) rfl | exact AL.all_drop 23 (by with_reducible assumption) rfl
         case a2 => first | exact AL.all_drop 0 (by with_reducible assumption) rfl | exact AL.all_drop 1 (by with_reducible assumption) rfl | exact AL.all_drop 2 (by with_reducible assumption) rfl | exact AL.all_drop 3 (by with_reducible assumption) rfl | exact AL.all_drop 4 (by with_reducible assumption) rfl | exact AL.all_drop 5 (by with_reducible assumption) rfl | exact AL.all_drop 6 (by with_reducible assumption) rfl | exact AL.all_drop 7 (by with_reducible assumption) rfl | exact AL.all_drop 8 (by with_reducible assumption) rfl | exact AL.all_drop 9 (by with_reducible assumption) rfl | exact AL.all_drop 10 (by with_reducible assumption) rfl | exact AL.all_drop 11 (by with_reducible assumption) rfl | exact AL.all_drop 12 (by with_reducible assumption) rfl | exact AL.all_drop 13 (by with_reducible assumption) rfl | exact AL.all_drop 14 (by with_reducible assumption) rfl | exact AL.all_drop 15 (by with_reducible assumption) rfl | exact AL.all_drop 16 (by with_reducible assumption) rfl | exact AL.all_drop 17 (by with_reducible assumption) rfl | exact AL.all_drop 18 (by with_reducible assumption) rfl | exact AL.all_drop 19 (by with_reducible assumption) rfl | exact AL.all_drop 20 (by with_reducible assumption) rfl | exact AL.all_drop 21 (by with_reducible assumption) rfl | exact AL.all_drop 22 (by with_reducible assumption) rfl | exact AL.all_drop 23 (by with_reducible assumption) rfl
         case n0 => decide
         case n1 => decide
         case hk => assumption
         case he => assumption
         case he1 => assumption
         case hb => exact badIts_rep (by with_reducible assumption) (by assumption) (by assumption) (by first | exact off256 | exact offm1))
      | (refine' hS _ _ _ _ _ _ _ _ _ _ _ _ ?N ?m1 ?m3 ?m4 ?m5 ?a1 ?hb ?hk ?he ?he1 ?F
         case N => k_asm
         case F => k_asm
         case m1 => k_mem
         case m3 => k_mem
         case m4 => k_mem
         case m5 => (intro p hp; repeat (first | exact hp | refine List.Mem.tail _ ?_))
         case a1 => first | exact AL.all_drop 0 (by with_reducible assumption) rfl | exact AL.all_drop 1 (by with_reducible assumption) rfl | exact AL.all_drop 2 (by with_reducible assumption) rfl | exact AL.all_drop 3 (by with_reducible assumption) rfl | exact AL.all_drop 4 (by with_reducible assumption) rfl | exact AL.all_drop 5 (by with_reducible assumption) rfl | exact AL.all_drop 6 (by with_reducible assumption) rfl | exact AL.all_drop 7 (by with_reducible assumption) rfl | exact AL.all_drop 8 (by with_reducible assumption) rfl | exact AL.all_drop 9 (by with_reducible assumption) rfl | exact AL.all_drop 10 (by with_reducible assumption) rfl | exact AL.all_drop 11 (by with_reducible assumption) rfl | exact AL.all_drop 12 (by with_reducible assumption) rfl | exact AL.all_drop 13 (by with_reducible assumption) rfl | exact AL.all_drop 14 (by with_reducible assumption) rfl | exact AL.all_drop 15 (by with_reducible assumption) rfl | exact AL.all_drop 16 (by with_reducible assumption) rfl | exact AL.all_drop 17 (by with_reducible assumption) rfl | exact AL.all_drop 18 (by with_reducible assumption) rfl | exact AL.all_drop 19 (by with_reducible assumption) rfl | exact AL.all_drop 20 (by with_reducible assumption) rfl | exact AL.all_drop 21 (by with_reducible assumption) rfl | exact AL.all_drop 22 (by with_reducible assumption) rfl | exact AL.all_drop 23 (by with_reducible assumption) rfl
         case hk => assumption
         case he => assumption
         case he1 => assumption
         case hb => intro l9 lo9; first
           | exact .inl ⟨by decide, by decide, .inl rfl⟩
           | exact .inl ⟨by decide, by decide, .inr (.inl ⟨_, _, rfl⟩)⟩
           | exact .inl ⟨by decide, by decide, .inr (.inr (.inl ⟨_, _, rfl⟩))⟩
           | exact .inr (.inl rfl)
           | exact .inr (.inr ⟨by decide, by decide, _, _, rfl, by simp; omega, by simp; omega⟩)))
end
end Mine
end
section
open PySem PySem.W PyProof.Rows PySem.Calls PySem.Spec
set_option linter.unusedVariables false
set_option maxRecDepth 100000
namespace Mine
section
variable {prog : Program} {w : World} {A : Around} {E : Value → Shared → Prop} {s : Shared} {env : Env} {x : Str} {px pos : Pos} {iter : Expr} {body : List Stmt} {Q : Flow → Shared → Prop}
/-- a loop at its iterator -/
def TurnsAt (prog : Program) (w : World) (A : Around) (env : Env) (x : Str) (px : Pos) (body : List Stmt) (Q : Flow → Shared → Prop) (E : Value → Shared → Prop) (it : Value) (s₂ : Shared) : Prop :=
  codeAny (model prog w) A (.forLoop (.Name x px) it body [] env) (fun r s' => match r with | .ok f => Q f s' | .error e => cameBackBy (model prog w) A env E e s') s₂
theorem For_T (h : wpAny (model prog w) A (eval iter env) (fun xv s₁ => wpAny (model prog w) A (pyIter xv) (fun it s₂ => TurnsAt prog w A env x px body Q E it s₂) E s₁) E s)
    (hs : ∀ x, foldedSetIterable iter env x = pure x := by intro _; rfl) :
    wpAny (model prog w) A (exec (.For (.Name x px) iter body [] pos) env) Q E s := wpAny_For h hs
/-- a turn's end; the ground may have turned -/
def TurnEndT (L : Addr) (I : Addr) (it : Obj) (JJ : Heap → (Str → Option Value) → List (Addr × Obj) → Prop) (s₁ s₂ : Shared) : Prop :=
  ∃ h' tk g' m' news', s₂ = { s₁ with heap := h', toks := tk } ∧ Fr g' L h' m' ∧ News g' L h' ((I, it) :: news') ∧ (∀ p ∈ news', p.1 ≠ I) ∧ JJ g' m' news'
def TurnPostT (L : Addr) (I : Addr) (it : Obj) (JJ : Heap → (Str → Option Value) → List (Addr × Obj) → Prop) (s₁ : Shared) (Q : Flow → Shared → Prop) (f : Flow) (s₂ : Shared) : Prop :=
  match f with
  | .ret v => Q (.ret v) s₂
  | .brk => Q .next s₂
  | _ => TurnEndT L I it JJ s₁ s₂
theorem TurnEndT.intro {L : Addr} {I : Addr} {it : Obj} {JJ : Heap → (Str → Option Value) → List (Addr × Obj) → Prop} {s₁ : Shared} {h' : Heap} {tk : Nat} {g' : Heap} {m' : Str → Option Value} {news' : List (Addr × Obj)}
    (F : Fr g' L h' m') (N : News g' L h' ((I, it) :: news')) (off : ∀ p ∈ news', p.1 ≠ I) (j : JJ g' m' news') : TurnEndT L I it JJ s₁ { s₁ with heap := h', toks := tk } := ⟨h', tk, g', m', news', rfl, F, N, off, j⟩
theorem turns_range {r : Addr} {t₀ u₀ v₀ : Tok} {n : Nat} {g₀ : Heap} {m₀ : Str → Option Value} {news₀ : List (Addr × Obj)} (JJ : Nat → Heap → (Str → Option Value) → List (Addr × Obj) → Prop)
    (hh : A.handled = none) (hx : env.kindOf x = some .local) (hp : (env.scope.kind == .class || (env.scope.kind == .module && env.locals != env.globals)) = false)
    (hr : IsRange s.heap r 0 (n : Int) 1 t₀ u₀ v₀) (hsmall : Builtin.Range.small 0 (n : Int) 1 = true) (hn : Builtin.Range.rangeSize 0 (n : Int) 1 = (n : Int))
    (F : Fr g₀ env.locals s.heap m₀) (N : News g₀ env.locals s.heap news₀) (j0 : ∀ I : Addr, (∀ p ∈ news₀, p.1 < I) → JJ 0 g₀ m₀ news₀)
    (step : ∀ I : Addr, (∀ p ∈ news₀, p.1 < I) → ∀ i g m news h tk t, i < n → Fr g env.locals h (fun y => if y = x then some (.int (i : Int) t) else m y) → News g env.locals h ((I, itR ((i + 1 : Nat) : Int) ((n : Int) - ((i + 1 : Nat) : Int))) :: news) → (∀ p ∈ news, p.1 ≠ I) → JJ i g m news →
      wpAny (model prog w) A (execs body env) (TurnPostT env.locals I (itR ((i + 1 : Nat) : Int) ((n : Int) - ((i + 1 : Nat) : Int))) (JJ (i + 1)) { s with heap := h, toks := tk } Q) E { s with heap := h, toks := tk })
    (done : ∀ g m news h tk, Fr g env.locals h m → News g env.locals h news → JJ n g m news → Q .next { s with heap := h, toks := tk })
    (hE : PassesOwn (model prog w) A env E := by passes_own) :
    wpAny (model prog w) A (pyIter (.ref r)) (fun it s₂ => TurnsAt prog w A env x px body Q E it s₂) E s := by
  refine wpAny_pyIter_range hr hsmall ?_
  have hlt : ∀ p ∈ news₀, p.1 < s.heap.objs.size := fun p hp => Heap.lt_size (N p hp).1
  have stp := step s.heap.objs.size hlt
  have j0' := j0 s.heap.objs.size hlt
  have W := (Walks.range (prog := prog) (w := w) hh s.heap.objs.size 0 1 n)
  generalize hI : s.heap.objs.size = I at W stp j0' hlt ⊢
  have hit : (s.heap.push { cls := .type "range_iterator", data := .fields #[rawInt 0, rawInt (Builtin.Range.rangeSize 0 (n : Int) 1), rawInt 1] }).get? I = some (itR 0 (n : Int)) := by
    rw [hn, ← hI]; exact Heap.get?_push_size _ rfl
  have hIL : env.locals ≠ I := by rw [← hI]; exact Nat.ne_of_lt F.ns.lt
  have hgI : g₀.get? I = none := by rw [← hI]; exact none_at_size F
  refine codeAny_forLoop
    (fun k s' => ∃ h' tk g m news i, s' = { s with heap := h', toks := tk } ∧ Fr g env.locals h' m ∧ News g env.locals h' ((I, itR ((i : Nat) : Int) ((n : Int) - ((i : Nat) : Int))) :: news) ∧ (∀ p ∈ news, p.1 ≠ I) ∧ JJ i g m news ∧ i ≤ n ∧ k = n + 1 - i) ?_ (n + 1)
    ⟨_, _, g₀, m₀, news₀, 0, rfl, F.push _, fun p hp => ?_, fun p hp => Nat.ne_of_lt (hlt p hp), j0', Nat.zero_le _, rfl⟩
  · rintro k s' ⟨h', tk, g, m, news, i, rfl, F', N', off, hJ, hi, rfl⟩
    have hgI' : g.get? I = none := (N' _ (.head _)).2.2
    have hLI : I ≠ env.locals := (N' _ (.head _)).2.1
    have hst : IsRangeIter h' I (0 + (i : Int) * 1) ((n : Int) - (i : Int)) 1 := by
      have := (N' _ (.head _)).1
      rw [Int.mul_one, Int.zero_add]
      exact this
    have next : ∀ h₁ : Heap, (∀ b o, b ∉ [I] → h'.get? b = some o → h₁.get? b = some o) → Fr g env.locals h₁ m ∧ News g env.locals h₁ news := fun h₁ hk₁ =>
      ⟨⟨F'.ns.at' fun o e => hk₁ _ o (fun q => hLI (List.mem_singleton.mp q).symm) e, fun b o e => hk₁ b o (fun q => by rw [List.mem_singleton.mp q, hgI'] at e; cases e) (F'.keep b o e), F'.above⟩,
       fun p hp => ⟨hk₁ _ _ (fun q => off p hp (List.mem_singleton.mp q)) (N' p (.tail _ hp)).1, (N' p (.tail _ hp)).2⟩⟩
    by_cases hl : i < n
    · refine W.item i _ _ _ hl hst fun v h₁ tk₁ hP hst₁ hk₁ => ?_
      obtain ⟨t, rfl⟩ := hP
      obtain ⟨F₁, N₁⟩ := next h₁ hk₁
      rw [Int.mul_one, Int.zero_add] at hst₁
      refine wpAny_assign_Name (wpAny_storeName_local hx F₁.ns (fun h₂ hn₂ hs₂ => ?_) hp)
      have F₂ := F₁.set hn₂ hs₂
      have N₂ : News g env.locals h₂ ((I, itR ((i + 1 : Nat) : Int) ((n : Int) - ((i + 1 : Nat) : Int))) :: news) := fun p hp => by
        rcases List.mem_cons.mp hp with rfl | hp
        · exact ⟨(hs₂.2 I hLI).trans hst₁, hLI, hgI'⟩
        · exact (N₁.set hs₂) p hp
      rw [Int.mul_one, Int.zero_add] at F₂
      refine wpAny_mono (wpAny_passesOwn hE (stp i g m news h₂ (tk₁ + 1) t hl F₂ N₂ off hJ)) (fun f s₃ h₃ => ?_) fun _ _ e => e
      have fin : TurnEndT env.locals I (itR ((i + 1 : Nat) : Int) ((n : Int) - ((i + 1 : Nat) : Int))) (JJ (i + 1)) { s with heap := h₂, toks := tk₁ + 1 } s₃ →
          ∃ k, k < n + 1 - i ∧ ∃ h' tk g m news i, s₃ = { s with heap := h', toks := tk } ∧ Fr g env.locals h' m ∧ News g env.locals h' ((I, itR ((i : Nat) : Int) ((n : Int) - ((i : Nat) : Int))) :: news) ∧ (∀ p ∈ news, p.1 ≠ I) ∧ JJ i g m news ∧ i ≤ n ∧ k = n + 1 - i := by
        rintro ⟨h3, tk3, g3, m3, news3, rfl, F3, N3, off3, J3⟩
        exact ⟨n + 1 - (i + 1), by omega, h3, tk3, g3, m3, news3, i + 1, rfl, F3, N3, off3, J3, hl, rfl⟩
      cases f with
      | ret v => exact h₃
      | brk => exact h₃
      | cont => exact fin h₃
      | next => exact fin h₃
    · have hin : i = n := by omega
      subst hin
      refine W.done _ _ _ hst fun h₁ tk₁ hk₁ => wpAny_execs_nil ?_
      obtain ⟨F₁, N₁⟩ := next h₁ hk₁
      exact done g m news h₁ tk₁ F₁ N₁ hJ
  · rcases List.mem_cons.mp hp with rfl | hp
    · refine ⟨?_, hIL.symm, hgI⟩
      show _ = some (itR ((0 : Nat) : Int) ((n : Int) - ((0 : Nat) : Int)))
      rw [show ((n : Int) - ((0 : Nat) : Int)) = (n : Int) from by omega]
      exact hit
    · exact ⟨Heap.get?_push_of_some _ (N p hp).1, (N p hp).2⟩
end
/-- a bad write is drawn, the pen anywhere in the ledger -/
theorem bad_write_U {w : World} {mean : ExcName → Option Value} {mg mb : Str → Option Value} {dp un : Nat} {gd : Option (List Code)} {cn : Str} {cs : Scope} {a : Addr} {ccd : Value} {cl : List (Str × Addr)} {outer : List Env} {A₀ : Around} {base h₀ : Heap} {L : Addr} {m : Str → Option Value} {s : Shared} {Q E : Value → Shared → Prop}
    {pen scr : Addr} {news : List (Addr × Obj)} {g : Obj → List (Addr × Obj)} {vs : List Value} {ns : List Int} {k e : Int} {tk te ts : Tok} {size : Int} {nl : Nat}
    (B : Below A₀ base outer h₀) (F : Fr h₀ L s.heap m) (X : (hd.heap_1 w.params).In h₀) (Y : KX w base) (XB : (hd.heap_1 w.params).In base) (TB : Top topProg LO mean mg mb base) (N : News h₀ L s.heap news)
    (U : UpdF pen (W.listOf #[.int k tk, .int e te, .ref scr] nl) news g) (hs : (scr, W.listOf vs.toArray 0) ∈ news) (hne : pen ≠ scr)
    (T : Top topProg LO mean mg mb h₀) (hk : cs.kind = .function) (hi : IntsAre vs ns) (hl : ns.length ≤ 63) (k0 : 0 ≤ k) (k1 : k ≤ 99) (e0 : 0 ≤ e) (e1 : e ≤ 99) (m0 : 1 ≤ size) (m1 : size ≤ 4) (hd : dp + 2 < 350) (hu : un + 16 < 300)
    (h : ∀ (tp l : Addr) (lo : Obj) (n : Int) (tn : Tok) (v : Value) (k' e' : Int) (tk' te' : Tok) (ct : Nat) h' tks, (∀ p ∈ news, p.1 < tp) → (∀ p ∈ news, p.1 < l) → BadW size l lo n v → k' = k + 1 → e ≤ e' → e' ≤ e + 1 →
      Fr h₀ L h' m → News h₀ L h' ((tp, { cls := .type "tuple", data := .seq #[.int n tn, v] ct }) :: (l, lo) :: g (W.listOf #[.int k' tk', .int e' te', .ref scr] nl)) → Q (.ref tp) { s with heap := h', toks := tks }) :
    wpAny (model Challenge.rw_pq0901_01.row.prog w) (ktrTop dp un gd cn cs L a ccd cl outer) (call (.ref 327) [.ref pen, .int size ts]) Q E s := by
  obtain ⟨pre, post, rfl, hg, h1, h2⟩ := U.split
  have key : ∀ (p : Addr × Obj), p ∈ pre ++ post → p.1 = scr → p = (scr, W.listOf vs.toArray 0) := fun p hp e => by
    have q1 := (N p (by rcases List.mem_append.mp hp with q | q; exact List.mem_append_left _ q; exact List.mem_append_right _ (.tail _ q))).1
    have q2 := (N _ hs).1
    rw [e] at q1
    dsimp only at q2
    rw [q1] at q2
    exact Prod.ext e (Option.some.inj q2)
  have lt_all : ∀ {a : Nat}, AllLt a ((pen, W.listOf #[.int k tk, .int e te, .ref scr] nl) :: (scr, W.listOf vs.toArray 0) :: ((pre ++ post).filter fun p => !(Nat.beq p.1 scr))) → ∀ p ∈ pre ++ (pen, W.listOf #[.int k tk, .int e te, .ref scr] nl) :: post, p.1 < a := fun {a} h p hp => by
    have hall : ∀ {l : List (Addr × Obj)}, AllLt a l → ∀ p ∈ l, p.1 < a := fun {l} => by
      induction l with
      | nil => intro _ p hp; cases hp
      | cons q r ih =>
        intro h p hp
        rcases List.mem_cons.mp hp with rfl | hp
        · exact h.1
        · exact ih h.2 p hp
    have hin := hall h
    by_cases z : p.1 = scr
    · rw [z]; exact hin _ (.tail _ (.head _))
    · rcases List.mem_append.mp hp with q | q
      · refine hin p (.tail _ (.tail _ (List.mem_filter.mpr ⟨List.mem_append_left _ q, ?_⟩)))
        cases w : Nat.beq p.1 scr with
        | true => exact absurd (Nat.eq_of_beq_eq_true w) z
        | false => rfl
      · rcases List.mem_cons.mp q with rfl | q
        · exact hin _ (.head _)
        · refine hin p (.tail _ (.tail _ (List.mem_filter.mpr ⟨List.mem_append_right _ q, ?_⟩)))
          cases w : Nat.beq p.1 scr with
          | true => exact absurd (Nat.eq_of_beq_eq_true w) z
          | false => rfl
  refine bad_write w mean mg mb pen scr ((pre ++ post).filter fun p => !(Nat.beq p.1 scr)) vs ns k e tk te ts nl size m0 m1 ?_ hne hi hl k0 k1 e0 e1 dp un gd cn cs a ccd cl outer A₀ base h₀ L m s Q E B F X Y XB TB ?_ T hk hd hu ?_
  · intro p hp b hb
    obtain ⟨q1, q2⟩ := List.mem_filter.mp hp
    rcases List.mem_cons.mp hb with rfl | hb
    · rcases List.mem_append.mp q1 with q | q
      · exact h1 p q
      · exact h2 p q
    · rw [List.mem_singleton.mp hb]
      intro z
      rw [z] at q2
      simp at q2
  · intro p hp
    refine N p ?_
    rcases List.mem_cons.mp hp with rfl | hp
    · exact List.mem_append_right _ (.head _)
    · rcases List.mem_cons.mp hp with rfl | hp
      · exact hs
      · rcases List.mem_append.mp (List.mem_filter.mp hp).1 with q | q
        · exact List.mem_append_left _ q
        · exact List.mem_append_right _ (.tail _ q)
  · intro tp l lo n tn v k' e' tk' te' ct h' tks a1 a2 hb hk' he he1 F' N'
    refine h tp l lo n tn v k' e' tk' te' ct h' tks (lt_all a1) (lt_all a2) hb hk' he he1 F' fun p hp => ?_
    rcases List.mem_cons.mp hp with rfl | hp
    · exact N' _ (.head _)
    rcases List.mem_cons.mp hp with rfl | hp
    · exact N' _ (.tail _ (.head _))
    rw [hg] at hp
    have hp' : p ∈ (pen, W.listOf #[.int k' tk', .int e' te', .ref scr] nl) :: (pre ++ post) := by
      rcases List.mem_append.mp hp with q | q
      · exact .tail _ (List.mem_append_left _ q)
      · rcases List.mem_cons.mp q with rfl | q
        · exact .head _
        · exact .tail _ (List.mem_append_right _ q)
    rcases List.mem_cons.mp hp' with rfl | hq
    · exact N' _ (.tail _ (.tail _ (.head _)))
    · by_cases z : p.1 = scr
      · rw [key p hq z]
        exact N' _ (.tail _ (.tail _ (.tail _ (.head _))))
      · refine N' p (.tail _ (.tail _ (.tail _ (.tail _ (List.mem_filter.mpr ⟨hq, ?_⟩)))))
        cases w : Nat.beq p.1 scr with
        | true => exact absurd (Nat.eq_of_beq_eq_true w) z
        | false => rfl
end Mine
end
section
open PySem PySem.W PyProof.Rows PySem.Calls PySem.Spec
set_option linter.unusedVariables false
set_option maxRecDepth 100000
namespace Mine
theorem find_map_other {α : Type} [DecidableEq α] (k i : α) (v : Value) (h : i ≠ k) : ∀ l : List (α × Value), ((l.map fun kv => if kv.1 = k then (kv.1, v) else kv).find? fun kv => decide (kv.1 = i)).map (·.2) = (l.find? fun kv => decide (kv.1 = i)).map (·.2)
  | [] => rfl
  | kv :: r => by
    have ih := find_map_other k i v h r
    rw [List.map_cons, List.find?_cons, List.find?_cons]
    by_cases hk : kv.1 = k
    · have hi : ¬ kv.1 = i := fun e => h (e.symm.trans hk)
      simp only [hk, if_true]
      have hi' : ¬ k = i := fun e => h e.symm
      simp only [decide_eq_false hi']
      exact ih
    · simp only [if_neg hk]
      by_cases hi : kv.1 = i
      · simp [hi]
      · rw [decide_eq_false hi]
        simpa using ih
theorem find_map_same {α : Type} [DecidableEq α] (k : α) (v : Value) : ∀ l : List (α × Value), l.any (fun kv => kv.1 = k) = true → ((l.map fun kv => if kv.1 = k then (kv.1, v) else kv).find? fun kv => decide (kv.1 = k)).map (·.2) = some v
  | [], h => by simp at h
  | kv :: r, h => by
    rw [List.map_cons, List.find?_cons]
    by_cases hk : kv.1 = k
    · simp [hk]
    · simp only [if_neg hk]
      rw [decide_eq_false hk]
      refine find_map_same k v r ?_
      rw [List.any_cons, decide_eq_false hk, Bool.false_or] at h
      exact h
theorem valueAt_stored {α : Type} [DecidableEq α] (kvs : List (α × Value)) (k i : α) (v : Value) : valueAt (stored kvs k v) i = if i = k then some v else valueAt kvs i := by
  unfold valueAt stored
  by_cases hany : kvs.any (fun kv => kv.1 = k) = true
  · rw [if_pos hany]
    by_cases hi : i = k
    · subst hi
      rw [if_pos rfl]
      exact find_map_same i v kvs hany
    · rw [if_neg hi]
      exact find_map_other k i v hi kvs
  · rw [if_neg hany]
    have hno : ∀ kv ∈ kvs, kv.1 ≠ k := fun kv hkv e => hany (List.any_eq_true.mpr ⟨kv, hkv, by simpa using e⟩)
    rw [List.find?_append]
    by_cases hi : i = k
    · subst hi
      rw [if_pos rfl]
      have : kvs.find? (fun kv => decide (kv.1 = i)) = none := List.find?_eq_none.mpr fun kv hkv => by simpa using hno kv hkv
      rw [this]
      simp
    · rw [if_neg hi]
      have hk : ¬ k = i := fun e => hi e.symm
      simp [hk]
theorem stored_length {α : Type} [DecidableEq α] (kvs : List (α × Value)) (k : α) (v : Value) : (stored kvs k v).length ≤ kvs.length + 1 := by
  unfold stored
  split
  · rw [List.length_map]; omega
  · rw [List.length_append]; simp
theorem Blk.stored {kvs : List (Int × Value)} {i n : Int} {z b c : Array UInt8} {t : Tok} (h : Blk kvs i z b) : Blk (stored kvs n (.bytes c t)) i z (if i = n then c else b) := by
  unfold Blk
  rw [valueAt_stored]
  by_cases e : i = n
  · rw [if_pos e, if_pos e]
    exact .inl ⟨t, rfl⟩
  · rw [if_neg e, if_neg e]
    exact h
/-- what the writes make of a block -/
def blkOf (z : Array UInt8) (i : Int) (ws : List (Addr × Int × Array UInt8)) : Array UInt8 := ws.foldl (fun b q => if i = q.2.1 then q.2.2 else b) z
theorem blkOf_snoc (z : Array UInt8) (i : Int) (ws : List (Addr × Int × Array UInt8)) (q : Addr × Int × Array UInt8) : blkOf z i (ws ++ [q]) = if i = q.2.1 then q.2.2 else blkOf z i ws := by
  unfold blkOf
  rw [List.foldl_append]
  rfl
section
variable {M : Model} {A : Around} {E : Value → Shared → Prop} {s : Shared} {h₀ : Heap} {L a c P : Addr} {m mg mb : Str → Option Value} {cn : Str} {cs : Scope} {ccd : Value} {cl : List (Str × Addr)} {news : List (Addr × Obj)} {g : Obj → List (Addr × Obj)}
  {p : Program} {loose : List Str} {mean : ExcName → Option Value} {params : Arguments} {body : Expr} {scope : Scope} {ps : Array Value} {pos pos' : Pos} {clos : List (Str × Addr)}
/-- what the table of the function's lambdas holds: nothing, or the first lambda's code -/
def TabIs (ps : Array Value) (pos : Pos) (qual : Str) (news : List (Addr × Obj)) : Prop :=
  ps = #[] ∨ ∃ cc co vs t, ps = #[rawInt pos.line, rawInt pos.col, .ref cc] ∧ (cc, co) ∈ news ∧ co.data = .fields vs ∧ vs[1]? = some (.str qual t)
theorem lam1_make {oz : List (Addr × Obj)} {Q : Value → Shared → Prop} (hdef : defaultsOf params (envX cn cs L a ccd cl) = ([], [])) (F : Fr h₀ L s.heap m) (N : News h₀ L s.heap news) (T : Top p loose mean mg mb h₀) (C : CodeHd h₀ c P) (hcd : ccd = .ref c) (U : UpdF P (tabObj ps) news g)
    (ht : TabIs ps pos ((envX cn cs L a ccd cl).qual ++ "<lambda>") oz) (hsub : ∀ p ∈ oz, p ∈ news) (hmem : (P, tabObj ps) ∈ news)
    (hcl : closureFor scope (envX cn cs L a ccd cl) = pure clos)
    (h : ∀ f c' oc vs t ctv h' tk, Fr h₀ L h' m →
      News h₀ L h' ((f, kla_obj "<lambda>" ((envX cn cs L a ccd cl).qual ++ "<lambda>") params body scope clos ((mg "__name__").getD .none) c' ctv) :: (c', oc) :: g (tabObj #[rawInt pos.line, rawInt pos.col, .ref c'])) →
      oc.data = .fields vs → vs[1]? = some (.str ((envX cn cs L a ccd cl).qual ++ "<lambda>") t) → ((c', oc) ∈ oz ∨ ∀ q ∈ news, q.1 < c') → Q (.ref f) { s with heap := h', toks := tk }) :
    wpAny M A (eval (.Lambda params body scope pos) (envX cn cs L a ccd cl)) Q E s := by
  refine kla_eval hdef ?_
  rcases ht with rfl | ⟨cc, co, vs, t, rfl, hc, hd, hv⟩
  · refine kla_nest F N T C hcd U trivial rfl hcl fun f c' oc vs t ctv h' tk F' N' d1 d2 l1 l2 => ?_
    refine h f c' oc vs t ctv h' tk F' ?_ d1 d2 (.inr l1)
    have e : (#[] ++ #[rawInt pos.line, rawInt pos.col, Value.ref c'] : Array Value) = #[rawInt pos.line, rawInt pos.col, Value.ref c'] := by simp
    rw [e] at N'
    exact N'
  · refine kla_hit F N T C hcd hmem (by simp [TriplesOk, rawInt]) (c' := cc) (by simp [codeAmong, rawInt]) hcl fun f ctv h' tk F' N' l1 => ?_
    refine h f cc co vs t ctv h' tk F' (fun q hq => ?_) hd hv (.inl hc)
    rcases List.mem_cons.mp hq with rfl | hq
    · exact N' _ (.head _)
    rcases List.mem_cons.mp hq with rfl | hq
    · exact N' _ (.tail _ (hsub _ hc))
    obtain ⟨pre, post, e, hg, h1, h2⟩ := U.split
    rw [hg] at hq
    exact N' _ (.tail _ (by rw [e]; exact hq))
theorem lam2_make {Q : Value → Shared → Prop} (hdef : defaultsOf params (envX cn cs L a ccd cl) = ([], [])) (F : Fr h₀ L s.heap m) (N : News h₀ L s.heap news) (T : Top p loose mean mg mb h₀) (C : CodeHd h₀ c P) (hcd : ccd = .ref c) (U : UpdF P (tabObj ps) news g)
    (ht : TabIs ps pos' ((envX cn cs L a ccd cl).qual ++ "<lambda>") news) (hne : pos'.line ≠ pos.line)
    (hcl : closureFor scope (envX cn cs L a ccd cl) = pure clos)
    (h : ∀ f c' oc vs t ctv ps' h' tk, Fr h₀ L h' m →
      News h₀ L h' ((f, kla_obj "<lambda>" ((envX cn cs L a ccd cl).qual ++ "<lambda>") params body scope clos ((mg "__name__").getD .none) c' ctv) :: (c', oc) :: g (tabObj ps')) →
      oc.data = .fields vs → vs[1]? = some (.str ((envX cn cs L a ccd cl).qual ++ "<lambda>") t) → (∀ q ∈ news, q.1 < c') → c' < f → Q (.ref f) { s with heap := h', toks := tk }) :
    wpAny M A (eval (.Lambda params body scope pos) (envX cn cs L a ccd cl)) Q E s := by
  refine kla_eval hdef ?_
  have ok : TriplesOk ps.toList ∧ codeAmong pos ps.toList = none := by
    rcases ht with rfl | ⟨cc, co, vs, t, rfl, hc, hd, hv⟩
    · exact ⟨trivial, rfl⟩
    · refine ⟨by simp [TriplesOk, rawInt], ?_⟩
      simp only [rawInt, codeAmong]
      rw [if_neg]
      simp only [Bool.and_eq_true, beq_iff_eq, not_and]
      intro e
      exact absurd (Int.ofNat.inj e) hne
  exact kla_nest F N T C hcd U ok.1 ok.2 hcl fun f c' oc vs t ctv h' tk F' N' d1 d2 l1 l2 => h f c' oc vs t ctv _ h' tk F' N' d1 d2 l1 l2
end
end Mine
end
section
open PySem PySem.W PyProof.Rows PySem.Calls
set_option linter.unusedVariables false
set_option maxRecDepth 100000
namespace Mine
theorem RaiseCl.mono {w : World} {mean : ExcName → Option Value} {mg mb : Str → Option Value} {f : Value} {vs : List Value} {C : Addr} {k : Nat} {l1 l1' l2 l2' : List (Addr × Obj)} (h : RaiseCl w mean mg mb f vs C k l1 l1') (hs : ∀ p ∈ l1, p ∈ l2) (hs' : ∀ p ∈ l2', p ∈ l1') :
    RaiseCl w mean mg mb f vs C k l2 l2' := by
  intro dp un gd cn cs a ccd cl outer A₀ base h₀ L m s Q E B F X Y XB TB N T hk hd hu hE
  exact h dp un gd cn cs a ccd cl outer A₀ base h₀ L m s Q E B F X Y XB TB (fun p hp => N p (hs p hp)) T hk hd hu fun g₂ h' e tk' f r u => hE g₂ h' e tk' f (raisedSN_sub r hs') u
theorem OctBad.mono {l l' : List (Addr × Obj)} {v : Value} (h : OctBad l v) (hs : ∀ p ∈ l, p ∈ l') : OctBad l' v := by
  rcases h with h | h | h | ⟨a, its, lc, e, hm, hb⟩
  · exact .inl h
  · exact .inr (.inl h)
  · exact .inr (.inr (.inl h))
  · exact .inr (.inr (.inr ⟨a, its, lc, e, hs _ hm, hb⟩))
section
variable {w : World} {mean : ExcName → Option Value} {mg mb : Str → Option Value} {led rest : List (Addr × Obj)} {t1 t2 t3 t4 t5 t6 t7 t8 t9 t10 u1 u2 u3 u4 u5 : Tok} {size wr last n : Int} {kept lt un lam c' cD cN cO : Addr} {v pm ctv : Value} {tn tq : Tok}
    {oc oD oN oO : Obj} {qual : Str} {vs : Array Value}
theorem write_bad {x dx l : Addr} {lo : Obj} (own : List (Addr × Obj)) (hs0 : 1 ≤ size) (hs1 : size ≤ 4) (hb : BadW size l lo n v) (hl : (l, lo) ∈ own) :
    RaiseCl w mean mg mb (.ref 252) [.ref x, .int n tn, v] 83 2 ((x, instObj 302 dx) :: (dx, diskD w t1 t2 t3 t4 t5 t6 t7 t8 t9 t10 u1 u2 u3 u4 u5 size wr last kept lt un false) :: own) ((x, instObj 302 dx) :: (dx, diskD w t1 t2 t3 t4 t5 t6 t7 t8 t9 t10 u1 u2 u3 u4 u5 size wr last kept lt un false) :: own) := by
  rcases hb with ⟨n0, n1, hv⟩ | rfl | ⟨n0, n1, b, t, rfl, hz, hlt⟩
  · exact write_oct w mean mg mb own t1 t2 t3 t4 t5 t6 t7 t8 t9 t10 u1 u2 u3 u4 u5 size wr last n x dx kept lt un tn v n0 n1 (hv.mono fun p hp => .tail _ (.tail _ (by rw [List.mem_singleton.mp hp]; exact hl)))
  · exact write_num w mean mg mb own t1 t2 t3 t4 t5 t6 t7 t8 t9 t10 u1 u2 u3 u4 u5 size wr last 0 x dx kept lt un tn v
  · exact write_len w mean mg mb own t1 t2 t3 t4 t5 t6 t7 t8 t9 t10 u1 u2 u3 u4 u5 size wr last n x dx kept lt un tn b t n0 n1 hz hs0 hs1 hlt
theorem refused_bad {x dx l : Addr} {lo : Obj} {dp un9 : Nat} {gd : Option (List Code)} {cn : Str} {cs : Scope} {a : Addr} {ccd : Value} {cl : List (Str × Addr)} {outer : List Env} {A₀ : Around} {base h₀ : Heap} {L : Addr} {m : Str → Option Value} {s : Shared} {Q E : Value → Shared → Prop}
    (B : Below A₀ base outer h₀) (F : Fr h₀ L s.heap m) (X : (hd.heap_1 w.params).In h₀) (Y : KX w base) (XB : (hd.heap_1 w.params).In base) (TB : Top topProg LO mean mg mb base) (T : Top topProg LO mean mg mb h₀) (D : KtsDicts (frs outer) h₀) (hk : cs.kind = .function) (hd : dp + 4 < 350) (hu : un9 + 32 < 300)
    (N : News h₀ L s.heap ((lam, kla_obj "<lambda>" qual noArgs lamBody1 lamScope [("octets", cO), ("number", cN), ("disk", cD)] pm c' ctv) :: rest))
    (m1 : (x, instObj 302 dx) ∈ rest) (m2 : (dx, diskD w t1 t2 t3 t4 t5 t6 t7 t8 t9 t10 u1 u2 u3 u4 u5 size wr last kept lt un false) ∈ rest) (m3 : (c', oc) ∈ rest) (m4 : (cD, oD) ∈ rest) (m5 : (cN, oN) ∈ rest) (m6 : (cO, oO) ∈ rest) (m7 : (l, lo) ∈ rest)
    (hoc : oc.data = .fields vs) (hvs : vs[1]? = some (.str qual tq)) (hD : oD.data = .cell (some (.ref x))) (hN : oN.data = .cell (some (.int n tn))) (hO : oO.data = .cell (some v)) (hs0 : 1 ≤ size) (hs1 : size ≤ 4) (hb : BadW size l lo n v)
    (h : ∀ h₁ h' tk', KtsTurn (frs outer) h₀ h₁ → Fr h₁ L h' m → News h₁ L h' rest → Below A₀ base outer h₁ → (Mine.hd.heap_1 w.params).In h₁ → Top topProg LO mean mg mb h₁ → KtsDicts (frs outer) h₁ → Q (.bool true) { s with heap := h', toks := tk' }) :
    wpAny (model Challenge.rw_pq0901_01.row.prog w) (ktrTop dp un9 gd cn cs L a ccd cl outer) (call (.ref 334) [.ref lam, .ref 83]) Q E s := by
  have r := lam_raise1 w mean mg mb rest _ t1 t2 t3 t4 t5 t6 t7 t8 t9 t10 u1 u2 u3 u4 u5 size wr last x dx kept lt un lam c' cD cN cO false (.int n tn) v pm ctv 83 2 oc oD oN oO qual vs tq hoc hvs hD hN hO
    (write_bad (tn := tn) ((lam, kla_obj "<lambda>" qual noArgs lamBody1 lamScope [("octets", cO), ("number", cN), ("disk", cD)] pm c' ctv) :: (c', oc) :: (cD, oD) :: (cN, oN) :: (cO, oO) :: rest) hs0 hs1 hb (.tail _ (.tail _ (.tail _ (.tail _ (.tail _ m7))))))
  have r2 : RaiseCl w mean mg mb (.ref lam) [] 83 3 ((lam, kla_obj "<lambda>" qual noArgs lamBody1 lamScope [("octets", cO), ("number", cN), ("disk", cD)] pm c' ctv) :: rest) rest := by
    refine r.mono (fun p hp => ?_) fun p hp => .tail _ (.tail _ (.tail _ (.tail _ (.tail _ (.tail _ (.tail _ hp))))))
    rcases List.mem_cons.mp hp with rfl | hp
    · exact .tail _ m1
    rcases List.mem_cons.mp hp with rfl | hp
    · exact .tail _ m2
    rcases List.mem_cons.mp hp with rfl | hp
    · exact .head _
    rcases List.mem_cons.mp hp with rfl | hp
    · exact .tail _ m3
    rcases List.mem_cons.mp hp with rfl | hp
    · exact .tail _ m4
    rcases List.mem_cons.mp hp with rfl | hp
    · exact .tail _ m5
    rcases List.mem_cons.mp hp with rfl | hp
    · exact .tail _ m6
    exact .tail _ hp
  exact refused w mean mg mb rest rest lam 83 c' 3 qual lamBody1 lamScope _ pm ctv (exm83 _) r2 dp un9 gd cn cs a ccd cl outer A₀ base h₀ L m s Q E B F X Y XB TB N T D hk (by omega) (by omega) h
theorem refused_crash {x dx : Nat} {g : Obj → List (Addr × Obj)} {b : Array UInt8} {tb : Tok} {dp un9 : Nat} {gd : Option (List Code)} {cn : Str} {cs : Scope} {a : Addr} {ccd : Value} {cl : List (Str × Addr)} {outer : List Env} {A₀ : Around} {base h₀ : Heap} {L : Addr} {m : Str → Option Value} {s : Shared} {Q E : Value → Shared → Prop}
    (B : Below A₀ base outer h₀) (F : Fr h₀ L s.heap m) (X : (hd.heap_1 w.params).In h₀) (Y : KX w base) (XB : (hd.heap_1 w.params).In base) (TB : Top topProg LO mean mg mb base) (T : Top topProg LO mean mg mb h₀) (D : KtsDicts (frs outer) h₀) (hk : cs.kind = .function) (hd : dp + 5 < 350) (hu : un9 + 40 < 300)
    (N : News h₀ L s.heap ((lam, kla_obj "<lambda>" qual noArgs lamBody2 lamScope [("octets", cO), ("number", cN), ("disk", cD)] pm c' ctv) :: rest))
    (U : UpdF dx (diskD w t1 t2 t3 t4 t5 t6 t7 t8 t9 t10 u1 u2 u3 u4 u5 size wr last kept lt un false) rest g)
    (m1 : (x, instObj 302 dx) ∈ rest) (m3 : (c', oc) ∈ rest) (m4 : (cD, oD) ∈ rest) (m5 : (cN, oN) ∈ rest) (m6 : (cO, oO) ∈ rest)
    (hne : lam ≠ dx ∧ c' ≠ dx ∧ cD ≠ dx ∧ cN ≠ dx ∧ cO ≠ dx ∧ x ≠ dx)
    (hoc : oc.data = .fields vs) (hvs : vs[1]? = some (.str qual tq)) (hD : oD.data = .cell (some (.ref x))) (hN : oN.data = .cell (some (.int n tn))) (hO : oO.data = .cell (some (.bytes b tb))) (hs0 : 1 ≤ size) (hs1 : size ≤ 4) (n0 : 0 ≤ n) (n1 : n < 2) (hbz : (b.size : Int) = size) (hw0 : 0 ≤ wr) (hw1 : wr < 3) (hlw : last ≤ wr)
    (h : ∀ h₁ h' tk', KtsTurn (frs outer) h₀ h₁ → Fr h₁ L h' m → News h₁ L h' (g (diskD w t1 t2 t3 t4 t5 t6 t7 t8 t9 t10 u1 u2 u3 u4 u5 size wr last kept lt un true)) → Below A₀ base outer h₁ → (Mine.hd.heap_1 w.params).In h₁ → Top topProg LO mean mg mb h₁ → KtsDicts (frs outer) h₁ → Q (.bool true) { s with heap := h', toks := tk' }) :
    wpAny (model Challenge.rw_pq0901_01.row.prog w) (ktrTop dp un9 gd cn cs L a ccd cl outer) (call (.ref 334) [.ref lam, .ref 102]) Q E s := by
  obtain ⟨pre, post, rfl, hg, h1, h2⟩ := U.split
  obtain ⟨e1, e2, e3, e4, e5, e6⟩ := hne
  have off : OwnOff ((lam, kla_obj "<lambda>" qual noArgs lamBody2 lamScope [("octets", cO), ("number", cN), ("disk", cD)] pm c' ctv) :: (c', oc) :: (cD, oD) :: (cN, oN) :: (cO, oO) :: (pre ++ post)) [dx] := fun p hp b hb => by
    rw [List.mem_singleton.mp hb]
    rcases List.mem_cons.mp hp with rfl | hp
    · exact e1
    rcases List.mem_cons.mp hp with rfl | hp
    · exact e2
    rcases List.mem_cons.mp hp with rfl | hp
    · exact e3
    rcases List.mem_cons.mp hp with rfl | hp
    · exact e4
    rcases List.mem_cons.mp hp with rfl | hp
    · exact e5
    rcases List.mem_append.mp hp with hp | hp
    · exact h1 p hp
    · exact h2 p hp
  have r := lam_raise2 w mean mg mb (pre ++ post) _ t1 t2 t3 t4 t5 t6 t7 t8 t9 t10 u1 u2 u3 u4 u5 size wr last x dx kept lt un lam c' cD cN cO false (.int n tn) (.bytes b tb) pm ctv 102 3 oc oD oN oO qual vs tq hoc hvs hD hN hO
    (write_crash w mean mg mb ((lam, kla_obj "<lambda>" qual noArgs lamBody2 lamScope [("octets", cO), ("number", cN), ("disk", cD)] pm c' ctv) :: (c', oc) :: (cD, oD) :: (cN, oN) :: (cO, oO) :: (pre ++ post)) t1 t2 t3 t4 t5 t6 t7 t8 t9 t10 u1 u2 u3 u4 u5 size wr last n x dx kept lt un tn b tb n0 n1 (by omega) hs0 hs1 hbz hw0 hw1 hlw e6 off)
  have r2 : RaiseCl w mean mg mb (.ref lam) [] 102 4 ((lam, kla_obj "<lambda>" qual noArgs lamBody2 lamScope [("octets", cO), ("number", cN), ("disk", cD)] pm c' ctv) :: (pre ++ (dx, diskD w t1 t2 t3 t4 t5 t6 t7 t8 t9 t10 u1 u2 u3 u4 u5 size wr last kept lt un false) :: post)) (g (diskD w t1 t2 t3 t4 t5 t6 t7 t8 t9 t10 u1 u2 u3 u4 u5 size wr last kept lt un true)) := by
    refine r.mono (fun p hp => ?_) fun p hp => ?_
    · rcases List.mem_cons.mp hp with rfl | hp
      · exact .tail _ m1
      rcases List.mem_cons.mp hp with rfl | hp
      · exact .tail _ (List.mem_append_right _ (.head _))
      rcases List.mem_cons.mp hp with rfl | hp
      · exact .head _
      rcases List.mem_cons.mp hp with rfl | hp
      · exact .tail _ m3
      rcases List.mem_cons.mp hp with rfl | hp
      · exact .tail _ m4
      rcases List.mem_cons.mp hp with rfl | hp
      · exact .tail _ m5
      rcases List.mem_cons.mp hp with rfl | hp
      · exact .tail _ m6
      rcases List.mem_append.mp hp with hp | hp
      · exact .tail _ (List.mem_append_left _ hp)
      · exact .tail _ (List.mem_append_right _ (.tail _ hp))
    · rw [hg] at hp
      rcases List.mem_append.mp hp with hp | hp
      · exact .tail _ (.tail _ (.tail _ (.tail _ (.tail _ (.tail _ (.tail _ (List.mem_append_left _ hp)))))))
      · rcases List.mem_cons.mp hp with rfl | hp
        · exact .tail _ (.head _)
        · exact .tail _ (.tail _ (.tail _ (.tail _ (.tail _ (.tail _ (.tail _ (List.mem_append_right _ hp)))))))
  exact refused w mean mg mb _ _ lam 102 c' 4 qual lamBody2 lamScope _ pm ctv (exm102 _) r2 dp un9 gd cn cs a ccd cl outer A₀ base h₀ L m s Q E B F X Y XB TB N T D hk (by omega) (by omega) h
end
end Mine
namespace Mine
/-- the law's look at the disk, its parts anywhere in the ledger -/
theorem stands_U {w : World} {mean : ExcName → Option Value} {mg mb : Str → Option Value} {news : List (Addr × Obj)} {t1 t2 t3 t4 t5 t6 t7 t8 t9 t10 u1 u2 u3 u4 u5 : Tok} {size done last : Int} {x dx kept lt un bl : Addr} {dead : Bool}
   {ol : Obj} {kvs : List (Int × Value)} {b0 b1 : Array UInt8} {tb0 tb1 td : Tok} {us : List Value} {ni nb : Nat} {dp un9 : Nat} {gd : Option (List Code)} {cn : Str} {cs : Scope} {a : Addr} {ccd : Value} {cl : List (Str × Addr)} {outer : List Env} {A₀ : Around} {base h₀ : Heap} {L : Addr} {m : Str → Option Value} {s : Shared} {Q E : Value → Shared → Prop}
   (B : Below A₀ base outer h₀) (F : Fr h₀ L s.heap m) (X : (hd.heap_1 w.params).In h₀) (Y : KX w base) (T : Top topProg LO mean mg mb h₀) (hk : cs.kind = .function) (N : News h₀ L s.heap news) (hd : dp + 2 < 350) (hu : un9 + 16 < 300)
   (mx : (x, instObj 302 dx) ∈ news) (mdx : (dx, diskD w t1 t2 t3 t4 t5 t6 t7 t8 t9 t10 u1 u2 u3 u4 u5 size done last kept lt un dead) ∈ news) (mlt : (lt, ol) ∈ news) (mun : (un, W.listOf us.toArray ni) ∈ news) (mbl : (bl, W.listOf #[.bytes b0 tb0, .bytes b1 tb1] nb) ∈ news)
   (hol : ol.IsDictOf (intKind Challenge.rw_pq0901_01.row.prog w) kvs) (lo : (lt == sysModules) = false)
   (hb0 : Blk kvs 0 (Array.replicate size.toNat 0) b0) (hb1 : Blk kvs 1 (Array.replicate size.toNat 0) b1) (hz0 : b0.size = size.toNat) (hz1 : b1.size = size.toNat) (hits : (us.length : Int) = done) (hs1 : 1 ≤ size) (hs4 : size ≤ 4) (hd0 : 0 ≤ done) (hd2 : done ≤ 2)
   (h : ∀ h' tks, Fr h₀ L h' m → News h₀ L h' news → Q (.bool true) { s with heap := h', toks := tks }) :
    wpAny (model Challenge.rw_pq0901_01.row.prog w) (ktrTop dp un9 gd cn cs L a ccd cl outer) (call (.ref 341) [.ref x, .ref bl, .int done td]) Q E s := by
  refine stands w mean mg mb news t1 t2 t3 t4 t5 t6 t7 t8 t9 t10 u1 u2 u3 u4 u5 size done last x dx kept lt un bl dead ol kvs b0 b1 tb0 tb1 td us ni nb hs1 hs4 (by omega) (by omega) hd0 hd2 hol lo hb0 hb1 hz0 hz1 hits dp un9 gd cn cs a ccd cl outer A₀ base h₀ L m s Q E B F X Y T hk (fun p hp => ?_) hd hu
    fun h' tks F' N' => h h' tks F' fun p hp => N' p (.tail _ (.tail _ (.tail _ (.tail _ (.tail _ hp)))))
  rcases List.mem_cons.mp hp with rfl | hp
  · exact N _ mx
  rcases List.mem_cons.mp hp with rfl | hp
  · exact N _ mdx
  rcases List.mem_cons.mp hp with rfl | hp
  · exact N _ mlt
  rcases List.mem_cons.mp hp with rfl | hp
  · exact N _ mun
  rcases List.mem_cons.mp hp with rfl | hp
  · exact N _ mbl
  exact N p hp
end Mine
end
section
open PySem PySem.W PyProof.Rows PySem.Calls PySem.Spec
set_option linter.unusedVariables false
namespace Mine
theorem append_L {prog : Program} {w : World} {A : Around} {E : Value → Shared → Prop} {s : Shared} {h₀ : Heap} {L D : Addr} {m : Str → Option Value} {news news' : List (Addr × Obj)} {us : List Value} {n : Nat} {x : Value} {Q : Value → Shared → Prop} (F : Fr h₀ L s.heap m) (N : News h₀ L s.heap news) (U : Upd D (W.listOf us.toArray n) (W.listOf (us ++ [x]).toArray (n + 1)) news news')
    (hl : us.length ≤ 99) (h : ∀ h', Fr h₀ L h' m → News h₀ L h' news' → Q .none { s with heap := h' }) : wpAny (model prog w) A (call (.builtin "list.append") [.ref D, x]) Q E s := by
  refine append_K (its := us.toArray) (n := n) F N (news' := news') ?_ h ?_
  · rw [show us.toArray.push x = (us ++ [x]).toArray from by simp]
    exact U
  · rw [sizeLine_eq]; simp; omega
section
set_option maxRecDepth 100000 in
set_option maxHeartbeats 4000000 in
theorem write_good (w : World) (mean : ExcName → Option Value) (mg mb : Str → Option Value) (own : List (Addr × Obj)) (t1 t2 t3 t4 t5 t6 t7 t8 t9 t10 u1 u2 u3 u4 u5 : Tok) (size wr last n : Int) (x dx lt un : Nat) (kept : Addr) (tn : Tok) (b : Array UInt8) (t : Tok) (ol : Obj) (kvs : List (Int × Value)) (us : List Value) (ni : Nat)
    (h0 : 0 ≤ n) (h1 : n < 2) (hb : b.size ≤ 100) (hs0 : 1 ≤ size) (hs1 : size ≤ 4) (hne : (b.size : Int) = size) (hw0 : 0 ≤ wr) (hw1 : wr < 3) (hl : wr < last) (hol : ol.IsDictOf (intKind Challenge.rw_pq0901_01.row.prog w) kvs) (lo : (lt == sysModules) = false) (hkv : kvs.length ≤ 50) (hus : us.length ≤ 50)
    (hord : x ≠ dx ∧ x ≠ lt ∧ x ≠ un ∧ dx ≠ lt ∧ dx ≠ un ∧ lt ≠ un) (ho : OwnOff own [dx, lt, un]) :
  ∀ (dp un9 : Nat) (gd : Option (List Code)) (cn : Str) (cs : Scope) (a : Addr) (ccd : Value) (cl : List (Str × Addr)) (outer : List Env) (A₀ : Around) (base h₀ : Heap) (L : Addr) (m : Str → Option Value) (s : Shared) (Q E : Value → Shared → Prop),
    Below A₀ base outer h₀ → Fr h₀ L s.heap m → (hd.heap_1 w.params).In h₀ → KX w base → (hd.heap_1 w.params).In base → Top topProg LO mean mg mb base → News h₀ L s.heap ((x, instObj 302 dx) :: (dx, diskD w t1 t2 t3 t4 t5 t6 t7 t8 t9 t10 u1 u2 u3 u4 u5 size wr last kept lt un false) :: (lt, ol) :: (un, W.listOf us.toArray ni) :: own) → Top topProg LO mean mg mb h₀ → cs.kind = .function →
    dp + 3 < 350 → un9 + 24 < 300 →
    (∀ h' tks tp ol' tb' ct u3', Fr h₀ L h' m → News h₀ L h' ((tp, { cls := .type "tuple", data := .seq #[.int n tn, .bytes b tb'] ct }) :: (x, instObj 302 dx) :: (dx, diskD w t1 t2 t3 t4 t5 t6 t7 t8 t9 t10 u1 u2 u3' u4 u5 size (wr + 1) last kept lt un false) :: (lt, ol') :: (un, W.listOf (us ++ [Value.ref tp]).toArray (ni + 1)) :: own) → ol'.IsDictOf (intKind Challenge.rw_pq0901_01.row.prog w) (stored kvs n (.bytes b tb')) → (x < tp ∧ dx < tp ∧ lt < tp ∧ un < tp ∧ AllLt tp own) → Q .none { s with heap := h', toks := tks }) →
    wpAny (model Challenge.rw_pq0901_01.row.prog w) (ktrTop dp un9 gd cn cs L a ccd cl outer) (call (.ref 252) [.ref x, .int n tn, .bytes b t]) Q E s := by
  k_with_none
  w_top off
  k_with "execs cons" => (with_reducible refine forget_toks ?_; intro tk'; (rename News _ _ _ _ => hN9); (try dsimp only at hN9))
  k_with "call type:bytes" => (k_here; (with_reducible show wpAny _ _ (call (Value.type "bytes") [Value.int _ _]) _ _ _); k_dflt (refine' bytes_int_K ?h0 ?h1 ?hh ?hd ?hu ?_; (case h0 => omega); (case h1 => omega); (case hh => rfl); (case hd => ktr_room); (case hu => ktr_units)); intro tk' t'; (try dsimp only))
  k_with "call type:bytes" => (k_here; (with_reducible show wpAny _ _ (call (Value.type "bytes") [Value.str _ _]) _ _ _); (refine bytes_str_K (by k_asm) (by k_asm) (by assumption) (by rfl) ?hd ?hu ?_; (case hd => ktr_room); (case hu => ktr_units)); intro h' tk' e' x')
  k_with "call type:bytes" => (k_here; (with_reducible show wpAny _ _ (call (Value.type "bytes") [Value.none]) _ _ _); (refine bytes_none_K (by k_asm) (by k_asm) (by assumption) (by rfl) ?hd ?hu ?_; (case hd => ktr_room); (case hu => ktr_units)); intro h' tk' e' x')
  k_with "noteFrame ref" => (k_here; (refine catch_fresh (by assumption) (by assumption) (by assumption) (XB := by assumption) (by assumption) (tup_test (ns_T _) (ns_V _) (by first | exact exm_T _ | exact exm_V _) rfl rfl rfl) ?_); intro h' g' F' B' c1'; (have X' := Frag.In.keeps (K := Mine.hd.heap_1 _) (by assumption) (Below.stays B')); (have T' := top_base (by assumption) B'))
  k_with "exec Raise some some" => (k_here; k_dflt (refine Raise_two (by rfl) ?_))
  k_with "exec Raise some none" => (k_here; k_dflt (refine Raise_one (by rfl) ?_))
  k_with "call ref" => (k_here; (with_reducible show wpAny _ _ (call (Value.ref 83) [Value.str _ _]) _ _ _); (refine mk_disk_K (by k_asm) (by k_asm) (by assumption) ?hd ?hu ?_; (case hd => ktr_room); (case hu => ktr_units)); intro h' tk' e' x')
  k_with "RaiseFrom" => (refine RaiseFrom.of (by assumption) (isExc_of (Frag.In.keeps (K := Mine.hd.heap_1 _) (by assumption) (Fr.keep (by assumption))) (kts83 _)) (by assumption) ?_; intro h' f'; show wpAny _ _ (leaving _ _) _ _ _)
  k_with "RaiseGo" => (refine RaiseGo.of (by assumption) (isExc_of (Frag.In.keeps (K := Mine.hd.heap_1 _) (by assumption) (Fr.keep (by assumption))) (by first | exact kts83 _ | exact kts102 _ | exact kts52 _)) ?_; show wpAny _ _ (leaving _ _) _ _ _)
  k_with "leaving ref" => (k_here; first
      | (refine' leave_onSN ?k1 ?k2 ?k3 ?k4 ?_; (case k3 => assumption); (case k2 => assumption); (case k1 => assumption); (case k4 => assumption); intro h' R1' R2' U1'; (try dsimp only at R1' U1' ⊢))
      | (refine' leave_made ?k1 ?k0 ?k2 ?k3 ?_; (case k0 => assumption); (case k2 => k_asm); (case k1 => assumption); (case k3 => k_asm); intro h' R1' R2' U1'; (try dsimp only at R1' U1' ⊢))
      | (refine' leave_from ?k1 ?k0 ?k2 ?k3 ?_; (case k0 => assumption); (case k2 => assumption); (case k1 => assumption); (case k3 => assumption); intro h' R1' R2' U1'; (try dsimp only at R1' U1' ⊢)))
  k_with "call ref" => (k_here; (with_reducible show wpAny _ _ (call (Value.ref 102) [Value.int _ _]) _ _ _); (refine mk_crash_K (by k_asm) (by k_asm) (by assumption) ?h0 ?h1 ?hd ?hu ?_; (case h0 => omega); (case h1 => omega); (case hd => ktr_room); (case hu => ktr_units)); intro h' tk' e' x')
  k_with "call ref" => (k_here; (with_reducible show wpAny _ _ (call (Value.ref 52) [Value.str _ _]) _ _ _); (refine mk_arg_K (by k_asm) (by k_asm) (by assumption) ?hd ?hu ?_; (case hd => ktr_room); (case hu => ktr_units)); intro h' tk' e' x')
  k_with "compareOp NotEq int int" => (k_here; first | ((with_reducible refine ne_true ?h ?_); (case h => omega)) | ((with_reducible refine ne_false ?h ?_); (case h => omega)))
  k_with "call type:bytes" => (k_here; (with_reducible show wpAny _ _ (call (Value.type "bytes") [Value.bytes _ _]) _ _ _); k_dflt (refine bytes_bytes_K (by rfl) ?hd ?hu ?_; (case hd => ktr_room); (case hu => ktr_units)); intro tk' t'; (try dsimp only))
  k_with "call builtin:list.append" => (k_here; (with_reducible show wpAny _ _ (call (Value.builtin _) [Value.ref _, _]) _ _ _); k_dflt (refine' append_L ?k1 ?k2 ?k3 ?z ?_; (case k1 => k_asm); (case k2 => k_asm); (case k3 => k_upd); (case z => omega); k_whole); intro h' F' N'; (try k_sweep))
  k_with "setItem ref int" => (k_here; k_dflt (refine' kda_set (knd := PySem.intKind _ _) ?F ?N ?U ?d (intKind_is _ _ _ _) ?z ?_; (case F => k_asm); (case N => k_asm); (case U => k_updF); (case d => assumption); (case z => rw [sizeLine_eq]; omega)); intro h' o' F' N' hd'; (try dsimp only at N'))
  k_fill
  intro dp un9 gd cn cs a ccd cl outer A₀ base h₀ L m s Q E B F X Y XB TB N T hk hd hu hret
  refine wpAny_call ?_
  k_dflt cell_enter
  k_steps
  all_goals first | (exfalso; omega) | skip
  all_goals exact hret _ _ _ _ _ _ _ (by assumption) (by assumption) (by assumption) ((fun (z : AL _ (x :: dx :: lt :: un :: own.map fun p => p.1)) => ⟨z.lt m0, z.lt m1, z.lt m2, z.lt m3, AL.all_drop 4 z rfl⟩) (by assumption))
end
end Mine
end
section
open PySem PySem.W PyProof.Rows PySem.Calls
set_option linter.unusedVariables false
set_option maxRecDepth 100000
namespace Mine
theorem lit_no_len : typeLookup (.type "list_iterator") "__len__" = pure none := by rw [typeLookup_type, builtinLookup_eq_fast]; kernel_rfl
theorem lit_hint : typeLookup (.type "list_iterator") "__length_hint__" = pure (some (.builtin "list_iterator.__length_hint__")) := by rw [typeLookup_type, builtinLookup_eq_fast]; kernel_rfl
section
variable {prog : Program} {w : World} {A : Around} {E : Value → Shared → Prop} {s : Shared} {R : Result → Shared → Prop}
theorem hint_lit {it l : Addr} {i : Nat} {Q : Bool → Shared → Prop} (hit : s.heap.IsListIter it l i) (h : Q false s) : wpAny (model prog w) A (Builtin.List.listLengthHint (.ref it)) Q E s := by
  have hT : s.TypeIs (.ref it) "list_iterator" := let ⟨o, ho, hc, _⟩ := hit; ⟨o, ho, hc⟩
  unfold Builtin.List.listLengthHint
  refine wpAny_bind (wpAny_specialOf hT lit_no_len ?_)
  show wpAny _ A (specialOf (Value.ref it) (Str.ofString "__length_hint__") >>= _) _ _ _
  refine wpAny_bind (wpAny_specialOf hT lit_hint ?_)
  generalize hid : ("list_iterator.__length_hint__" : String) = id0
  wp_delta
  rw [show splitId id0 = some ("list_iterator", "__length_hint__") from by subst hid; decide +kernel]
  subst hid
  refine wpAny_bind (wpAny_isInstance (T := "list_iterator") (b := true) hT (by rw [isSubtype_type]; kernel_rfl) ?_)
  refine wpAny_ite_split (fun hab => absurd hab (by decide)) (fun _ => ?_)
  refine wpAny_ite_split (fun _ => ?_) (fun hab => absurd (by decide +kernel) hab)
  refine wpAny_ite_split (fun hab => absurd hab (by decide)) (fun _ => ?_)
  exact wpAny_pure h
theorem extend_lit {I l : Addr} {items : Array Value} (hh : A.handled = none) (hst : s.heap.IsListIter I l 0 ∧ s.heap.IsList l items) (hIl : l ≠ I) (S : Addr) (res : Value) (c₀ : Nat) (hS : s.heap.get? S = some { cls := .type "list", data := .seq #[] c₀ }) (hSI : S ≠ I) (hSl : S ≠ l)
    (hR : ∀ s' acc' c', Moved [S, I] (fun a b => b = a) s s' → s'.heap.get? S = some { cls := .type "list", dict := none, data := .seq acc' c', slots := #[] } → ItemsOf (fun i v => items[i]? = some v) acc' items.size → R (.ok (.ret res)) s') (hn : items.size ≤ sizeLine) :
    wpAny (model prog w) A.in1 (Builtin.List.listExtendWith (.ref S) (.ref I) res)
      (fun fin s' => match fin with | .done f => R (.ok f) s' | .again c' => c'.quiet = true ∧ codeAny (model prog w) A c' R s') (fun e s' => R (.error e) s') s := by
  have hT : s.TypeIs (.ref I) "list_iterator" := let ⟨o, ho, hc, _⟩ := hst.1; ⟨o, ho, hc⟩
  have hSf : S ∉ [I, l] := fun hm => by
    rcases List.mem_cons.mp hm with q | q
    · exact hSI q
    · exact hSl (List.mem_singleton.mp q)
  have W := (Walks.list (prog := prog) (w := w) (A := A.in1) hh I l hIl items).toS
  unfold Builtin.List.listExtendWith
  refine wpAny_bind (wpAny_typeOf hT ?_)
  have h1 : Builtin.List.listSameRef (.ref S) (.ref I) = false := by simp [Builtin.List.listSameRef, hSI]
  have h2 : (Value.type "list_iterator" == Value.type "list") = false := by decide
  have h3 : (Value.type "list_iterator" == Value.type "tuple") = false := by decide
  simp only [h1, h2, h3, Bool.or_false, Bool.false_eq_true, if_false]
  refine wpAny_bind (W.self 0 _ _ _ hst ?_)
  refine wpAny_bind (wpAny_holding (hint_lit hst.1 ?_))
  refine wpAny_ite_split (fun _ => ?_) (fun _ => wpAny_pure ⟨plainId_quiet F.plain_extend_loop _, codeAny_extend_loopS W hn _ hSf _ _ 0 _ _ _ rfl (Nat.zero_le _) hst hS (ItemsOf.nil _) fun s' acc' c' hm hS' hacc => hR s' acc' c' hm hS' hacc⟩)
  refine wpAny_bind (wpAny_rule ?_)
  refine wpAny_bind ?_
  show wpAny _ A.in1 (updateSeq S (·.push .none) >>= fun _ => updateSeq S (·.pop)) _ _ _
  refine wpAny_bind (wpAny_updateSeq hS rfl ?_)
  have hS₂ := Heap.get?_update_self (Obj.mapSeq (·.push Value.none)) hS rfl
  refine wpAny_updateSeq (hz := by seq_fits) hS₂ rfl ?_
  have hS₃ := Heap.get?_update_self (Obj.mapSeq (·.pop)) hS₂ rfl
  have oth : ∀ b o, b ≠ S → s.heap.get? b = some o → ((s.heap.update S (Obj.mapSeq (·.push Value.none))).update S (Obj.mapSeq (·.pop))).get? b = some o :=
    fun b o hb e => (Heap.get?_update_other _ _ (Ne.symm hb)).trans ((Heap.get?_update_other _ _ (Ne.symm hb)).trans e)
  refine wpAny_pure ⟨plainId_quiet F.plain_extend_loop _, codeAny_extend_loopS W hn _ hSf _ _ 0 _ _ _ rfl (Nat.zero_le _)
    (W.frame 0 s _ s.toks hst (Nat.le_refl _) fun b hb o e => oth b o (fun h => hSf (h ▸ hb)) e) hS₃ (ItemsOf.nil _) fun s' acc' c' hm hS' hacc => ?_⟩
  exact hR s' acc' c' (Moved.trans W.gtrans ((Moved.refl (wr := [S, I]) (G := fun a b => b = a) (fun _ => rfl)).then_heap (Nat.le_refl _) fun b o hb e => oth b o (fun h => hb (by rw [h]; exact List.Mem.head _)) e) hm) hS' hacc
theorem init_lit {I l : Addr} {items : Array Value} (hh : A.handled = none) (hst : s.heap.IsListIter I l 0 ∧ s.heap.IsList l items) (hIl : l ≠ I) (S : Addr) (hS : s.heap.get? S = some { cls := .type "list", data := .seq #[] }) (hSI : S ≠ I) (hSl : S ≠ l)
    (hR : ∀ s' acc' c', Moved [S, I] (fun a b => b = a) s s' → s'.heap.get? S = some { cls := .type "list", dict := none, data := .seq acc' c', slots := #[] } → ItemsOf (fun i v => items[i]? = some v) acc' items.size → R (.ok (.ret .none)) s') (hn : items.size ≤ sizeLine) :
    wpAny (model prog w) A.in1 (Builtin.«list.__init__» ⟨[.ref S, .ref I], []⟩)
      (fun fin s' => match fin with | .done f => R (.ok f) s' | .again c' => c'.quiet = true ∧ codeAny (model prog w) A c' R s') (fun e s' => R (.error e) s') s := by
  show wpAny _ A.in1 (do let old ← Builtin.List.listItems (.ref S); Builtin.List.listUpdate (.ref S) (fun _ => #[]); letGo old.toList.reverse; Builtin.List.listExtendWith (.ref S) (.ref I) .none) _ _ s
  refine wpAny_bind ?_
  unfold Builtin.List.listItems
  refine wpAny_bind (wpAny_seqItems hS rfl (wpAny_pure ?_))
  show wpAny _ A.in1 (updateSeq S (fun _ => #[]) >>= fun _ => letGo (#[] : Array Value).toList.reverse >>= fun _ => Builtin.List.listExtendWith (.ref S) (.ref I) .none) _ _ s
  refine wpAny_bind (wpAny_updateSeq hS rfl ?_)
  have hS₂ := Heap.get?_update_self (Obj.mapSeq (fun _ => (#[] : Array Value))) hS rfl
  have oth : ∀ b o, b ≠ S → s.heap.get? b = some o → (s.heap.update S (Obj.mapSeq (fun _ => (#[] : Array Value)))).get? b = some o :=
    fun b o hb e => (Heap.get?_update_other _ _ (Ne.symm hb)).trans e
  refine wpAny_bind (wpAny_letGo ?_)
  have W := (Walks.list (prog := prog) (w := w) (A := A.in1) hh I l hIl items).toS
  refine extend_lit hh ⟨hst.1.at fun o e => oth _ _ hSI.symm e, hst.2.at fun o e => oth _ _ hSl.symm e⟩ hIl S .none _ hS₂ hSI hSl (fun s' acc' c' hm hS' hacc => ?_) hn
  exact hR s' acc' c' (Moved.trans W.gtrans ((Moved.refl (wr := [S, I]) (G := fun a b => b = a) (fun _ => rfl)).then_heap (Nat.le_refl _) fun b o hb e => oth b o (fun h => hb (by rw [h]; exact List.Mem.head _)) e) hm) hS' hacc
theorem call_list_lit {Q : Value → Shared → Prop} {I l : Addr} {items : Array Value} (hh : A.handled = none) (hst : s.heap.IsListIter I l 0 ∧ s.heap.IsList l items) (hIl : l ≠ I)
    (hQ : ∀ s' acc' c', Moved [s.heap.objs.size, I] (fun a b => b = a) { s with heap := s.heap.push { cls := .type "list", data := .seq #[] } } s' →
      s'.heap.get? s.heap.objs.size = some { cls := .type "list", dict := none, data := .seq acc' c', slots := #[] } → ItemsOf (fun i v => items[i]? = some v) acc' items.size → Q (.ref s.heap.objs.size) s') (hn : items.size ≤ sizeLine) :
    wpAny (model prog w) A (call (.type "list") [.ref I]) Q E s := by
  refine callType_codes (Q₁ := fun obj s₁ => obj = .ref s.heap.objs.size ∧ s₁ = { s with heap := s.heap.push { cls := .type "list", data := .seq #[] } }) F.called_list (F.typeCall_list_1 _) F.entry_list_init
    (code_list_new _ ⟨rfl, rfl⟩) fun obj s₁ h₁ => ?_
  obtain ⟨rfl, rfl⟩ := h₁
  have hS : (s.heap.push { cls := .type "list", data := .seq #[] }).get? s.heap.objs.size = some { cls := .type "list", data := .seq #[] } := Heap.get?_push_size _ rfl
  have nI : s.heap.objs.size ≠ I := fun e => by
    obtain ⟨o, ho, _⟩ := hst.1
    exact Nat.lt_irrefl _ (Nat.lt_of_lt_of_eq (Heap.lt_size ho) e)
  have nl : s.heap.objs.size ≠ l := fun e => by
    obtain ⟨o, ho, _⟩ := hst.2
    exact Nat.lt_irrefl _ (Nat.lt_of_lt_of_eq (Heap.lt_size ho) e)
  refine ⟨⟨_, hS, rfl⟩, F.args_list_init_2 _ _, init_lit (A := A.in1) hh ⟨hst.1.at fun o e => Heap.get?_push_of_some _ e, hst.2.at fun o e => Heap.get?_push_of_some _ e⟩ hIl _ hS nI nl (fun s' acc' c' hm hS' hacc => ?_) hn⟩
  exact ⟨rfl, hQ s' acc' c' hm hS' hacc⟩
/-- a list of a list's iterator; the iterator's object is dropped from the ledger -/
theorem list_lit_K {h₀ : Heap} {L I l : Addr} {m : Str → Option Value} {oI : Obj} {news : List (Addr × Obj)} {its : Array Value} {n : Nat} {Q : Value → Shared → Prop} (hh : A.handled = none) (F : Fr h₀ L s.heap m) (N : News h₀ L s.heap ((I, oI) :: news)) (hc : oI.cls = .type "list_iterator") (hd : oI.data = .fields #[.ref l, .int 0 0])
    (hl : (l, W.listOf its n) ∈ news) (off : ∀ p ∈ news, p.1 ≠ I) (hn : its.size ≤ sizeLine)
    (h : ∀ D c h' tk, Fr h₀ L h' m → News h₀ L h' ((D, W.listOf its c) :: news) → (∀ q ∈ news, q.1 < D) → Q (.ref D) { s with heap := h', toks := tk }) :
    wpAny (model prog w) A (call (.type "list") [.ref I]) Q E s := by
  have NI := N _ (.head _)
  have Nt : News h₀ L s.heap news := fun p hp => N p (.tail _ hp)
  have Nl := Nt _ hl
  refine call_list_lit hh ⟨⟨oI, NI.1, hc, hd⟩, ⟨_, Nl.1, rfl, _, rfl⟩⟩ (off _ hl) (fun s' acc' c' hm hS' hacc => ?_) hn
  have e1 : acc' = its := by
    obtain ⟨z, hz⟩ := hacc
    apply Array.ext z
    intro i hi1 hi2
    have this : its[i]? = some acc'[i] := hz i acc'[i] (by simp)
    rw [Array.getElem?_eq_getElem hi2] at this
    exact (Option.some.inj this).symm
  subst e1
  have hL := F.ns.lt
  have keep : ∀ b o, b ≠ I → s.heap.get? b = some o → s'.heap.get? b = some o := fun b o hb e => hm.heap b o (fun hmem => by
    rcases List.mem_cons.mp hmem with q | q
    · rw [q] at e; exact Nat.lt_irrefl _ (Heap.lt_size e)
    · exact hb (List.mem_singleton.mp q)) (Heap.get?_push_of_some _ e)
  rw [Moved.eq_with hm]
  refine h _ c' s'.heap s'.toks ⟨F.ns.at fun o e => keep _ _ (fun q => NI.2.1 q.symm) e, fun b o e => keep b o (fun q => by rw [q, NI.2.2] at e; cases e) (F.keep b o e), F.above⟩ (fun p hp => ?_) (fun q hq => Heap.lt_size (Nt q hq).1)
  rcases List.mem_cons.mp hp with rfl | hp
  · exact ⟨hS', Nat.ne_of_gt hL, none_at_size F⟩
  · exact ⟨keep _ _ (off p hp) (Nt p hp).1, (Nt p hp).2⟩
end
end Mine
end
section
open PySem PySem.W PyProof.Rows PySem.Calls PySem.Spec
set_option linter.unusedVariables false
namespace Mine
/-- one object leaves the ledger -/
inductive DropF (d : Addr) (o : Obj) : List (Addr × Obj) → List (Addr × Obj) → Prop
  | head {r} : (∀ p ∈ r, p.1 ≠ d) → DropF d o ((d, o) :: r) r
  | tail {p r r'} : p.1 ≠ d → DropF d o r r' → DropF d o (p :: r) (p :: r')
theorem DropF.mem {d : Addr} {o : Obj} : ∀ {l l' : List (Addr × Obj)}, DropF d o l l' → (d, o) ∈ l ∧ (∀ p ∈ l', p ∈ l) ∧ ∀ p ∈ l', p.1 ≠ d
  | _, _, .head h => ⟨.head _, fun p hp => .tail _ hp, h⟩
  | _, _, .tail h r =>
    let ⟨a, b, c⟩ := r.mem
    ⟨.tail _ a, fun p hp => by
      rcases List.mem_cons.mp hp with rfl | hp
      · exact .head _
      · exact .tail _ (b p hp), fun p hp => by
      rcases List.mem_cons.mp hp with rfl | hp
      · exact h
      · exact c p hp⟩
theorem list_lit_D {prog : Program} {w : World} {A : Around} {E : Value → Shared → Prop} {s : Shared} {h₀ : Heap} {L I l : Addr} {m : Str → Option Value} {oI : Obj} {news news' : List (Addr × Obj)} {its : Array Value} {n : Nat} {Q : Value → Shared → Prop} (hh : A.handled = none) (F : Fr h₀ L s.heap m) (N : News h₀ L s.heap news) (U : DropF I oI news news') (hc : oI.cls = .type "list_iterator") (hd : oI.data = .fields #[.ref l, .int 0 0])
    (hl : (l, W.listOf its n) ∈ news') (hn : its.size ≤ 9)
    (h : ∀ D c h' tk, Fr h₀ L h' m → News h₀ L h' ((D, W.listOf its c) :: news') → (∀ q ∈ news', q.1 < D) → Q (.ref D) { s with heap := h', toks := tk }) :
    wpAny (model prog w) A (call (.type "list") [.ref I]) Q E s := by
  obtain ⟨a, b, c⟩ := U.mem
  refine list_lit_K hh F (fun p hp => ?_) hc hd hl c (by rw [sizeLine_eq]; omega) h
  rcases List.mem_cons.mp hp with rfl | hp
  · exact N _ a
  · exact N _ (b p hp)
theorem dict_copy {prog : Program} {w : World} {A : Around} {E : Value → Shared → Prop} {s : Shared} {h₀ : Heap} {L d : Addr} {m : Str → Option Value} {o : Obj} {news : List (Addr × Obj)} {kvs : List (Int × Value)} {Q : Value → Shared → Prop} (F : Fr h₀ L s.heap m) (N : News h₀ L s.heap news) (hbig : h₀.NoLimit) (hm : (d, o) ∈ news) (lo : (d == sysModules) = false) (hd : o.IsDictOf (intKind prog w) kvs) (hsz : kvs.length ≤ 9)
    (k : ∀ d' h' o', Fr h₀ L h' m → News h₀ L h' ((d', o') :: news) → (∀ p ∈ news, p.1 < d') → (d' == sysModules) = false → o'.IsDictOf (intKind prog w) kvs → Q (.ref d') { s with heap := h' }) :
    wpAny (model prog w) A (call (.type "dict") [.ref d]) Q E s := by
  refine kt_call_dict lo (kda_dict N hm hd) (by rw [sizeLine_eq]; omega) fun h' hm hs => ?_
  obtain ⟨o', ho', hd'⟩ := Heap.dictOf_iff.mp hm
  have N1 := News.push F N { cls := .type "dict", data := .dict #[] }
  exact k _ h' o' ((F.push _).change hs (N1 _ (.head _)).2.1 (N1.fresh (.head _))) (N1.setHead N.apart hs ho') (fun p hp => Heap.lt_size (N p hp).1) (F.notModules (modules_low hbig)) hd'
theorem news_of {h₀ h : Heap} {L : Addr} {l l' : List (Addr × Obj)} (N : News h₀ L h l) (s : ∀ p ∈ l', p ∈ l) : News h₀ L h l' := fun p hp => N p (s p hp)
theorem mem_nil {l : List (Addr × Obj)} : ∀ p ∈ ([] : List (Addr × Obj)), p ∈ l := fun p hp => nomatch hp
theorem mem_cons {q : Addr × Obj} {r l : List (Addr × Obj)} (h : q ∈ l) (t : ∀ p ∈ r, p ∈ l) : ∀ p ∈ q :: r, p ∈ l := fun p hp => by
  rcases List.mem_cons.mp hp with rfl | hp
  · exact h
  · exact t p hp
theorem st_len1 (n0 : Int) (v0 : Value) : (stored ([] : List (Int × Value)) n0 v0).length ≤ 1 := stored_length [] n0 v0
theorem st_len2 (n0 n1 : Int) (v0 v1 : Value) : (stored (stored ([] : List (Int × Value)) n0 v0) n1 v1).length ≤ 2 := Nat.le_trans (stored_length _ n1 v1) (Nat.succ_le_succ (stored_length [] n0 v0))
section
set_option maxRecDepth 100000 in
set_option maxHeartbeats 4000000 in
theorem image_ok (w : World) (mean : ExcName → Option Value) (mg mb : Str → Option Value) (own : List (Addr × Obj)) (t1 t2 t3 t4 t5 t6 t7 t8 t9 t10 u1 u2 u3 u4 : Tok) (size : Int) (x dx kept lt uf : Addr)
   (ol : Obj) (kvs : List (Int × Value)) (b0 b1 : Array UInt8) (hs1 : 1 ≤ size) (hs4 : size ≤ 4) (hn1 : 1 ≤ size.toNat) (hn4 : size.toNat ≤ 4) (hol : ol.IsDictOf (intKind Challenge.rw_pq0901_01.row.prog w) kvs) (lo : (lt == sysModules) = false)
   (hb0 : Blk kvs 0 (Array.replicate size.toNat 0) b0) (hb1 : Blk kvs 1 (Array.replicate size.toNat 0) b1) (hz0 : b0.size = size.toNat) (hz1 : b1.size = size.toNat) :
  ∀ (dp un9 : Nat) (gd : Option (List Code)) (cn : Str) (cs : Scope) (a : Addr) (ccd : Value) (cl : List (Str × Addr)) (outer : List Env) (A₀ : Around) (base h₀ : Heap) (L : Addr) (m : Str → Option Value) (s : Shared) (Q E : Value → Shared → Prop),
    Below A₀ base outer h₀ → Fr h₀ L s.heap m → (hd.heap_1 w.params).In h₀ → KX w base → Top topProg LO mean mg mb h₀ → cs.kind = .function →
    News h₀ L s.heap ((x, instObj 302 dx) :: (dx, diskF w t1 t2 t3 t4 t5 t6 t7 t8 t9 t10 u1 u2 u3 u4 size kept lt uf) :: (lt, ol) :: own) →
    dp + 2 < 350 → un9 + 16 < 300 → 
    (∀ h' tks t', Fr h₀ L h' m → News h₀ L h' own → Q (.bytes (b0 ++ b1) t') { s with heap := h', toks := tks }) →
    wpAny (model Challenge.rw_pq0901_01.row.prog w) (ktrTop dp un9 gd cn cs L a ccd cl outer) (call (.ref 299) [.ref x]) Q E s := by
  k_with_none
  w_top off
  k_with "execs cons" => (with_reducible refine forget_toks ?_; intro tk'; (rename News _ _ _ _ => hN9); (try dsimp only at hN9))
  k_with "call type:bytes" => (k_here; (with_reducible show wpAny _ _ (call (Value.type "bytes") [Value.int _ _]) _ _ _); k_dflt (refine' bytes_int_K ?h0 ?h1 ?hh ?hd ?hu ?_; (case h0 => omega); (case h1 => omega); (case hh => rfl); (case hd => ktr_room); (case hu => ktr_units)); intro tk' t'; (try dsimp only))
  k_with "call builtin:dict.get" => (k_here; (with_reducible show wpAny _ _ (call (Value.builtin "dict.get") [Value.ref _, Value.int _ _, Value.bytes _ _]) _ _ _); k_dflt (refine' get_blk ?N ?hp ?hd ?lo ?hb ?_; (case N => k_asm); (case hp => k_mem); (case hd => assumption); (case lo => assumption); (case hb => assumption)); intro t'; (try dsimp only))
  k_with "getMethod bytes" => (k_here; (with_reducible show wpAny _ _ (getMethod (Value.bytes _ _) (Str.ofString "join") _) _ _ _); k_dflt (refine bytes_join_method ?_))
  k_with "call builtin:bytes.join" => (k_here; (with_reducible show wpAny _ _ (call (Value.builtin "bytes.join") [Value.bytes _ _, Value.ref _]) _ _ _); k_dflt (first | refine bytes_join_L (by k_asm) (by k_asm) (by assumption) (by k_asm) (by k_mem) ?n1 ?n4 (by assumption) (by assumption) ?hh ?hd ?hu ?_ | refine bytes_join_K (by k_asm) (by k_asm) (by assumption) (by k_asm) (by k_mem) ?n1 ?n4 (by assumption) (by assumption) ?hh ?hd ?hu ?_); (case n1 => first | assumption | omega); (case n4 => first | assumption | omega); (case hh => rfl); (case hd => ktr_room); (case hu => ktr_units); intro tk' t'; (try dsimp only))
  k_with "CompSrc" => (k_here; k_dflt (refine LCg.CompSrc.range (by rfl) (by k_asm) (by k_asm) (by assumption) (by first | decide | rfl) (by first | rfl | decide) (by first | size_fits | exact Nat.le_of_ble_eq_true rfl) ?_; intro g'; lcg_lit))
  k_with "CompRest" => (with_unfolding_all first
      | (refine LCg.CompRest.succ ?_; intro v' I' oI' C' oC' D' m' h' tk' E' hv' hC' hx' F' N' off' ne'; (first | lcg_open hv' | (obtain ⟨t9', hv9'⟩ := hv'; subst hv9')); (have off0' := off'); (try simp only [LCg.Off3, and_true] at off'))
      | refine LCg.CompRest.zero ?_)
  k_with "CompEnd" => (refine' comp_end ?N ?F ?off ?hS ?_; (case N => assumption); (case F => assumption); (case off => assumption); (case hS => exact True.intro))
  k_with "call type:list" => (k_here; (with_reducible show wpAny _ _ (call (Value.type "list") [Value.ref _]) _ _ _); k_dflt (refine' list_lit_D ?hh ?F ?N ?U ?hc ?hd ?hl ?hn ?_; (case F => k_asm); (case N => k_asm); (case hh => rfl); (case U => exact DropF.tail (by k_ne) (DropF.tail (by k_ne) (DropF.tail (by k_ne) (DropF.tail (by k_ne) (DropF.tail (by k_ne) (DropF.head (by k_all))))))); (case hc => assumption); (case hd => assumption); (case hl => k_mem); (case hn => exact Nat.le_of_ble_eq_true rfl); k_whole); intro D' c' h' tk' F' N' l1; (try k_lt l1))
  k_fill
  intros
  rename_i hret
  refine wpAny_call ?_
  (refine' code_defC ?k1 ?k2 ?k3 ?k4 ?k5 ?kA ?kF ?kK ?k6 ?k7 ?k8 ?k9 ?kB ?kD ?_ ?c2 ?c3 ?c4; (case kA => exact rfl); (case kF => exact rfl); (case kK => assumption); (case k1 => k_asm); (case k2 => k_asm); (case k3 => k_asm); (case k4 => k_asm); (case k5 => k_asm); (case k6 => k_is); (case k7 => k_is); (case k8 => ktr_room); (case k9 => exact BindsTo.of_eq rfl); (case kB => exact rfl); (case kD => decide +kernel); (case c2 => exact rfl); (case c3 => exact rfl); (case c4 => exact rfl); k_whole; intro g' L' h' tk' cells' FG' F' N' Y' B' X' T' l1; (try k_lt l1); k_cells Y'; (try simp only [List.cons_append, List.nil_append] at N'); (try dsimp only); (try k_lift B'); (try k_fold))
  k_steps
  all_goals exact hret _ _ _ (by k_asm) (by first | assumption | exact kti_tail (by assumption) | exact kti_tail (kti_tail (by assumption)) | exact kti_tail (kti_tail (kti_tail (by assumption))) | exact kti_tail (kti_tail (kti_tail (kti_tail (by assumption)))) | exact kti_tail (kti_tail (kti_tail (kti_tail (kti_tail (by assumption))))) | exact kti_tail (kti_tail (kti_tail (kti_tail (kti_tail (kti_tail (by assumption)))))) | exact kti_tail (kti_tail (kti_tail (kti_tail (kti_tail (kti_tail (kti_tail (by assumption))))))))
set_option maxRecDepth 100000 in
set_option maxHeartbeats 4000000 in
theorem after0 (w : World) (mean : ExcName → Option Value) (mg mb : Str → Option Value) (e1 e2 e3 e4 e5 : Nat) (z1 z2 z3 z4 z5 : Obj) (t1 t2 t3 t4 t5 t6 t7 t8 t9 t10 u1 u2 u3 u4 u5 : Tok) (size last : Int) (x dx kd un li it : Nat) (lt : Addr) (dead : Bool)
   (ok oI : Obj) (ni c : Nat) (hs1 : 1 ≤ size) (hs4 : size ≤ 4) (hok : ok.IsDictOf (intKind Challenge.rw_pq0901_01.row.prog w) [])
   (lo : (kd == sysModules) = false) (hic : oI.cls = .type "list_iterator") (hid : oI.data = .fields #[.ref li, .int 0 0])
   (hlt : x < it ∧ dx < it ∧ kd < it ∧ un < it ∧ li < it ∧ e1 < it ∧ e2 < it ∧ e3 < it ∧ e4 < it ∧ e5 < it) :
  ∀ (dp un9 : Nat) (gd : Option (List Code)) (cn : Str) (cs : Scope) (a : Addr) (ccd : Value) (cl : List (Str × Addr)) (outer : List Env) (A₀ : Around) (base h₀ : Heap) (L : Addr) (m : Str → Option Value) (s : Shared) (Q E : Value → Shared → Prop),
    Below A₀ base outer h₀ → Fr h₀ L s.heap m → (hd.heap_1 w.params).In h₀ → KX w base → Top topProg LO mean mg mb h₀ → cs.kind = .function →
    News h₀ L s.heap ((it, oI) :: (li, W.listOf #[] c) :: (x, instObj 302 dx) :: (dx, diskD w t1 t2 t3 t4 t5 t6 t7 t8 t9 t10 u1 u2 u3 u4 u5 size 0 last kd lt un dead) :: (kd, ok) :: (un, W.listOf #[] ni) :: [(e1, z1), (e2, z2), (e3, z3), (e4, z4), (e5, z5)]) →
    dp + 3 < 350 → un9 + 24 < 300 → 
    (∀ h' tks f df kd' lt' uf' ol' s1 s2 s3 s4 s5 s6 s7 s8 s9 s10 v1 v2 v3 v4, Fr h₀ L h' m → News h₀ L h' ((f, instObj 302 df) :: (df, diskF w s1 s2 s3 s4 s5 s6 s7 s8 s9 s10 v1 v2 v3 v4 size kd' lt' uf') :: (lt', ol') :: [(e1, z1), (e2, z2), (e3, z3), (e4, z4), (e5, z5)]) → ol'.IsDictOf (intKind Challenge.rw_pq0901_01.row.prog w) ([] : List (Int × Value)) → (lt' == sysModules) = false → Q (.ref f) { s with heap := h', toks := tks }) →
    wpAny (model Challenge.rw_pq0901_01.row.prog w) (ktrTop dp un9 gd cn cs L a ccd cl outer) (call (.ref 287) [.ref x, .ref it]) Q E s := by
  k_with_none
  w_top off
  k_with "execs cons" => (with_reducible refine forget_toks ?_; intro tk'; (rename News _ _ _ _ => hN9); (try dsimp only at hN9))
  k_with "call type:bytes" => (k_here; (with_reducible show wpAny _ _ (call (Value.type "bytes") [Value.int _ _]) _ _ _); k_dflt (refine' bytes_int_K ?h0 ?h1 ?hh ?hd ?hu ?_; (case h0 => omega); (case h1 => omega); (case hh => rfl); (case hd => ktr_room); (case hu => ktr_units)); intro tk' t'; (try dsimp only))
  k_with "call builtin:dict.get" => (k_here; (with_reducible show wpAny _ _ (call (Value.builtin "dict.get") [Value.ref _, Value.int _ _, Value.bytes _ _]) _ _ _); k_dflt (refine' get_blk ?N ?hp ?hd ?lo ?hb ?_; (case N => k_asm); (case hp => k_mem); (case hd => assumption); (case lo => assumption); (case hb => assumption)); intro t'; (try dsimp only))
  k_with "getMethod bytes" => (k_here; (with_reducible show wpAny _ _ (getMethod (Value.bytes _ _) (Str.ofString "join") _) _ _ _); k_dflt (refine bytes_join_method ?_))
  k_with "call builtin:bytes.join" => (k_here; (with_reducible show wpAny _ _ (call (Value.builtin "bytes.join") [Value.bytes _ _, Value.ref _]) _ _ _); k_dflt (first | refine bytes_join_L (by k_asm) (by k_asm) (by assumption) (by k_asm) (by k_mem) ?n1 ?n4 (by assumption) (by assumption) ?hh ?hd ?hu ?_ | refine bytes_join_K (by k_asm) (by k_asm) (by assumption) (by k_asm) (by k_mem) ?n1 ?n4 (by assumption) (by assumption) ?hh ?hd ?hu ?_); (case n1 => first | assumption | omega); (case n4 => first | assumption | omega); (case hh => rfl); (case hd => ktr_room); (case hu => ktr_units); intro tk' t'; (try dsimp only))
  k_with "CompSrc" => (k_here; k_dflt (refine LCg.CompSrc.range (by rfl) (by k_asm) (by k_asm) (by assumption) (by first | decide | rfl) (by first | rfl | decide) (by first | size_fits | exact Nat.le_of_ble_eq_true rfl) ?_; intro g'; lcg_lit))
  k_with "CompRest" => (with_unfolding_all first
      | (refine LCg.CompRest.succ ?_; intro v' I' oI' C' oC' D' m' h' tk' E' hv' hC' hx' F' N' off' ne'; (first | lcg_open hv' | (obtain ⟨t9', hv9'⟩ := hv'; subst hv9')); (have off0' := off'); (try simp only [LCg.Off3, and_true] at off'))
      | refine LCg.CompRest.zero ?_)
  k_with "CompEnd" => (refine' comp_end ?N ?F ?off ?hS ?_; (case N => assumption); (case F => assumption); (case off => assumption); (case hS => exact True.intro))
  k_with "call type:list" => (k_here; (with_reducible show wpAny _ _ (call (Value.type "list") [Value.ref _]) _ _ _); k_dflt (refine' list_lit_D ?hh ?F ?N ?U ?hc ?hd ?hl ?hn ?_; (case F => k_asm); (case N => k_asm); (case hh => rfl); (case U => exact DropF.tail (by k_ne) (DropF.tail (by k_ne) (DropF.tail (by k_ne) (DropF.tail (by k_ne) (DropF.tail (by k_ne) (DropF.head (by k_all))))))); (case hc => assumption); (case hd => assumption); (case hl => k_mem); (case hn => exact Nat.le_of_ble_eq_true rfl); k_whole); intro D' c' h' tk' F' N' l1; (try k_lt l1))
  k_with "call ref" => (k_here; (with_reducible show wpAny _ _ (call (Value.ref 302) [Value.int 2 _, Value.int _ _]) _ _ _); k_dflt (refine' disk_new _ _ _ _ _ _ _ _ ?z1 ?z4 _ _ _ _ _ _ _ _ _ _ _ _ _ _ _ _ _ ?B ?F ?X ?Y ?T ?hk ?N ?hd ?hu ?_; (case z1 => omega); (case z4 => omega); (case B => k_asm); (case F => k_asm); (case X => k_asm); (case Y => assumption); (case T => k_asm); (case hk => rfl); (case N => k_asm); (case hd => ktr_room); (case hu => ktr_units)); intro h' tks' f' df' kd' lt' uf' ok' ol' s1' s2' s3' s4' s5' s6' s7' s8' s9' s10' v1' v2' v3' v4' F' N' hdk' hdl' lok' lol' l1' l2' a1' a2' a3' a4' a5'; (try dsimp only [AllLt] at l1'); (try dsimp only [List.map] at a1' a2' a3' a4' a5'); (try dsimp only at N'))
  k_with "call type:dict" => (k_here; (with_reducible show wpAny _ _ (call (Value.type "dict") [Value.ref _]) _ _ _); k_dflt (refine' dict_copy ?F ?N ?B ?m ?lo ?d ?z ?_; (case F => k_asm); (case N => k_asm); (case B => exact Top.nolimit (by k_asm)); (case m => k_mem); (case lo => assumption); (case d => assumption); (case z => first | exact Nat.zero_le _ | exact Nat.le_trans (st_len1 _ _) (by decide) | exact Nat.le_trans (st_len2 _ _ _ _) (by decide))); intro d' h' o' F' N' l1 lo' hd'; (try k_lt l1))
  k_with "exec For Name Name cons nil" => (k_here; (rename Fr _ _ _ _ => lF'); (with_unfolding_all refine' For_turns lF' ?_; k_whole))
  k_with "exec For Tuple Call cons nil" => (k_here; (rename Fr _ _ _ _ => lF'); (with_unfolding_all refine' For_turns lF' ?_; k_whole))
  k_with "setItem ref int" => (k_here; k_dflt (refine' kda_set (knd := PySem.intKind _ _) ?F ?N ?U ?d (intKind_is _ _ _ _) ?z ?_; (case F => k_asm); (case N => k_asm); (case U => k_updF); (case d => assumption); (case z => rw [sizeLine_eq]; first | exact Nat.zero_le _ | exact Nat.le_trans (st_len1 _ _) (by decide))); intro h' o' F' N' hd'; (try dsimp only at N'))
  k_fill
  intros
  rename_i hret
  refine wpAny_call ?_
  k_dflt cell_enter
  k_steps
  all_goals exact hret _ _ _ _ _ _ _ _ _ _ _ _ _ _ _ _ _ _ _ _ _ _ (by assumption) (news_of (by assumption) (mem_cons (by k_mem) (mem_cons (by k_mem) (mem_cons (by k_mem) (mem_cons (by k_mem) (mem_cons (by k_mem) (mem_cons (by k_mem) (mem_cons (by k_mem) (mem_cons (by k_mem) mem_nil))))))))) (by assumption) (by assumption)
set_option maxRecDepth 100000 in
set_option maxHeartbeats 4000000 in
theorem after1 (w : World) (mean : ExcName → Option Value) (mg mb : Str → Option Value) (e1 e2 e3 e4 e5 : Nat) (z1 z2 z3 z4 z5 : Obj) (t1 t2 t3 t4 t5 t6 t7 t8 t9 t10 u1 u2 u3 u4 u5 : Tok) (size last n0 : Int) (x dx kd un p0 li it : Nat) (lt : Addr) (dead : Bool)
   (ok oI : Obj) (b0 : Array UInt8) (ti0 tn0 tb0 : Tok) (ni c ct0 : Nat) (hs1 : 1 ≤ size) (hs4 : size ≤ 4) (hok : ok.IsDictOf (intKind Challenge.rw_pq0901_01.row.prog w) [])
   (lo : (kd == sysModules) = false) (hic : oI.cls = .type "list_iterator") (hid : oI.data = .fields #[.ref li, .int 0 0])
   (hlt : x < it ∧ dx < it ∧ kd < it ∧ un < it ∧ p0 < it ∧ li < it ∧ e1 < it ∧ e2 < it ∧ e3 < it ∧ e4 < it ∧ e5 < it) :
  ∀ (dp un9 : Nat) (gd : Option (List Code)) (cn : Str) (cs : Scope) (a : Addr) (ccd : Value) (cl : List (Str × Addr)) (outer : List Env) (A₀ : Around) (base h₀ : Heap) (L : Addr) (m : Str → Option Value) (s : Shared) (Q E : Value → Shared → Prop),
    Below A₀ base outer h₀ → Fr h₀ L s.heap m → (hd.heap_1 w.params).In h₀ → KX w base → Top topProg LO mean mg mb h₀ → cs.kind = .function →
    News h₀ L s.heap ((it, oI) :: (li, W.listOf #[.int 0 ti0] c) :: (x, instObj 302 dx) :: (dx, diskD w t1 t2 t3 t4 t5 t6 t7 t8 t9 t10 u1 u2 u3 u4 u5 size 1 last kd lt un dead) :: (kd, ok) :: (un, W.listOf #[.ref p0] ni) :: (p0, { cls := .type "tuple", data := .seq #[.int n0 tn0, .bytes b0 tb0] ct0 }) :: [(e1, z1), (e2, z2), (e3, z3), (e4, z4), (e5, z5)]) →
    dp + 3 < 350 → un9 + 24 < 300 → 
    (∀ h' tks f df kd' lt' uf' ol' s1 s2 s3 s4 s5 s6 s7 s8 s9 s10 v1 v2 v3 v4, Fr h₀ L h' m → News h₀ L h' ((f, instObj 302 df) :: (df, diskF w s1 s2 s3 s4 s5 s6 s7 s8 s9 s10 v1 v2 v3 v4 size kd' lt' uf') :: (lt', ol') :: [(e1, z1), (e2, z2), (e3, z3), (e4, z4), (e5, z5)]) → ol'.IsDictOf (intKind Challenge.rw_pq0901_01.row.prog w) (stored ([] : List (Int × Value)) n0 (.bytes b0 tb0)) → (lt' == sysModules) = false → Q (.ref f) { s with heap := h', toks := tks }) →
    wpAny (model Challenge.rw_pq0901_01.row.prog w) (ktrTop dp un9 gd cn cs L a ccd cl outer) (call (.ref 287) [.ref x, .ref it]) Q E s := by
  k_with_none
  w_top off
  k_with "execs cons" => (with_reducible refine forget_toks ?_; intro tk'; (rename News _ _ _ _ => hN9); (try dsimp only at hN9))
  k_with "call type:bytes" => (k_here; (with_reducible show wpAny _ _ (call (Value.type "bytes") [Value.int _ _]) _ _ _); k_dflt (refine' bytes_int_K ?h0 ?h1 ?hh ?hd ?hu ?_; (case h0 => omega); (case h1 => omega); (case hh => rfl); (case hd => ktr_room); (case hu => ktr_units)); intro tk' t'; (try dsimp only))
  k_with "call builtin:dict.get" => (k_here; (with_reducible show wpAny _ _ (call (Value.builtin "dict.get") [Value.ref _, Value.int _ _, Value.bytes _ _]) _ _ _); k_dflt (refine' get_blk ?N ?hp ?hd ?lo ?hb ?_; (case N => k_asm); (case hp => k_mem); (case hd => assumption); (case lo => assumption); (case hb => assumption)); intro t'; (try dsimp only))
  k_with "getMethod bytes" => (k_here; (with_reducible show wpAny _ _ (getMethod (Value.bytes _ _) (Str.ofString "join") _) _ _ _); k_dflt (refine bytes_join_method ?_))
  k_with "call builtin:bytes.join" => (k_here; (with_reducible show wpAny _ _ (call (Value.builtin "bytes.join") [Value.bytes _ _, Value.ref _]) _ _ _); k_dflt (first | refine bytes_join_L (by k_asm) (by k_asm) (by assumption) (by k_asm) (by k_mem) ?n1 ?n4 (by assumption) (by assumption) ?hh ?hd ?hu ?_ | refine bytes_join_K (by k_asm) (by k_asm) (by assumption) (by k_asm) (by k_mem) ?n1 ?n4 (by assumption) (by assumption) ?hh ?hd ?hu ?_); (case n1 => first | assumption | omega); (case n4 => first | assumption | omega); (case hh => rfl); (case hd => ktr_room); (case hu => ktr_units); intro tk' t'; (try dsimp only))
  k_with "CompSrc" => (k_here; k_dflt (refine LCg.CompSrc.range (by rfl) (by k_asm) (by k_asm) (by assumption) (by first | decide | rfl) (by first | rfl | decide) (by first | size_fits | exact Nat.le_of_ble_eq_true rfl) ?_; intro g'; lcg_lit))
  k_with "CompRest" => (with_unfolding_all first
      | (refine LCg.CompRest.succ ?_; intro v' I' oI' C' oC' D' m' h' tk' E' hv' hC' hx' F' N' off' ne'; (first | lcg_open hv' | (obtain ⟨t9', hv9'⟩ := hv'; subst hv9')); (have off0' := off'); (try simp only [LCg.Off3, and_true] at off'))
      | refine LCg.CompRest.zero ?_)
  k_with "CompEnd" => (refine' comp_end ?N ?F ?off ?hS ?_; (case N => assumption); (case F => assumption); (case off => assumption); (case hS => exact True.intro))
  k_with "call type:list" => (k_here; (with_reducible show wpAny _ _ (call (Value.type "list") [Value.ref _]) _ _ _); k_dflt (refine' list_lit_D ?hh ?F ?N ?U ?hc ?hd ?hl ?hn ?_; (case F => k_asm); (case N => k_asm); (case hh => rfl); (case U => exact DropF.tail (by k_ne) (DropF.tail (by k_ne) (DropF.tail (by k_ne) (DropF.tail (by k_ne) (DropF.tail (by k_ne) (DropF.head (by k_all))))))); (case hc => assumption); (case hd => assumption); (case hl => k_mem); (case hn => exact Nat.le_of_ble_eq_true rfl); k_whole); intro D' c' h' tk' F' N' l1; (try k_lt l1))
  k_with "call ref" => (k_here; (with_reducible show wpAny _ _ (call (Value.ref 302) [Value.int 2 _, Value.int _ _]) _ _ _); k_dflt (refine' disk_new _ _ _ _ _ _ _ _ ?z1 ?z4 _ _ _ _ _ _ _ _ _ _ _ _ _ _ _ _ _ ?B ?F ?X ?Y ?T ?hk ?N ?hd ?hu ?_; (case z1 => omega); (case z4 => omega); (case B => k_asm); (case F => k_asm); (case X => k_asm); (case Y => assumption); (case T => k_asm); (case hk => rfl); (case N => k_asm); (case hd => ktr_room); (case hu => ktr_units)); intro h' tks' f' df' kd' lt' uf' ok' ol' s1' s2' s3' s4' s5' s6' s7' s8' s9' s10' v1' v2' v3' v4' F' N' hdk' hdl' lok' lol' l1' l2' a1' a2' a3' a4' a5'; (try dsimp only [AllLt] at l1'); (try dsimp only [List.map] at a1' a2' a3' a4' a5'); (try dsimp only at N'))
  k_with "call type:dict" => (k_here; (with_reducible show wpAny _ _ (call (Value.type "dict") [Value.ref _]) _ _ _); k_dflt (refine' dict_copy ?F ?N ?B ?m ?lo ?d ?z ?_; (case F => k_asm); (case N => k_asm); (case B => exact Top.nolimit (by k_asm)); (case m => k_mem); (case lo => assumption); (case d => assumption); (case z => first | exact Nat.zero_le _ | exact Nat.le_trans (st_len1 _ _) (by decide) | exact Nat.le_trans (st_len2 _ _ _ _) (by decide))); intro d' h' o' F' N' l1 lo' hd'; (try k_lt l1))
  k_with "exec For Name Name cons nil" => (k_here; (rename Fr _ _ _ _ => lF'); (with_unfolding_all refine' For_turns lF' ?_; k_whole))
  k_with "exec For Tuple Call cons nil" => (k_here; (rename Fr _ _ _ _ => lF'); (with_unfolding_all refine' For_turns lF' ?_; k_whole))
  k_with "setItem ref int" => (k_here; k_dflt (refine' kda_set (knd := PySem.intKind _ _) ?F ?N ?U ?d (intKind_is _ _ _ _) ?z ?_; (case F => k_asm); (case N => k_asm); (case U => k_updF); (case d => assumption); (case z => rw [sizeLine_eq]; first | exact Nat.zero_le _ | exact Nat.le_trans (st_len1 _ _) (by decide))); intro h' o' F' N' hd'; (try dsimp only at N'))
  k_fill
  intros
  rename_i hret
  refine wpAny_call ?_
  k_dflt cell_enter
  k_steps
  all_goals exact hret _ _ _ _ _ _ _ _ _ _ _ _ _ _ _ _ _ _ _ _ _ _ (by assumption) (news_of (by assumption) (mem_cons (by k_mem) (mem_cons (by k_mem) (mem_cons (by k_mem) (mem_cons (by k_mem) (mem_cons (by k_mem) (mem_cons (by k_mem) (mem_cons (by k_mem) (mem_cons (by k_mem) mem_nil))))))))) (by assumption) (by assumption)
set_option maxRecDepth 100000 in
set_option maxHeartbeats 4000000 in
theorem after2 (w : World) (mean : ExcName → Option Value) (mg mb : Str → Option Value) (e1 e2 e3 e4 e5 : Nat) (z1 z2 z3 z4 z5 : Obj) (t1 t2 t3 t4 t5 t6 t7 t8 t9 t10 u1 u2 u3 u4 u5 : Tok) (size last n0 n1 : Int) (x dx kd un p0 p1 li it : Nat) (lt : Addr) (dead : Bool)
   (ok oI : Obj) (b0 b1 : Array UInt8) (ti0 tn0 tb0 ti1 tn1 tb1 : Tok) (ni c ct0 ct1 : Nat) (hs1 : 1 ≤ size) (hs4 : size ≤ 4) (hok : ok.IsDictOf (intKind Challenge.rw_pq0901_01.row.prog w) [])
   (lo : (kd == sysModules) = false) (hic : oI.cls = .type "list_iterator") (hid : oI.data = .fields #[.ref li, .int 0 0])
   (hlt : x < it ∧ dx < it ∧ kd < it ∧ un < it ∧ p0 < it ∧ p1 < it ∧ li < it ∧ e1 < it ∧ e2 < it ∧ e3 < it ∧ e4 < it ∧ e5 < it) :
  ∀ (dp un9 : Nat) (gd : Option (List Code)) (cn : Str) (cs : Scope) (a : Addr) (ccd : Value) (cl : List (Str × Addr)) (outer : List Env) (A₀ : Around) (base h₀ : Heap) (L : Addr) (m : Str → Option Value) (s : Shared) (Q E : Value → Shared → Prop),
    Below A₀ base outer h₀ → Fr h₀ L s.heap m → (hd.heap_1 w.params).In h₀ → KX w base → Top topProg LO mean mg mb h₀ → cs.kind = .function →
    News h₀ L s.heap ((it, oI) :: (li, W.listOf #[.int 0 ti0, .int 1 ti1] c) :: (x, instObj 302 dx) :: (dx, diskD w t1 t2 t3 t4 t5 t6 t7 t8 t9 t10 u1 u2 u3 u4 u5 size 2 last kd lt un dead) :: (kd, ok) :: (un, W.listOf #[.ref p0, .ref p1] ni) :: (p0, { cls := .type "tuple", data := .seq #[.int n0 tn0, .bytes b0 tb0] ct0 }) :: (p1, { cls := .type "tuple", data := .seq #[.int n1 tn1, .bytes b1 tb1] ct1 }) :: [(e1, z1), (e2, z2), (e3, z3), (e4, z4), (e5, z5)]) →
    dp + 3 < 350 → un9 + 24 < 300 → 
    (∀ h' tks f df kd' lt' uf' ol' s1 s2 s3 s4 s5 s6 s7 s8 s9 s10 v1 v2 v3 v4, Fr h₀ L h' m → News h₀ L h' ((f, instObj 302 df) :: (df, diskF w s1 s2 s3 s4 s5 s6 s7 s8 s9 s10 v1 v2 v3 v4 size kd' lt' uf') :: (lt', ol') :: [(e1, z1), (e2, z2), (e3, z3), (e4, z4), (e5, z5)]) → ol'.IsDictOf (intKind Challenge.rw_pq0901_01.row.prog w) (stored (stored ([] : List (Int × Value)) n0 (.bytes b0 tb0)) n1 (.bytes b1 tb1)) → (lt' == sysModules) = false → Q (.ref f) { s with heap := h', toks := tks }) →
    wpAny (model Challenge.rw_pq0901_01.row.prog w) (ktrTop dp un9 gd cn cs L a ccd cl outer) (call (.ref 287) [.ref x, .ref it]) Q E s := by
  k_with_none
  w_top off
  k_with "execs cons" => (with_reducible refine forget_toks ?_; intro tk'; (rename News _ _ _ _ => hN9); (try dsimp only at hN9))
  k_with "call type:bytes" => (k_here; (with_reducible show wpAny _ _ (call (Value.type "bytes") [Value.int _ _]) _ _ _); k_dflt (refine' bytes_int_K ?h0 ?h1 ?hh ?hd ?hu ?_; (case h0 => omega); (case h1 => omega); (case hh => rfl); (case hd => ktr_room); (case hu => ktr_units)); intro tk' t'; (try dsimp only))
  k_with "call builtin:dict.get" => (k_here; (with_reducible show wpAny _ _ (call (Value.builtin "dict.get") [Value.ref _, Value.int _ _, Value.bytes _ _]) _ _ _); k_dflt (refine' get_blk ?N ?hp ?hd ?lo ?hb ?_; (case N => k_asm); (case hp => k_mem); (case hd => assumption); (case lo => assumption); (case hb => assumption)); intro t'; (try dsimp only))
  k_with "getMethod bytes" => (k_here; (with_reducible show wpAny _ _ (getMethod (Value.bytes _ _) (Str.ofString "join") _) _ _ _); k_dflt (refine bytes_join_method ?_))
  k_with "call builtin:bytes.join" => (k_here; (with_reducible show wpAny _ _ (call (Value.builtin "bytes.join") [Value.bytes _ _, Value.ref _]) _ _ _); k_dflt (first | refine bytes_join_L (by k_asm) (by k_asm) (by assumption) (by k_asm) (by k_mem) ?n1 ?n4 (by assumption) (by assumption) ?hh ?hd ?hu ?_ | refine bytes_join_K (by k_asm) (by k_asm) (by assumption) (by k_asm) (by k_mem) ?n1 ?n4 (by assumption) (by assumption) ?hh ?hd ?hu ?_); (case n1 => first | assumption | omega); (case n4 => first | assumption | omega); (case hh => rfl); (case hd => ktr_room); (case hu => ktr_units); intro tk' t'; (try dsimp only))
  k_with "CompSrc" => (k_here; k_dflt (refine LCg.CompSrc.range (by rfl) (by k_asm) (by k_asm) (by assumption) (by first | decide | rfl) (by first | rfl | decide) (by first | size_fits | exact Nat.le_of_ble_eq_true rfl) ?_; intro g'; lcg_lit))
  k_with "CompRest" => (with_unfolding_all first
      | (refine LCg.CompRest.succ ?_; intro v' I' oI' C' oC' D' m' h' tk' E' hv' hC' hx' F' N' off' ne'; (first | lcg_open hv' | (obtain ⟨t9', hv9'⟩ := hv'; subst hv9')); (have off0' := off'); (try simp only [LCg.Off3, and_true] at off'))
      | refine LCg.CompRest.zero ?_)
  k_with "CompEnd" => (refine' comp_end ?N ?F ?off ?hS ?_; (case N => assumption); (case F => assumption); (case off => assumption); (case hS => exact True.intro))
  k_with "call type:list" => (k_here; (with_reducible show wpAny _ _ (call (Value.type "list") [Value.ref _]) _ _ _); k_dflt (refine' list_lit_D ?hh ?F ?N ?U ?hc ?hd ?hl ?hn ?_; (case F => k_asm); (case N => k_asm); (case hh => rfl); (case U => exact DropF.tail (by k_ne) (DropF.tail (by k_ne) (DropF.tail (by k_ne) (DropF.tail (by k_ne) (DropF.tail (by k_ne) (DropF.head (by k_all))))))); (case hc => assumption); (case hd => assumption); (case hl => k_mem); (case hn => exact Nat.le_of_ble_eq_true rfl); k_whole); intro D' c' h' tk' F' N' l1; (try k_lt l1))
  k_with "call ref" => (k_here; (with_reducible show wpAny _ _ (call (Value.ref 302) [Value.int 2 _, Value.int _ _]) _ _ _); k_dflt (refine' disk_new _ _ _ _ _ _ _ _ ?z1 ?z4 _ _ _ _ _ _ _ _ _ _ _ _ _ _ _ _ _ ?B ?F ?X ?Y ?T ?hk ?N ?hd ?hu ?_; (case z1 => omega); (case z4 => omega); (case B => k_asm); (case F => k_asm); (case X => k_asm); (case Y => assumption); (case T => k_asm); (case hk => rfl); (case N => k_asm); (case hd => ktr_room); (case hu => ktr_units)); intro h' tks' f' df' kd' lt' uf' ok' ol' s1' s2' s3' s4' s5' s6' s7' s8' s9' s10' v1' v2' v3' v4' F' N' hdk' hdl' lok' lol' l1' l2' a1' a2' a3' a4' a5'; (try dsimp only [AllLt] at l1'); (try dsimp only [List.map] at a1' a2' a3' a4' a5'); (try dsimp only at N'))
  k_with "call type:dict" => (k_here; (with_reducible show wpAny _ _ (call (Value.type "dict") [Value.ref _]) _ _ _); k_dflt (refine' dict_copy ?F ?N ?B ?m ?lo ?d ?z ?_; (case F => k_asm); (case N => k_asm); (case B => exact Top.nolimit (by k_asm)); (case m => k_mem); (case lo => assumption); (case d => assumption); (case z => first | exact Nat.zero_le _ | exact Nat.le_trans (st_len1 _ _) (by decide) | exact Nat.le_trans (st_len2 _ _ _ _) (by decide))); intro d' h' o' F' N' l1 lo' hd'; (try k_lt l1))
  k_with "exec For Name Name cons nil" => (k_here; (rename Fr _ _ _ _ => lF'); (with_unfolding_all refine' For_turns lF' ?_; k_whole))
  k_with "exec For Tuple Call cons nil" => (k_here; (rename Fr _ _ _ _ => lF'); (with_unfolding_all refine' For_turns lF' ?_; k_whole))
  k_with "setItem ref int" => (k_here; k_dflt (refine' kda_set (knd := PySem.intKind _ _) ?F ?N ?U ?d (intKind_is _ _ _ _) ?z ?_; (case F => k_asm); (case N => k_asm); (case U => k_updF); (case d => assumption); (case z => rw [sizeLine_eq]; first | exact Nat.zero_le _ | exact Nat.le_trans (st_len1 _ _) (by decide))); intro h' o' F' N' hd'; (try dsimp only at N'))
  k_fill
  intros
  rename_i hret
  refine wpAny_call ?_
  k_dflt cell_enter
  k_steps
  all_goals exact hret _ _ _ _ _ _ _ _ _ _ _ _ _ _ _ _ _ _ _ _ _ _ (by assumption) (news_of (by assumption) (mem_cons (by k_mem) (mem_cons (by k_mem) (mem_cons (by k_mem) (mem_cons (by k_mem) (mem_cons (by k_mem) (mem_cons (by k_mem) (mem_cons (by k_mem) (mem_cons (by k_mem) mem_nil))))))))) (by assumption) (by assumption)
end
end Mine
end
section
open PySem PySem.W PyProof.Rows PySem.Calls PySem.Spec
set_option linter.unusedVariables false
set_option maxRecDepth 100000
namespace Mine
section
variable {prog : Program} {w : World} {A : Around} {E : Value → Shared → Prop} {s : Shared} {h₀ : Heap} {L : Addr} {m : Str → Option Value} {news : List (Addr × Obj)}
theorem list_range_U {r : Addr} {t u v : Tok} {done : Int} {n : Nat} {Q : Value → Shared → Prop} (hdn : (n : Int) = done) (hn2 : n ≤ 2) (hh : A.handled = none) (F : Fr h₀ L s.heap m) (N : News h₀ L s.heap news) (hr : IsRange s.heap r 0 done 1 t u v)
    (h : ∀ D c h' tk its, Fr h₀ L h' m → News h₀ L h' ((D, W.listOf its c) :: news) → (∀ q ∈ news, q.1 < D) → ItemsOf (fun i v => ∃ t, v = .int (0 + (i : Int) * 1) t) its n → Q (.ref D) { s with heap := h', toks := tk }) :
    wpAny (model prog w) A (call (.type "list") [.ref r]) Q E s := by
  subst hdn
  have e3 : n = 0 ∨ n = 1 ∨ n = 2 := by omega
  have hsm : Builtin.Range.small 0 (n : Int) 1 = true := by rcases e3 with rfl | rfl | rfl <;> decide
  have hsz : Builtin.Range.rangeSize 0 (n : Int) 1 = (n : Int) := by rcases e3 with rfl | rfl | rfl <;> decide
  refine call_list_range hh hr hsm hsz (by omega) fun h' tk acc' c' hk hS' hacc => ?_
  refine h _ c' h' tk acc' ⟨F.ns.at fun o e => hk _ _ e, fun b o e => hk b o (F.keep b o e), F.above⟩ (fun p hp => ?_) (fun q hq => Heap.lt_size (N q hq).1) hacc
  rcases List.mem_cons.mp hp with rfl | hp
  · exact ⟨hS', Nat.ne_of_gt F.ns.lt, none_at_size F⟩
  · exact ⟨hk _ _ (N p hp).1, (N p hp).2⟩
theorem iter_list_K {l : Addr} {its : Array Value} {n : Nat} {Q : Value → Shared → Prop} (F : Fr h₀ L s.heap m) (N : News h₀ L s.heap news) (hl : (l, W.listOf its n) ∈ news)
    (h : ∀ (I : Addr) h' oI, Fr h₀ L h' m → News h₀ L h' ((I, oI) :: news) → (∀ p ∈ news, p.1 < I) → oI.cls = .type "list_iterator" → oI.data = .fields #[.ref l, .int 0 0] → Q (.ref I) { s with heap := h' }) :
    wpAny (model prog w) A (call (.builtin "iter") [.ref l]) Q E s := by
  refine call_function_entry (by decide +kernel) (by decide +kernel) kdk_entry_iter (kdk_args_iter _) ?_
  unfold Builtin.«iter»
  refine wpAny_bind (m := someArgs "iter" 1 2 _) (wpAny_of_eq (a := [Value.ref l]) (by first | rfl | kernel_rfl!) ?_)
  show wpAny _ _ (pyIter (.ref l) >>= _) _ _ _
  refine wpAny_bind (wpAny_pyIter_list ⟨_, (N _ hl).1, rfl, n, rfl⟩ ?_)
  exact wpAny_pure ⟨_, rfl, h _ _ _ (F.push _) (News.push F N _ rfl) (fun q hq => Heap.lt_size (N q hq).1) rfl rfl⟩
theorem set_blocks {bl : Addr} {news' : List (Addr × Obj)} {b0 b1 c : Array UInt8} {t0 t1 t tn : Tok} {n : Int} {nb : Nat} {Q : Unit → Shared → Prop} (F : Fr h₀ L s.heap m) (N : News h₀ L s.heap news)
    (U : Upd bl (W.listOf #[.bytes b0 t0, .bytes b1 t1] nb) (W.listOf #[.bytes (if (0 : Int) = n then c else b0) (if (0 : Int) = n then t else t0), .bytes (if (1 : Int) = n then c else b1) (if (1 : Int) = n then t else t1)] nb) news news') (n0 : 0 ≤ n) (n1 : n < 2)
    (h : ∀ h', Fr h₀ L h' m → News h₀ L h' news' → Q () { s with heap := h' }) : wpAny (model prog w) A (setItem (.ref bl) (.int n tn) (.bytes c t)) Q E s := by
  obtain ⟨pre, post, rfl, rfl, a, b⟩ := U.split
  have z := N (bl, W.listOf #[.bytes b0 t0, .bytes b1 t1] nb) (List.mem_append.mpr (.inr (.head _)))
  have hn : n = 0 ∨ n = 1 := by omega
  refine ki_setAt z.1 n0 (by omega) (show n < ((2 : Nat) : Int) by omega) (h _ (F.change (Heap.SameBut.update ..) z.2.1 z.2.2) (ki_turn _ N a b ?_ ?_))
  · rcases hn with rfl | rfl <;> rfl
  · rfl
end
theorem items0 {its : Array Value} {P : Nat → Value → Prop} (h : ItemsOf P its 0) : its = #[] := Array.eq_empty_of_size_eq_zero h.1
theorem items1 {its : Array Value} (h : ItemsOf (fun i v => ∃ t, v = .int (0 + (i : Int) * 1) t) its 1) : ∃ t0, its = #[.int 0 t0] := by
  obtain ⟨z, k⟩ := h
  obtain ⟨t0, e0⟩ := k 0 its[0] (by simp)
  refine ⟨t0, ?_⟩
  apply Array.ext
  · simp [z]
  · intro i h1 h2
    have : i = 0 := by simp at h2; omega
    subst this
    rw [e0]; rfl
theorem items2 {its : Array Value} (h : ItemsOf (fun i v => ∃ t, v = .int (0 + (i : Int) * 1) t) its 2) : ∃ t0 t1, its = #[.int 0 t0, .int 1 t1] := by
  obtain ⟨z, k⟩ := h
  obtain ⟨t0, e0⟩ := k 0 its[0] (by simp)
  obtain ⟨t1, e1⟩ := k 1 its[1] (by simp)
  refine ⟨t0, t1, ?_⟩
  apply Array.ext
  · simp [z]
  · intro i h1 h2
    have : i = 0 ∨ i = 1 := by simp at h2; omega
    rcases this with rfl | rfl
    · rw [e0]; rfl
    · rw [e1]; rfl
theorem after_ws {w : World} {mean : ExcName → Option Value} {mg mb : Str → Option Value} {news : List (Addr × Obj)} {e1 e2 e3 e4 e5 : Nat} {z1 z2 z3 z4 z5 : Obj} {t1 t2 t3 t4 t5 t6 t7 t8 t9 t10 u1 u2 u3 u4 u5 : Tok} {size last done : Int} {x dx kd un li it : Nat} {lt : Addr} {dead : Bool}
   {ok oI : Obj} {ws : List (Addr × Int × Array UInt8)} {its : Array Value} {ni c : Nat} {dp un9 : Nat} {gd : Option (List Code)} {cn : Str} {cs : Scope} {a : Addr} {ccd : Value} {cl : List (Str × Addr)} {outer : List Env} {A₀ : Around} {base h₀ : Heap} {L : Addr} {m : Str → Option Value} {s : Shared} {Q E : Value → Shared → Prop}
   (B : Below A₀ base outer h₀) (F : Fr h₀ L s.heap m) (X : (hd.heap_1 w.params).In h₀) (Y : KX w base) (T : Top topProg LO mean mg mb h₀) (hk : cs.kind = .function) (N : News h₀ L s.heap ((it, oI) :: news)) (hd : dp + 3 < 350) (hu : un9 + 24 < 300)
   (mli : (li, W.listOf its c) ∈ news) (mx : (x, instObj 302 dx) ∈ news) (mdx : (dx, diskD w t1 t2 t3 t4 t5 t6 t7 t8 t9 t10 u1 u2 u3 u4 u5 size done last kd lt un dead) ∈ news) (mkd : (kd, ok) ∈ news) (mun : (un, W.listOf (ws.map fun q => Value.ref q.1).toArray ni) ∈ news)
   (mt : ∀ q ∈ ws, ∃ tn tb ct, (q.1, ({ cls := .type "tuple", data := .seq #[.int q.2.1 tn, .bytes q.2.2 tb] ct } : Obj)) ∈ news) (m1 : (e1, z1) ∈ news) (m2 : (e2, z2) ∈ news) (m3 : (e3, z3) ∈ news) (m4 : (e4, z4) ∈ news) (m5 : (e5, z5) ∈ news)
   (hlt : ∀ p ∈ news, @LT.lt Nat _ p.1 it) (hic : oI.cls = .type "list_iterator") (hid : oI.data = .fields #[.ref li, .int 0 0]) (hits : ItemsOf (fun i v => ∃ t, v = .int (0 + (i : Int) * 1) t) its ws.length) (hdn : (ws.length : Int) = done) (hw2 : ws.length ≤ 2)
   (hs1 : 1 ≤ size) (hs4 : size ≤ 4) (hok : ok.IsDictOf (intKind Challenge.rw_pq0901_01.row.prog w) []) (lo : (kd == sysModules) = false)
   (h : ∀ h' tks (f df kd' lt' uf' : Addr) ol' kvs' s1 s2 s3 s4 s5 s6 s7 s8 s9 s10 v1 v2 v3 v4, Fr h₀ L h' m → News h₀ L h' ((f, instObj 302 df) :: (df, diskF w s1 s2 s3 s4 s5 s6 s7 s8 s9 s10 v1 v2 v3 v4 size kd' lt' uf') :: (lt', ol') :: [(e1, z1), (e2, z2), (e3, z3), (e4, z4), (e5, z5)]) → ol'.IsDictOf (intKind Challenge.rw_pq0901_01.row.prog w) kvs' →
     Blk kvs' 0 (Array.replicate size.toNat 0) (blkOf (Array.replicate size.toNat 0) 0 ws) → Blk kvs' 1 (Array.replicate size.toNat 0) (blkOf (Array.replicate size.toNat 0) 1 ws) → (lt' == sysModules) = false → Q (.ref f) { s with heap := h', toks := tks }) :
    wpAny (model Challenge.rw_pq0901_01.row.prog w) (ktrTop dp un9 gd cn cs L a ccd cl outer) (call (.ref 287) [.ref x, .ref it]) Q E s := by
  have b0 : ∀ i, Blk ([] : List (Int × Value)) i (Array.replicate size.toNat 0) (Array.replicate size.toNat 0) := fun i => .inr ⟨rfl, rfl⟩
  have k0 := hlt _ mli
  have k1 := hlt _ mx
  have k2 := hlt _ mdx
  have k3 := hlt _ mkd
  have k4 := hlt _ mun
  have j1 := hlt _ m1
  have j2 := hlt _ m2
  have j3 := hlt _ m3
  have j4 := hlt _ m4
  have j5 := hlt _ m5
  subst hdn
  match ws, hw2 with
  | [], _ =>
    have := items0 hits
    subst this
    exact after0 w mean mg mb e1 e2 e3 e4 e5 z1 z2 z3 z4 z5 t1 t2 t3 t4 t5 t6 t7 t8 t9 t10 u1 u2 u3 u4 u5 size last x dx kd un li it lt dead ok oI ni c hs1 hs4 hok lo hic hid ⟨k1, k2, k3, k4, k0, j1, j2, j3, j4, j5⟩ dp un9 gd cn cs a ccd cl outer A₀ base h₀ L m s Q E B F X Y T hk
      (news_of N (mem_cons (.head _) (mem_cons (.tail _ mli) (mem_cons (.tail _ mx) (mem_cons (.tail _ mdx) (mem_cons (.tail _ mkd) (mem_cons (.tail _ mun) (mem_cons (.tail _ m1) (mem_cons (.tail _ m2) (mem_cons (.tail _ m3) (mem_cons (.tail _ m4) (mem_cons (.tail _ m5) mem_nil)))))))))))) hd hu
      fun h' tks f df kd' lt' uf' ol' s1 s2 s3 s4 s5 s6 s7 s8 s9 s10 v1 v2 v3 v4 F' N' d' l' => h h' tks f df kd' lt' uf' ol' _ s1 s2 s3 s4 s5 s6 s7 s8 s9 s10 v1 v2 v3 v4 F' N' d' (b0 0) (b0 1) l'
  | [(p0, n0, c0)], _ =>
    obtain ⟨ti0, e⟩ := items1 hits
    subst e
    obtain ⟨tn0, tb0, ct0, mt0⟩ := mt (p0, n0, c0) (.head _)
    have i0 := hlt _ mt0
    exact after1 w mean mg mb e1 e2 e3 e4 e5 z1 z2 z3 z4 z5 t1 t2 t3 t4 t5 t6 t7 t8 t9 t10 u1 u2 u3 u4 u5 size last n0 x dx kd un p0 li it lt dead ok oI c0 ti0 tn0 tb0 ni c ct0 hs1 hs4 hok lo hic hid ⟨k1, k2, k3, k4, i0, k0, j1, j2, j3, j4, j5⟩ dp un9 gd cn cs a ccd cl outer A₀ base h₀ L m s Q E B F X Y T hk
      (news_of N (mem_cons (.head _) (mem_cons (.tail _ mli) (mem_cons (.tail _ mx) (mem_cons (.tail _ mdx) (mem_cons (.tail _ mkd) (mem_cons (.tail _ mun) (mem_cons (.tail _ mt0) (mem_cons (.tail _ m1) (mem_cons (.tail _ m2) (mem_cons (.tail _ m3) (mem_cons (.tail _ m4) (mem_cons (.tail _ m5) mem_nil))))))))))))) hd hu
      fun h' tks f df kd' lt' uf' ol' s1 s2 s3 s4 s5 s6 s7 s8 s9 s10 v1 v2 v3 v4 F' N' d' l' => h h' tks f df kd' lt' uf' ol' _ s1 s2 s3 s4 s5 s6 s7 s8 s9 s10 v1 v2 v3 v4 F' N' d' (b0 0).stored (b0 1).stored l'
  | [(p0, n0, c0), (p1, n1, c1)], _ =>
    obtain ⟨ti0, ti1, e⟩ := items2 hits
    subst e
    obtain ⟨tn0, tb0, ct0, mt0⟩ := mt (p0, n0, c0) (.head _)
    obtain ⟨tn1, tb1, ct1, mt1⟩ := mt (p1, n1, c1) (.tail _ (.head _))
    have i0 := hlt _ mt0
    have i1 := hlt _ mt1
    exact after2 w mean mg mb e1 e2 e3 e4 e5 z1 z2 z3 z4 z5 t1 t2 t3 t4 t5 t6 t7 t8 t9 t10 u1 u2 u3 u4 u5 size last n0 n1 x dx kd un p0 p1 li it lt dead ok oI c0 c1 ti0 tn0 tb0 ti1 tn1 tb1 ni c ct0 ct1 hs1 hs4 hok lo hic hid ⟨k1, k2, k3, k4, i0, i1, k0, j1, j2, j3, j4, j5⟩ dp un9 gd cn cs a ccd cl outer A₀ base h₀ L m s Q E B F X Y T hk
      (news_of N (mem_cons (.head _) (mem_cons (.tail _ mli) (mem_cons (.tail _ mx) (mem_cons (.tail _ mdx) (mem_cons (.tail _ mkd) (mem_cons (.tail _ mun) (mem_cons (.tail _ mt0) (mem_cons (.tail _ mt1) (mem_cons (.tail _ m1) (mem_cons (.tail _ m2) (mem_cons (.tail _ m3) (mem_cons (.tail _ m4) (mem_cons (.tail _ m5) mem_nil)))))))))))))) hd hu
      fun h' tks f df kd' lt' uf' ol' s1 s2 s3 s4 s5 s6 s7 s8 s9 s10 v1 v2 v3 v4 F' N' d' l' => h h' tks f df kd' lt' uf' ol' _ s1 s2 s3 s4 s5 s6 s7 s8 s9 s10 v1 v2 v3 v4 F' N' d' (b0 0).stored.stored (b0 1).stored.stored l'
  | _ :: _ :: _ :: _, h3 => exact absurd h3 (by simp)
/-- a right write, its parts anywhere in the ledger -/
theorem write_U {w : World} {mean : ExcName → Option Value} {mg mb : Str → Option Value} {n1 n2 n3 own : List (Addr × Obj)} {t1 t2 t3 t4 t5 t6 t7 t8 t9 t10 u1 u2 u3 u4 u5 : Tok} {size wr last n : Int} {x dx lt un : Nat} {kept : Addr} {tn : Tok} {b : Array UInt8} {t : Tok} {ol : Obj} {kvs : List (Int × Value)} {us : List Value} {ni : Nat}
    {news : List (Addr × Obj)} {dp un9 : Nat} {gd : Option (List Code)} {cn : Str} {cs : Scope} {a : Addr} {ccd : Value} {cl : List (Str × Addr)} {outer : List Env} {A₀ : Around} {base h₀ : Heap} {L : Addr} {m : Str → Option Value} {s : Shared} {Q E : Value → Shared → Prop}
    (B : Below A₀ base outer h₀) (F : Fr h₀ L s.heap m) (X : (hd.heap_1 w.params).In h₀) (Y : KX w base) (XB : (hd.heap_1 w.params).In base) (TB : Top topProg LO mean mg mb base) (T : Top topProg LO mean mg mb h₀) (hk : cs.kind = .function) (N : News h₀ L s.heap news) (hd : dp + 3 < 350) (hu : un9 + 24 < 300)
    (dx1 : DropF x (instObj 302 dx) news n1) (dx2 : DropF dx (diskD w t1 t2 t3 t4 t5 t6 t7 t8 t9 t10 u1 u2 u3 u4 u5 size wr last kept lt un false) n1 n2) (dx3 : DropF lt ol n2 n3) (dx4 : DropF un (W.listOf us.toArray ni) n3 own)
    (h0 : 0 ≤ n) (h1 : n < 2) (hs0 : 1 ≤ size) (hs1 : size ≤ 4) (hne : (b.size : Int) = size) (hw0 : 0 ≤ wr) (hw1 : wr < 3) (hl : wr < last) (hol : ol.IsDictOf (intKind Challenge.rw_pq0901_01.row.prog w) kvs) (lo : (lt == sysModules) = false) (hkv : kvs.length ≤ 50) (hus : us.length ≤ 50)
    (h : ∀ h' tks tp ol' tb' ct u3', Fr h₀ L h' m → News h₀ L h' ((tp, { cls := .type "tuple", data := .seq #[.int n tn, .bytes b tb'] ct }) :: (x, instObj 302 dx) :: (dx, diskD w t1 t2 t3 t4 t5 t6 t7 t8 t9 t10 u1 u2 u3' u4 u5 size (wr + 1) last kept lt un false) :: (lt, ol') :: (un, W.listOf (us ++ [Value.ref tp]).toArray (ni + 1)) :: own) → ol'.IsDictOf (intKind Challenge.rw_pq0901_01.row.prog w) (stored kvs n (.bytes b tb')) → (x < tp ∧ dx < tp ∧ lt < tp ∧ un < tp ∧ AllLt tp own) → Q .none { s with heap := h', toks := tks }) :
    wpAny (model Challenge.rw_pq0901_01.row.prog w) (ktrTop dp un9 gd cn cs L a ccd cl outer) (call (.ref 252) [.ref x, .int n tn, .bytes b t]) Q E s := by
  obtain ⟨a1, b1, c1⟩ := dx1.mem
  obtain ⟨a2, b2, c2⟩ := dx2.mem
  obtain ⟨a3, b3, c3⟩ := dx3.mem
  obtain ⟨a4, b4, c4⟩ := dx4.mem
  exact write_good w mean mg mb own t1 t2 t3 t4 t5 t6 t7 t8 t9 t10 u1 u2 u3 u4 u5 size wr last n x dx lt un kept tn b t ol kvs us ni h0 h1 (by omega) hs0 hs1 hne hw0 hw1 hl hol lo hkv hus
    ⟨fun e => c1 _ a2 e.symm, fun e => c1 _ (b2 _ a3) e.symm, fun e => c1 _ (b2 _ (b3 _ a4)) e.symm, fun e => c2 _ a3 e.symm, fun e => c2 _ (b3 _ a4) e.symm, fun e => c3 _ a4 e.symm⟩
    (fun p hp q hq => by
      rcases List.mem_cons.mp hq with rfl | hq
      · exact c2 _ (b3 _ (b4 _ hp))
      rcases List.mem_cons.mp hq with rfl | hq
      · exact c3 _ (b4 _ hp)
      rw [List.mem_singleton.mp hq]
      exact c4 _ hp)
    dp un9 gd cn cs a ccd cl outer A₀ base h₀ L m s Q E B F X Y XB TB
    (news_of N (mem_cons a1 (mem_cons (b1 _ a2) (mem_cons (b1 _ (b2 _ a3)) (mem_cons (b1 _ (b2 _ (b3 _ a4))) fun p hp => b1 _ (b2 _ (b3 _ (b4 _ hp)))))))) T hk hd hu h
end Mine
end
section
open PySem PySem.W PyProof.Rows PySem.Calls PySem.Spec
set_option linter.unusedVariables false
set_option maxRecDepth 100000
namespace Mine
theorem off_of {oz : List (Addr × Obj)} {l : List Addr} {b : Addr} (h : OwnOff oz l) (hb : b ∈ l) : ∀ p ∈ oz, p.1 ≠ b := fun p hp => h p hp b hb
/-- a right write, in the turn's own ledger -/
theorem write_turn {w : World} {mean : ExcName → Option Value} {mg mb : Str → Option Value} {oz : List (Addr × Obj)} {t1 t2 t3 t4 t5 t6 t7 t8 t9 t10 u1 u2 u3 u4 u5 : Tok} {size wr last n : Int} {D l I bl un lt kd x dx L3 L2 L1 pen scr : Nat} {zD zl zI zb zk q3 q2 q1 zp zs zt : Obj} {tn : Tok} {b : Array UInt8} {t : Tok} {ol : Obj} {kvs : List (Int × Value)} {us : List Value} {ni : Nat}
    {dp un9 : Nat} {gd : Option (List Code)} {cn : Str} {cs : Scope} {a : Addr} {ccd : Value} {cl : List (Str × Addr)} {outer : List Env} {A₀ : Around} {base h₀ : Heap} {L : Addr} {m : Str → Option Value} {s : Shared} {Q E : Value → Shared → Prop}
    (B : Below A₀ base outer h₀) (F : Fr h₀ L s.heap m) (X : (hd.heap_1 w.params).In h₀) (Y : KX w base) (XB : (hd.heap_1 w.params).In base) (TB : Top topProg LO mean mg mb base) (T : Top topProg LO mean mg mb h₀) (hk : cs.kind = .function)
    (N : News h₀ L s.heap ((D, zD) :: (l, zl) :: (I, zI) :: (bl, zb) :: (un, W.listOf us.toArray ni) :: (lt, ol) :: (kd, zk) :: (x, instObj 302 dx) :: (dx, diskD w t1 t2 t3 t4 t5 t6 t7 t8 t9 t10 u1 u2 u3 u4 u5 size wr last kd lt un false) :: (L3, q3) :: (L2, q2) :: (L1, q1) :: (pen, zp) :: (scr, zs) :: (343, zt) :: oz)) (hd : dp + 3 < 350) (hu : un9 + 24 < 300)
    (hc : 343 < scr ∧ scr < pen ∧ pen < L1 ∧ L1 < L2 ∧ L2 < L3 ∧ L3 < dx ∧ dx < x ∧ x < kd ∧ kd < lt ∧ lt < un ∧ un < bl ∧ bl < I ∧ I < l ∧ l < D) (hoz : OwnOff oz [343, pen, L2, L3, dx, lt, un, bl])
    (h0 : 0 ≤ n) (h1 : n < 2) (hs0 : 1 ≤ size) (hs1 : size ≤ 4) (hne : (b.size : Int) = size) (hw0 : 0 ≤ wr) (hw1 : wr < 3) (hl : wr < last) (hol : ol.IsDictOf (intKind Challenge.rw_pq0901_01.row.prog w) kvs) (lo : (lt == sysModules) = false) (hkv : kvs.length ≤ 50) (hus : us.length ≤ 50)
    (h : ∀ h' tks (tp : Nat) ol' tb' ct u3', Fr h₀ L h' m → News h₀ L h' ((tp, { cls := .type "tuple", data := .seq #[.int n tn, .bytes b tb'] ct }) :: (D, zD) :: (l, zl) :: (I, zI) :: (bl, zb) :: (un, W.listOf (us ++ [Value.ref tp]).toArray (ni + 1)) :: (lt, ol') :: (kd, zk) :: (x, instObj 302 dx) :: (dx, diskD w t1 t2 t3 t4 t5 t6 t7 t8 t9 t10 u1 u2 u3' u4 u5 size (wr + 1) last kd lt un false) :: (L3, q3) :: (L2, q2) :: (L1, q1) :: (pen, zp) :: (scr, zs) :: (343, zt) :: oz) → ol'.IsDictOf (intKind Challenge.rw_pq0901_01.row.prog w) (stored kvs n (.bytes b tb')) → D < tp → AllLt tp oz → Q .none { s with heap := h', toks := tks }) :
    wpAny (model Challenge.rw_pq0901_01.row.prog w) (ktrTop dp un9 gd cn cs L a ccd cl outer) (call (.ref 252) [.ref x, .int n tn, .bytes b t]) Q E s := by
  obtain ⟨c1, c2, c3, c4, c5, c6, c7, c8, c9, c10, c11, c12, c13, c14⟩ := hc
  have A1 : AL scr [343] := AL.step AL.nil c1
  have A2 := AL.step A1 c2
  have A3 := AL.step A2 c3
  have A4 := AL.step A3 c4
  have A5 := AL.step A4 c5
  have A6 := AL.step A5 c6
  have A7 := AL.step A6 c7
  have A8 := AL.step A7 c8
  have A9 := AL.step A8 c9
  have A10 := AL.step A9 c10
  have A11 := AL.step A10 c11
  have A12 := AL.step A11 c12
  have A13 := AL.step A12 c13
  have A14 := AL.step A13 c14
  have i1 := off_of hoz (b := dx) (by simp)
  have i2 := off_of hoz (b := lt) (by simp)
  have i3 := off_of hoz (b := un) (by simp)
  refine write_good w mean mg mb ((D, zD) :: (l, zl) :: (I, zI) :: (bl, zb) :: (kd, zk) :: (L3, q3) :: (L2, q2) :: (L1, q1) :: (pen, zp) :: (scr, zs) :: (343, zt) :: oz) t1 t2 t3 t4 t5 t6 t7 t8 t9 t10 u1 u2 u3 u4 u5 size wr last n x dx lt un kd tn b t ol kvs us ni h0 h1 (by omega) hs0 hs1 hne hw0 hw1 hl hol lo hkv hus
    (by refine ⟨?_, ?_, ?_, ?_, ?_, ?_⟩ <;> first | k_ne | (refine ltN ?_; with_reducible refine AL.lt (by with_reducible assumption) ?_; cell_call) | omega) ?_ dp un9 gd cn cs a ccd cl outer A₀ base h₀ L m s Q E B F X Y XB TB (news_of N ?_) T hk hd hu ?_
  · intro p hp q hq
    have hq' : q = dx ∨ q = lt ∨ q = un := by simpa using hq
    rcases List.mem_cons.mp hp with rfl | hp
    · rcases hq' with rfl | rfl | rfl <;> k_ne
    rcases List.mem_cons.mp hp with rfl | hp
    · rcases hq' with rfl | rfl | rfl <;> k_ne
    rcases List.mem_cons.mp hp with rfl | hp
    · rcases hq' with rfl | rfl | rfl <;> k_ne
    rcases List.mem_cons.mp hp with rfl | hp
    · rcases hq' with rfl | rfl | rfl <;> k_ne
    rcases List.mem_cons.mp hp with rfl | hp
    · rcases hq' with rfl | rfl | rfl <;> k_ne
    rcases List.mem_cons.mp hp with rfl | hp
    · rcases hq' with rfl | rfl | rfl <;> k_ne
    rcases List.mem_cons.mp hp with rfl | hp
    · rcases hq' with rfl | rfl | rfl <;> k_ne
    rcases List.mem_cons.mp hp with rfl | hp
    · rcases hq' with rfl | rfl | rfl <;> k_ne
    rcases List.mem_cons.mp hp with rfl | hp
    · rcases hq' with rfl | rfl | rfl <;> k_ne
    rcases List.mem_cons.mp hp with rfl | hp
    · rcases hq' with rfl | rfl | rfl <;> k_ne
    rcases List.mem_cons.mp hp with rfl | hp
    · rcases hq' with rfl | rfl | rfl <;> k_ne
    rcases hq' with rfl | rfl | rfl
    · exact i1 p hp
    · exact i2 p hp
    · exact i3 p hp
  · exact mem_cons (by k_mem) (mem_cons (by k_mem) (mem_cons (by k_mem) (mem_cons (by k_mem) (mem_cons (by k_mem) (mem_cons (by k_mem) (mem_cons (by k_mem) (mem_cons (by k_mem) (mem_cons (by k_mem) (mem_cons (by k_mem) (mem_cons (by k_mem) (mem_cons (by k_mem) (mem_cons (by k_mem) (mem_cons (by k_mem) (mem_cons (by k_mem) (fun p hp => .tail _ (.tail _ (.tail _ (.tail _ (.tail _ (.tail _ (.tail _ (.tail _ (.tail _ (.tail _ (.tail _ (.tail _ (.tail _ (.tail _ (.tail _ hp)))))))))))))))))))))))))))))
  · intro h' tks tp ol' tb' ct u3' F' N' d' l'
    refine h h' tks tp ol' tb' ct u3' F' (news_of N' ?_) d' l'.2.2.2.2.1 l'.2.2.2.2.2.2.2.2.2.2.2.2.2.2.2
    exact mem_cons (by k_mem) (mem_cons (by k_mem) (mem_cons (by k_mem) (mem_cons (by k_mem) (mem_cons (by k_mem) (mem_cons (by k_mem) (mem_cons (by k_mem) (mem_cons (by k_mem) (mem_cons (by k_mem) (mem_cons (by k_mem) (mem_cons (by k_mem) (mem_cons (by k_mem) (mem_cons (by k_mem) (mem_cons (by k_mem) (mem_cons (by k_mem) (mem_cons (by k_mem) (fun p hp => .tail _ (.tail _ (.tail _ (.tail _ (.tail _ (.tail _ (.tail _ (.tail _ (.tail _ (.tail _ (.tail _ (.tail _ (.tail _ (.tail _ (.tail _ (.tail _ hp)))))))))))))))))))))))))))))))
/-- the power goes, in the turn's own ledger -/
theorem crash_turn {w : World} {mean : ExcName → Option Value} {mg mb : Str → Option Value} {oz : List (Addr × Obj)} {t1 t2 t3 t4 t5 t6 t7 t8 t9 t10 u1 u2 u3 u4 u5 : Tok} {size wr last n : Int} {lam c' D l I bl un lt kd x dx L3 L2 L1 pen scr : Nat} {oc zD zl zI zb zu zk oO oN oD zp zs zt ol : Obj} {tn : Tok} {b : Array UInt8} {tb : Tok} {qual : Str} {pm ctv : Value} {vs : Array Value} {tq : Tok}
    {dp un9 : Nat} {gd : Option (List Code)} {cn : Str} {cs : Scope} {a : Addr} {ccd : Value} {cl : List (Str × Addr)} {outer : List Env} {A₀ : Around} {base h₀ : Heap} {L : Addr} {m : Str → Option Value} {s : Shared} {Q E : Value → Shared → Prop}
    (B : Below A₀ base outer h₀) (F : Fr h₀ L s.heap m) (X : (hd.heap_1 w.params).In h₀) (Y : KX w base) (XB : (hd.heap_1 w.params).In base) (TB : Top topProg LO mean mg mb base) (T : Top topProg LO mean mg mb h₀) (D9 : KtsDicts (frs outer) h₀) (hk : cs.kind = .function) (hd : dp + 5 < 350) (hu : un9 + 40 < 300)
    (N : News h₀ L s.heap ((lam, kla_obj "<lambda>" qual noArgs lamBody2 lamScope [("octets", L3), ("number", L2), ("disk", L1)] pm c' ctv) :: (c', oc) :: (D, zD) :: (l, zl) :: (I, zI) :: (bl, zb) :: (un, zu) :: (lt, ol) :: (kd, zk) :: (x, instObj 302 dx) :: (dx, diskD w t1 t2 t3 t4 t5 t6 t7 t8 t9 t10 u1 u2 u3 u4 u5 size wr last kd lt un false) :: (L3, oO) :: (L2, oN) :: (L1, oD) :: (pen, zp) :: (scr, zs) :: (343, zt) :: oz))
    (hc : 343 < scr ∧ scr < pen ∧ pen < L1 ∧ L1 < L2 ∧ L2 < L3 ∧ L3 < dx ∧ dx < x ∧ x < kd ∧ kd < lt ∧ lt < un ∧ un < bl ∧ bl < I ∧ I < l ∧ l < D ∧ D < c' ∧ c' < lam) (hoz : OwnOff oz [343, pen, L2, L3, dx, lt, un, bl])
    (hoc : oc.data = .fields vs) (hvs : vs[1]? = some (.str qual tq)) (hD : oD.data = .cell (some (.ref x))) (hN : oN.data = .cell (some (.int n tn))) (hO : oO.data = .cell (some (.bytes b tb))) (hs0 : 1 ≤ size) (hs1 : size ≤ 4) (n0 : 0 ≤ n) (n1 : n < 2) (hbz : (b.size : Int) = size) (hw0 : 0 ≤ wr) (hw1 : wr < 3) (hlw : last ≤ wr)
    (h : ∀ h₁ h' tk', KtsTurn (frs outer) h₀ h₁ → Fr h₁ L h' m → News h₁ L h' ((c', oc) :: (D, zD) :: (l, zl) :: (I, zI) :: (bl, zb) :: (un, zu) :: (lt, ol) :: (kd, zk) :: (x, instObj 302 dx) :: (dx, diskD w t1 t2 t3 t4 t5 t6 t7 t8 t9 t10 u1 u2 u3 u4 u5 size wr last kd lt un true) :: (L3, oO) :: (L2, oN) :: (L1, oD) :: (pen, zp) :: (scr, zs) :: (343, zt) :: oz) → Below A₀ base outer h₁ → (Mine.hd.heap_1 w.params).In h₁ → Top topProg LO mean mg mb h₁ → KtsDicts (frs outer) h₁ → Q (.bool true) { s with heap := h', toks := tk' }) :
    wpAny (model Challenge.rw_pq0901_01.row.prog w) (ktrTop dp un9 gd cn cs L a ccd cl outer) (call (.ref 334) [.ref lam, .ref 102]) Q E s := by
  obtain ⟨c1, c2, c3, c4, c5, c6, c7, c8, c9, c10, c11, c12, c13, c14, c15, c16⟩ := hc
  have A1 : AL scr [343] := AL.step AL.nil c1
  have A2 := AL.step A1 c2
  have A3 := AL.step A2 c3
  have A4 := AL.step A3 c4
  have A5 := AL.step A4 c5
  have A6 := AL.step A5 c6
  have A7 := AL.step A6 c7
  have A8 := AL.step A7 c8
  have A9 := AL.step A8 c9
  have A10 := AL.step A9 c10
  have A11 := AL.step A10 c11
  have A12 := AL.step A11 c12
  have A13 := AL.step A12 c13
  have A14 := AL.step A13 c14
  have A15 := AL.step A14 c15
  have A16 := AL.step A15 c16
  have i1 := off_of hoz (b := dx) (by simp)
  refine refused_crash (x := x) (dx := dx) (g := fun o => (c', oc) :: (D, zD) :: (l, zl) :: (I, zI) :: (bl, zb) :: (un, zu) :: (lt, ol) :: (kd, zk) :: (x, instObj 302 dx) :: (dx, o) :: (L3, oO) :: (L2, oN) :: (L1, oD) :: (pen, zp) :: (scr, zs) :: (343, zt) :: oz) B F X Y XB TB T D9 hk hd hu N ?_ (by k_mem) (by k_mem) (by k_mem) (by k_mem) (by k_mem) (by refine ⟨?_, ?_, ?_, ?_, ?_, ?_⟩ <;> k_ne) hoc hvs hD hN hO hs0 hs1 n0 n1 hbz hw0 hw1 hlw h
  refine UpdF.tail (by k_ne) (UpdF.tail (by k_ne) (UpdF.tail (by k_ne) (UpdF.tail (by k_ne) (UpdF.tail (by k_ne) (UpdF.tail (by k_ne) (UpdF.tail (by k_ne) (UpdF.tail (by k_ne) (UpdF.tail (by k_ne) (UpdF.head ?_)))))))))
  refine List.forall_mem_cons.mpr ⟨by k_ne, List.forall_mem_cons.mpr ⟨by k_ne, List.forall_mem_cons.mpr ⟨by k_ne, List.forall_mem_cons.mpr ⟨by k_ne, List.forall_mem_cons.mpr ⟨by k_ne, List.forall_mem_cons.mpr ⟨by k_ne, i1⟩⟩⟩⟩⟩⟩
end Mine
end
section
open PySem PySem.W PyProof.Rows PySem.Calls PySem.Spec
set_option linter.unusedVariables false
set_option maxRecDepth 100000
namespace Mine
theorem own_ne {own : List (Addr × Obj)} {a b : Nat} (h : ∀ p ∈ own, @LT.lt Nat _ p.1 a) (hb : a ≤ b) : ∀ p ∈ own, p.1 ≠ b := fun p hp => Nat.ne_of_lt (Nat.lt_of_lt_of_le (h p hp) hb)
theorem own_lt {pen scr t : Addr × Obj} {own : List (Addr × Obj)} {L : Nat} (h : ∀ p ∈ pen :: scr :: t :: own, @LT.lt Nat _ p.1 L) : ∀ p ∈ own, @LT.lt Nat _ p.1 L := fun p hp => h p (.tail _ (.tail _ (.tail _ hp)))
theorem TabIs.mono {ps : Array Value} {pos : Pos} {qual : Str} {l l' : List (Addr × Obj)} (h : TabIs ps pos qual l) (hs : ∀ p ∈ l, p ∈ l') : TabIs ps pos qual l' := by
  rcases h with h | ⟨cc, co, vs, t, e, hm, hd, hv⟩
  · exact .inl h
  · exact .inr ⟨cc, co, vs, t, e, hs _ hm, hd, hv⟩
abbrev pos1 : Pos := { line := 240, col := 35, endLine := 240, endCol := 69 }
abbrev qualL : Str := (Str.ofString "_law_disk_right" ++ Str.ofString ".<locals>.") ++ Str.ofString "<lambda>"
abbrev zer (size : Int) : Array UInt8 := Array.replicate size.toNat 0
abbrev mapD (pen bl : Nat) (size left done : Int) (ts tl td : Tok) : Str → Option Value := fun y =>
  if y = Str.ofString "done" then some (.int done td) else if y = Str.ofString "left" then some (.int left tl) else if y = Str.ofString "blocks" then some (.ref bl) else if y = Str.ofString "size" then some (.int size ts) else if y = Str.ofString "pen" then some (.ref pen) else none
/-- what stands between the turns -/
inductive DiskInv (w : World) (mean : ExcName → Option Value) (mg mb : Str → Option Value) (A₁ : Around) (base : Heap) (outer : List Env) (gs : Heap) (L pen scr x dx kd lt un bl : Nat) (vs : List Value) (nl : Nat) (size left last : Int) (ts tl : Tok) (own : List (Addr × Obj)) (i : Nat) (g : Heap) (m : Str → Option Value) (news : List (Addr × Obj)) : Prop
  | intro (k e done : Int) (tk te td : Tok) (ws : List (Addr × Int × Array UInt8)) (kvs : List (Int × Value)) (ol ok oD oN oO : Obj) (tb0 tb1 : Tok) (ni nb : Nat) (t1 t2 t3 t4 t5 t6 t7 t8 t9 t10 u1 u2 u3 u4 u5 : Tok) (ps : Array Value) (vN vO : Option Value) (oz : List (Addr × Obj))
    (hn : news = (bl, W.listOf #[.bytes (blkOf (zer size) 0 ws) tb0, .bytes (blkOf (zer size) 1 ws) tb1] nb) :: (un, W.listOf (ws.map fun q => Value.ref q.1).toArray ni) :: (lt, ol) :: (kd, ok) :: (x, instObj 302 dx) :: (dx, diskD w t1 t2 t3 t4 t5 t6 t7 t8 t9 t10 u1 u2 u3 u4 u5 size done last kd lt un false) ::
      (L + 1 + 1 + 1, oO) :: (L + 1 + 1, oN) :: (L + 1, oD) :: (pen, W.listOf #[.int k tk, .int e te, .ref scr] nl) :: (scr, W.listOf vs.toArray 0) :: (343, tabObj ps) :: oz)
    (hm9 : (∀ y, y ≠ Str.ofString "turn" → m y = mapD pen bl size left done ts tl td y))
    (hT9 : KtsTurn (frs outer) gs g)
    (B9 : Below A₁ base outer g)
    (X9 : (hd.heap_1 w.params).In g)
    (P9 : Top topProg LO mean mg mb g)
    (D9 : KtsDicts (frs outer) g)
    (hown9 : (∀ p ∈ own, p ∈ oz))
    (hoff9 : OwnOff oz [343, pen, L + 1 + 1, L + 1 + 1 + 1, dx, lt, un, bl])
    (d0 : 0 ≤ done)
    (d1 : done ≤ left)
    (hws : (ws.length : Int) = done)
    (hwb : (∀ q ∈ ws, 0 ≤ q.2.1 ∧ q.2.1 < 2 ∧ q.2.2.size = size.toNat))
    (hwt : (∀ q ∈ ws, ∃ tn tb ct, (q.1, ({ cls := .type "tuple", data := .seq #[.int q.2.1 tn, .bytes q.2.2 tb] ct } : Obj)) ∈ oz))
    (hol : ol.IsDictOf (intKind Challenge.rw_pq0901_01.row.prog w) kvs)
    (hkl : kvs.length ≤ ws.length)
    (hb0 : Blk kvs 0 (zer size) (blkOf (zer size) 0 ws))
    (hb1 : Blk kvs 1 (zer size) (blkOf (zer size) 1 ws))
    (hz0 : (blkOf (zer size) 0 ws).size = size.toNat)
    (hz1 : (blkOf (zer size) 1 ws).size = size.toNat)
    (hok : ok.IsDictOf (intKind Challenge.rw_pq0901_01.row.prog w) [])
    (hD9 : oD.data = .cell (some (.ref x)))
    (hN9 : oN.data = .cell vN)
    (hO9 : oO.data = .cell vO)
    (htab : TabIs ps pos1 qualL oz)
    (k0 : 0 ≤ k)
    (k1 : k ≤ 2 + 4 * (i : Int))
    (e0 : 0 ≤ e)
    (e1 : e ≤ 2 + 4 * (i : Int)) :
    DiskInv w mean mg mb A₁ base outer gs L pen scr x dx kd lt un bl vs nl size left last ts tl own i g m news
theorem if_size {P : Prop} [Decidable P] {b c : Array UInt8} {size : Int} (h1 : (Array.size c : Int) = size) (h2 : b.size = size.toNat) : (if P then c else b).size = size.toNat := by
  by_cases h : P
  · rw [if_pos h]; omega
  · rw [if_neg h]; exact h2
theorem len_snoc {ws : List (Addr × Int × Array UInt8)} {v : Value} {done : Int} (h : (ws.length : Int) = done) : (((ws.map fun q => Value.ref q.1) ++ [v]).length : Int) = done + 1 := by
  simp; omega
theorem turns_disk {w : World} {mean : ExcName → Option Value} {mg mb : Str → Option Value} {A A₁ : Around} {E : Value → Shared → Prop} {s : Shared} {env : Env} {px : Pos} {body : List Stmt} {Q : Flow → Shared → Prop} {base : Heap} {outer : List Env} {gs : Heap} {L : Nat} (hL : env.locals = L) {pen scr x dx kd lt un bl Dt : Nat} {to ol ok oO oN oD : Obj}
    {vs : List Value} {nl ni nb : Nat} {size left last k e : Int} {ts tl td tk te tb0 tb1 : Tok} {z0 z1 : Array UInt8} {own : List (Addr × Obj)} {r : Addr} {t₀ u₀ v₀ : Tok} {mp : Str → Option Value} {t1 t2 t3 t4 t5 t6 t7 t8 t9 t10 u1 u2 u3 u4 u5 : Tok}
    (N : News gs L s.heap ((Dt, to) :: (bl, W.listOf #[.bytes z0 tb0, .bytes z1 tb1] nb) :: (un, W.listOf (([] : List (Addr × Int × Array UInt8)).map fun q => Value.ref q.1).toArray ni) :: (lt, ol) :: (kd, ok) :: (x, instObj 302 dx) :: (dx, diskD w t1 t2 t3 t4 t5 t6 t7 t8 t9 t10 u1 u2 u3 u4 u5 size 0 last kd lt un false) ::
      (L + 1 + 1 + 1, oO) :: (L + 1 + 1, oN) :: (L + 1, oD) :: (pen, W.listOf #[.int k tk, .int e te, .ref scr] nl) :: (scr, W.listOf vs.toArray 0) :: (343, tabObj #[]) :: own))
    (F : Fr gs L s.heap (fun y => if y = Str.ofString "left" then some (.int left tl) else if y = Str.ofString "done" then some (.int 0 td) else if y = Str.ofString "blocks" then some (.ref bl) else if y = Str.ofString "size" then some (.int size ts) else mp y))
    (hh : A.handled = none) (hx : env.kindOf "turn" = some .local) (hp : (env.scope.kind == .class || (env.scope.kind == .module && env.locals != env.globals)) = false)
    (hr : IsRange s.heap r 0 ((5 : Nat) : Int) 1 t₀ u₀ v₀)
    (start : (∀ y, mp y = if y = Str.ofString "pen" then some (.ref pen) else none) → DiskInv w mean mg mb A₁ base outer gs L pen scr x dx kd lt un bl vs nl size left last ts tl own 0 gs (fun y => if y = Str.ofString "left" then some (.int left tl) else if y = Str.ofString "done" then some (.int 0 td) else if y = Str.ofString "blocks" then some (.ref bl) else if y = Str.ofString "size" then some (.int size ts) else mp y)
      ((bl, W.listOf #[.bytes z0 tb0, .bytes z1 tb1] nb) :: (un, W.listOf (([] : List (Addr × Int × Array UInt8)).map fun q => Value.ref q.1).toArray ni) :: (lt, ol) :: (kd, ok) :: (x, instObj 302 dx) :: (dx, diskD w t1 t2 t3 t4 t5 t6 t7 t8 t9 t10 u1 u2 u3 u4 u5 size 0 last kd lt un false) ::
      (L + 1 + 1 + 1, oO) :: (L + 1 + 1, oN) :: (L + 1, oD) :: (pen, W.listOf #[.int k tk, .int e te, .ref scr] nl) :: (scr, W.listOf vs.toArray 0) :: (343, tabObj #[]) :: own))
    (hmp : ∀ y, mp y = if y = Str.ofString "pen" then some (.ref pen) else none)
    (hord : 343 < scr ∧ scr < pen ∧ pen < L ∧ L + 3 < dx ∧ dx < x ∧ x < kd ∧ kd < lt ∧ lt < un ∧ un < bl)
    (step : 343 < scr ∧ scr < pen ∧ pen < L ∧ L + 3 < dx ∧ dx < x ∧ x < kd ∧ kd < lt ∧ lt < un ∧ un < bl → ∀ I : Addr, (∀ p ∈ (bl, W.listOf #[.bytes z0 tb0, .bytes z1 tb1] nb) :: (un, W.listOf (([] : List (Addr × Int × Array UInt8)).map fun q => Value.ref q.1).toArray ni) :: (lt, ol) :: (kd, ok) :: (x, instObj 302 dx) :: (dx, diskD w t1 t2 t3 t4 t5 t6 t7 t8 t9 t10 u1 u2 u3 u4 u5 size 0 last kd lt un false) ::
      (L + 1 + 1 + 1, oO) :: (L + 1 + 1, oN) :: (L + 1, oD) :: (pen, W.listOf #[.int k tk, .int e te, .ref scr] nl) :: (scr, W.listOf vs.toArray 0) :: (343, tabObj #[]) :: own, @LT.lt Nat _ p.1 I) → ∀ (i : Nat) g m news h tk t, i < 5 → Fr g L h (fun y => if y = Str.ofString "turn" then some (.int (i : Int) t) else m y) → News g L h ((I, itR ((i + 1 : Nat) : Int) (((5 : Nat) : Int) - ((i + 1 : Nat) : Int))) :: news) → (∀ p ∈ news, p.1 ≠ I) → DiskInv w mean mg mb A₁ base outer gs L pen scr x dx kd lt un bl vs nl size left last ts tl own i g m news →
      wpAny (model Challenge.rw_pq0901_01.row.prog w) A (execs body env) (TurnPostT L I (itR ((i + 1 : Nat) : Int) (((5 : Nat) : Int) - ((i + 1 : Nat) : Int))) (DiskInv w mean mg mb A₁ base outer gs L pen scr x dx kd lt un bl vs nl size left last ts tl own (i + 1)) { s with heap := h, toks := tk } Q) E { s with heap := h, toks := tk })
    (done : ∀ g m news h tk, Fr g L h m → News g L h news → DiskInv w mean mg mb A₁ base outer gs L pen scr x dx kd lt un bl vs nl size left last ts tl own 5 g m news → Q .next { s with heap := h, toks := tk })
    (hE : PassesOwn (model Challenge.rw_pq0901_01.row.prog w) A env E := by passes_own) :
    wpAny (model Challenge.rw_pq0901_01.row.prog w) A (pyIter (.ref r)) (fun it s₂ => TurnsAt Challenge.rw_pq0901_01.row.prog w A env (Str.ofString "turn") px body Q E it s₂) E s := by
  subst hL
  exact turns_range (n := 5) (DiskInv w mean mg mb A₁ base outer gs env.locals pen scr x dx kd lt un bl vs nl size left last ts tl own) hh hx hp hr (by decide) (by decide) F (kti_tail N) (fun _ _ => start hmp) (step hord) done hE
theorem end_good {w : World} {mean : ExcName → Option Value} {mg mb : Str → Option Value} {A₁ : Around} {base : Heap} {outer : List Env} {gs : Heap} {L pen scr x dx kd lt un bl : Nat} {vs : List Value} {nl : Nat} {size left last : Int} {ts tl : Tok} {own : List (Addr × Obj)} {i : Nat} {g1 : Heap} {s₁ : Shared} {h' : Heap} {tk0 : Nat} {I : Nat} {itO : Obj} {k' e' done n : Int} {tk' te' td td' tt9 tn tb'' : Tok} {ws : List (Addr × Int × Array UInt8)} {kvs : List (Int × Value)} {ol' ok oD oN oO : Obj} {tb0 tb1 : Tok} {ni nb ct : Nat} {t1 t2 t3 t4 t5 t6 t7 t8 t9 t10 u1 u2 u3 u4 u5 : Tok} {ps : Array Value} {vN vO : Option Value} {oz : List (Addr × Obj)} {b : Array UInt8} {ob ou olt okk ox odx o3 o2 o1 op os ot zD2 zD zl : Obj} {D2 tp D l : Nat}
    (F : Fr g1 L h' (fun y => if y = Str.ofString "done" then some (.int (done + 1) td') else if y = Str.ofString "turn" then some (.int (i : Int) tt9) else mapD pen bl size left done ts tl td y))
    (N : News g1 L h' ((D2, zD2) :: (tp, { cls := .type "tuple", data := .seq #[.int n tn, .bytes b tb''] ct }) :: (D, zD) :: (l, zl) :: (I, itO) :: (bl, W.listOf #[.bytes (if (0 : Int) = n then b else blkOf (zer size) 0 ws) tb0, .bytes (if (1 : Int) = n then b else blkOf (zer size) 1 ws) tb1] nb) :: (un, W.listOf ((ws.map fun q => Value.ref q.1) ++ [Value.ref tp]).toArray ni) :: (lt, ol') :: (kd, ok) :: (x, instObj 302 dx) :: (dx, diskD w t1 t2 t3 t4 t5 t6 t7 t8 t9 t10 u1 u2 u3 u4 u5 size (done + 1) last kd lt un false) :: (L + 1 + 1 + 1, oO) :: (L + 1 + 1, oN) :: (L + 1, oD) :: (pen, W.listOf #[.int k' tk', .int e' te', .ref scr] nl) :: (scr, W.listOf vs.toArray 0) :: (343, tabObj ps) :: oz))
    (hT9 : KtsTurn (frs outer) gs g1) (B9 : Below A₁ base outer g1) (X9 : (hd.heap_1 w.params).In g1) (P9 : Top topProg LO mean mg mb g1) (D9 : KtsDicts (frs outer) g1) (hown9 : ∀ p ∈ own, p ∈ oz) (hoff9 : OwnOff oz [343, pen, L + 1 + 1, L + 1 + 1 + 1, dx, lt, un, bl])
    (d0 : 0 ≤ done) (d1 : done ≤ left) (hws : (ws.length : Int) = done) (hwb : (∀ q ∈ ws, 0 ≤ q.2.1 ∧ q.2.1 < 2 ∧ q.2.2.size = size.toNat))
    (hwt : (∀ q ∈ ws, ∃ tn tb ct, (q.1, ({ cls := .type "tuple", data := .seq #[.int q.2.1 tn, .bytes q.2.2 tb] ct } : Obj)) ∈ oz)) (hkl : kvs.length ≤ ws.length)
    (hb0 : Blk kvs 0 (zer size) (blkOf (zer size) 0 ws)) (hb1 : Blk kvs 1 (zer size) (blkOf (zer size) 1 ws)) (hz0 : (blkOf (zer size) 0 ws).size = size.toNat) (hz1 : (blkOf (zer size) 1 ws).size = size.toNat)
    (hok : ok.IsDictOf (intKind Challenge.rw_pq0901_01.row.prog w) []) (hD9 : oD.data = .cell (some (.ref x))) (hN9 : oN.data = .cell vN) (hO9 : oO.data = .cell vO) (htab : TabIs ps pos1 qualL oz)
    (k0 : 0 ≤ k') (k1 : k' ≤ 2 + 4 * ((i + 1 : Nat) : Int)) (e0 : 0 ≤ e') (e1 : e' ≤ 2 + 4 * ((i + 1 : Nat) : Int))
    (hord : 343 < scr ∧ scr < pen ∧ pen < L ∧ L + 3 < dx ∧ dx < x ∧ x < kd ∧ kd < lt ∧ lt < un ∧ un < bl ∧ bl < I)
    (off9 : ∀ p ∈ (bl, ob) :: (un, ou) :: (lt, olt) :: (kd, okk) :: (x, ox) :: (dx, odx) :: (L + 1 + 1 + 1, o3) :: (L + 1 + 1, o2) :: (L + 1, o1) :: (pen, op) :: (scr, os) :: (343, ot) :: oz, p.1 ≠ I)
    (hne : done ≠ left) (n0 : 0 ≤ n) (n1 : n < 2) (hbz : (b.size : Int) = size) (hst : ol'.IsDictOf (intKind Challenge.rw_pq0901_01.row.prog w) (stored kvs n (.bytes b tb''))) (hId : I < l ∧ l < D ∧ D < tp) :
    TurnEndT L I itO (DiskInv w mean mg mb A₁ base outer gs L pen scr x dx kd lt un bl vs nl size left last ts tl own (i + 1)) s₁ { s₁ with heap := h', toks := tk0 } := by
  obtain ⟨c1, c2, c3, c4, c5, c6, c7, c8, c9, c10⟩ := hord
  have A1 : AL scr [343] := AL.step AL.nil c1
  have A2 := AL.step A1 c2
  have A3 := AL.step A2 c3
  have A4 := AL.cells A3 c4
  have A5 := AL.step A4 c5
  have A6 := AL.step A5 c6
  have A7 := AL.step A6 c7
  have A8 := AL.step A7 c8
  have A9 := AL.step A8 c9
  have A10 := AL.step A9 c10
  have A11 := AL.step A10 hId.1
  have A12 := AL.step A11 hId.2.1
  have A13 := AL.step A12 hId.2.2
  have f0 : (if (0 : Int) = n then b else blkOf (zer size) 0 ws) = blkOf (zer size) 0 (ws ++ [(tp, n, b)]) := (blkOf_snoc (zer size) 0 ws (tp, n, b)).symm
  have f1 : (if (1 : Int) = n then b else blkOf (zer size) 1 ws) = blkOf (zer size) 1 (ws ++ [(tp, n, b)]) := (blkOf_snoc (zer size) 1 ws (tp, n, b)).symm
  have f2 : (ws.map fun q => Value.ref q.1) ++ [Value.ref tp] = (ws ++ [(tp, n, b)]).map fun q => Value.ref q.1 := by simp
  have y0 : Blk (stored kvs n (.bytes b tb'')) 0 (zer size) (blkOf (zer size) 0 (ws ++ [(tp, n, b)])) := f0 ▸ hb0.stored
  have y1 : Blk (stored kvs n (.bytes b tb'')) 1 (zer size) (blkOf (zer size) 1 (ws ++ [(tp, n, b)])) := f1 ▸ hb1.stored
  have y2 : (blkOf (zer size) 0 (ws ++ [(tp, n, b)])).size = size.toNat := f0 ▸ if_size hbz hz0
  have y3 : (blkOf (zer size) 1 (ws ++ [(tp, n, b)])).size = size.toNat := f1 ▸ if_size hbz hz1
  rw [f0, f1, f2] at N
  refine TurnEndT.intro F (news' := (bl, W.listOf #[.bytes (blkOf (zer size) 0 (ws ++ [(tp, n, b)])) tb0, .bytes (blkOf (zer size) 1 (ws ++ [(tp, n, b)])) tb1] nb) :: (un, W.listOf ((ws ++ [(tp, n, b)]).map fun q => Value.ref q.1).toArray ni) :: (lt, ol') :: (kd, ok) :: (x, instObj 302 dx) :: (dx, diskD w t1 t2 t3 t4 t5 t6 t7 t8 t9 t10 u1 u2 u3 u4 u5 size (done + 1) last kd lt un false) :: (L + 1 + 1 + 1, oO) :: (L + 1 + 1, oN) :: (L + 1, oD) :: (pen, W.listOf #[.int k' tk', .int e' te', .ref scr] nl) :: (scr, W.listOf vs.toArray 0) :: (343, tabObj ps) :: (tp, { cls := .type "tuple", data := .seq #[.int n tn, .bytes b tb''] ct }) :: oz)
    (news_of N (mem_cons (by k_mem) (mem_cons (by k_mem) (mem_cons (by k_mem) (mem_cons (by k_mem) (mem_cons (by k_mem) (mem_cons (by k_mem) (mem_cons (by k_mem) (mem_cons (by k_mem) (mem_cons (by k_mem) (mem_cons (by k_mem) (mem_cons (by k_mem) (mem_cons (by k_mem) (mem_cons (by k_mem) (fun p hp => by rcases List.mem_cons.mp hp with rfl | hp; exact .tail _ (.head _); exact .tail _ (.tail _ (.tail _ (.tail _ (.tail _ (.tail _ (.tail _ (.tail _ (.tail _ (.tail _ (.tail _ (.tail _ (.tail _ (.tail _ (.tail _ (.tail _ (.tail _ hp))))))))))))))))))))))))))))))) ?_
    (DiskInv.intro k' e' (done + 1) tk' te' td' (ws ++ [(tp, n, b)]) (stored kvs n (.bytes b tb'')) ol' ok oD oN oO tb0 tb1 ni nb t1 t2 t3 t4 t5 t6 t7 t8 t9 t10 u1 u2 u3 u4 u5 ps vN vO ((tp, { cls := .type "tuple", data := .seq #[.int n tn, .bytes b tb''] ct }) :: oz) rfl ?hm9 hT9 B9 X9 P9 D9 (fun p hp => .tail _ (hown9 p hp)) ?hoff9 (by omega) (by omega) (by simp; omega) ?hwb ?hwt hst ?hkl y0 y1 y2 y3 hok hD9 hN9 hO9 (htab.mono fun p hp => .tail _ hp) k0 k1 e0 e1)
  · intro p hp
    rcases List.mem_cons.mp hp with rfl | hp
    · exact off9 (bl, ob) (by k_mem)
    rcases List.mem_cons.mp hp with rfl | hp
    · exact off9 (un, ou) (by k_mem)
    rcases List.mem_cons.mp hp with rfl | hp
    · exact off9 (lt, olt) (by k_mem)
    rcases List.mem_cons.mp hp with rfl | hp
    · exact off9 (kd, okk) (by k_mem)
    rcases List.mem_cons.mp hp with rfl | hp
    · exact off9 (x, ox) (by k_mem)
    rcases List.mem_cons.mp hp with rfl | hp
    · exact off9 (dx, odx) (by k_mem)
    rcases List.mem_cons.mp hp with rfl | hp
    · exact off9 (L + 1 + 1 + 1, o3) (by k_mem)
    rcases List.mem_cons.mp hp with rfl | hp
    · exact off9 (L + 1 + 1, o2) (by k_mem)
    rcases List.mem_cons.mp hp with rfl | hp
    · exact off9 (L + 1, o1) (by k_mem)
    rcases List.mem_cons.mp hp with rfl | hp
    · exact off9 (pen, op) (by k_mem)
    rcases List.mem_cons.mp hp with rfl | hp
    · exact off9 (scr, os) (by k_mem)
    rcases List.mem_cons.mp hp with rfl | hp
    · exact off9 (343, ot) (by k_mem)
    rcases List.mem_cons.mp hp with rfl | hp
    · k_ne
    · exact off9 p (.tail _ (.tail _ (.tail _ (.tail _ (.tail _ (.tail _ (.tail _ (.tail _ (.tail _ (.tail _ (.tail _ (.tail _ hp))))))))))))
  case hm9 =>
    intro y hy
    by_cases hd : y = Str.ofString "done"
    · simp only [mapD, if_pos hd]
    · simp only [mapD, if_neg hd, if_neg hy]
  case hoff9 =>
    intro p hp q hq
    rcases List.mem_cons.mp hp with rfl | hp
    · have hq' : q = 343 ∨ q = pen ∨ q = L + 1 + 1 ∨ q = L + 1 + 1 + 1 ∨ q = dx ∨ q = lt ∨ q = un ∨ q = bl := by simpa using hq
      rcases hq' with rfl | rfl | rfl | rfl | rfl | rfl | rfl | rfl <;> k_ne
    · exact hoff9 p hp q hq
  case hwb =>
    intro q hq
    rcases List.mem_append.mp hq with hq | hq
    · exact hwb q hq
    · rw [List.mem_singleton.mp hq]
      exact ⟨n0, n1, by dsimp only; omega⟩
  case hwt =>
    intro q hq
    rcases List.mem_append.mp hq with hq | hq
    · obtain ⟨a, b', c, h⟩ := hwt q hq
      exact ⟨a, b', c, .tail _ h⟩
    · rw [List.mem_singleton.mp hq]
      exact ⟨tn, tb'', ct, .head _⟩
  case hkl =>
    have := stored_length kvs n (.bytes b tb'')
    simp; omega
theorem end_bad {w : World} {mean : ExcName → Option Value} {mg mb : Str → Option Value} {A₁ : Around} {base : Heap} {outer : List Env} {gs : Heap} {L pen scr x dx kd lt un bl : Nat} {vs : List Value} {nl : Nat} {size left last : Int} {ts tl : Tok} {own : List (Addr × Obj)} {i : Nat} {g g1 : Heap} {s₁ : Shared} {h' : Heap} {tk0 : Nat} {I : Nat} {itO : Obj} {k' e' done : Int} {tk' te' td tt9 : Tok} {ws : List (Addr × Int × Array UInt8)} {kvs : List (Int × Value)} {ol ok oD oN oO : Obj} {tb0 tb1 : Tok} {ni nb : Nat} {t1 t2 t3 t4 t5 t6 t7 t8 t9 t10 u1 u2 u3 u4 u5 : Tok} {ps : Array Value} {vN vO : Option Value} {oz : List (Addr × Obj)} {ob ou olt okk ox odx o3 o2 o1 op os ot zl zt : Obj} {tp l c' : Nat} {oc : Obj} {vq : Array Value} {tq : Tok}
    (T1 : KtsTurn (frs outer) g g1)
    (F : Fr g1 L h' (fun y => if y = Str.ofString "turn" then some (.int (i : Int) tt9) else mapD pen bl size left done ts tl td y))
    (N : News g1 L h' ((c', oc) :: (tp, zt) :: (l, zl) :: (I, itO) :: (bl, W.listOf #[.bytes (blkOf (zer size) 0 ws) tb0, .bytes (blkOf (zer size) 1 ws) tb1] nb) :: (un, W.listOf (ws.map fun q => Value.ref q.1).toArray ni) :: (lt, ol) :: (kd, ok) :: (x, instObj 302 dx) :: (dx, diskD w t1 t2 t3 t4 t5 t6 t7 t8 t9 t10 u1 u2 u3 u4 u5 size done last kd lt un false) :: (L + 1 + 1 + 1, oO) :: (L + 1 + 1, oN) :: (L + 1, oD) :: (pen, W.listOf #[.int k' tk', .int e' te', .ref scr] nl) :: (scr, W.listOf vs.toArray 0) :: (343, tabObj #[rawInt pos1.line, rawInt pos1.col, .ref c']) :: oz))
    (hT9 : KtsTurn (frs outer) gs g) (B9 : Below A₁ base outer g1) (X9 : (hd.heap_1 w.params).In g1) (P9 : Top topProg LO mean mg mb g1) (D9 : KtsDicts (frs outer) g1) (hown9 : ∀ p ∈ own, p ∈ oz) (hoff9 : OwnOff oz [343, pen, L + 1 + 1, L + 1 + 1 + 1, dx, lt, un, bl])
    (d0 : 0 ≤ done) (d1 : done ≤ left) (hws : (ws.length : Int) = done) (hwb : (∀ q ∈ ws, 0 ≤ q.2.1 ∧ q.2.1 < 2 ∧ q.2.2.size = size.toNat))
    (hwt : (∀ q ∈ ws, ∃ tn tb ct, (q.1, ({ cls := .type "tuple", data := .seq #[.int q.2.1 tn, .bytes q.2.2 tb] ct } : Obj)) ∈ oz)) (hkl : kvs.length ≤ ws.length)
    (hb0 : Blk kvs 0 (zer size) (blkOf (zer size) 0 ws)) (hb1 : Blk kvs 1 (zer size) (blkOf (zer size) 1 ws)) (hz0 : (blkOf (zer size) 0 ws).size = size.toNat) (hz1 : (blkOf (zer size) 1 ws).size = size.toNat)
    (hok : ok.IsDictOf (intKind Challenge.rw_pq0901_01.row.prog w) []) (hD9 : oD.data = .cell (some (.ref x))) (hN9 : oN.data = .cell vN) (hO9 : oO.data = .cell vO) (htab : TabIs ps pos1 qualL oz)
    (k0 : 0 ≤ k') (k1 : k' ≤ 2 + 4 * ((i + 1 : Nat) : Int)) (e0 : 0 ≤ e') (e1 : e' ≤ 2 + 4 * ((i + 1 : Nat) : Int))
    (hord : 343 < scr ∧ scr < pen ∧ pen < L ∧ L + 3 < dx ∧ dx < x ∧ x < kd ∧ kd < lt ∧ lt < un ∧ un < bl ∧ bl < I)
    (off9 : ∀ p ∈ (bl, ob) :: (un, ou) :: (lt, olt) :: (kd, okk) :: (x, ox) :: (dx, odx) :: (L + 1 + 1 + 1, o3) :: (L + 1 + 1, o2) :: (L + 1, o1) :: (pen, op) :: (scr, os) :: (343, ot) :: oz, p.1 ≠ I)
    (hol : ol.IsDictOf (intKind Challenge.rw_pq0901_01.row.prog w) kvs) (hc1 : oc.data = .fields vq) (hc2 : vq[1]? = some (.str qualL tq)) (hcc : (c', oc) ∈ oz ∨ I < c') :
    TurnEndT L I itO (DiskInv w mean mg mb A₁ base outer gs L pen scr x dx kd lt un bl vs nl size left last ts tl own (i + 1)) s₁ { s₁ with heap := h', toks := tk0 } := by
  obtain ⟨c1, c2, c3, c4, c5, c6, c7, c8, c9, c10⟩ := hord
  have A1 : AL scr [343] := AL.step AL.nil c1
  have A2 := AL.step A1 c2
  have A3 := AL.step A2 c3
  have A4 := AL.cells A3 c4
  have A5 := AL.step A4 c5
  have A6 := AL.step A5 c6
  have A7 := AL.step A6 c7
  have A8 := AL.step A7 c8
  have A9 := AL.step A8 c9
  have A10 := AL.step A9 c10
  have hcI : c' ≠ I := by
    rcases hcc with h | h
    · exact off9 (c', oc) (.tail _ (.tail _ (.tail _ (.tail _ (.tail _ (.tail _ (.tail _ (.tail _ (.tail _ (.tail _ (.tail _ (.tail _ h))))))))))))
    · exact Nat.ne_of_gt h
  refine TurnEndT.intro F (news' := (bl, W.listOf #[.bytes (blkOf (zer size) 0 ws) tb0, .bytes (blkOf (zer size) 1 ws) tb1] nb) :: (un, W.listOf (ws.map fun q => Value.ref q.1).toArray ni) :: (lt, ol) :: (kd, ok) :: (x, instObj 302 dx) :: (dx, diskD w t1 t2 t3 t4 t5 t6 t7 t8 t9 t10 u1 u2 u3 u4 u5 size done last kd lt un false) :: (L + 1 + 1 + 1, oO) :: (L + 1 + 1, oN) :: (L + 1, oD) :: (pen, W.listOf #[.int k' tk', .int e' te', .ref scr] nl) :: (scr, W.listOf vs.toArray 0) :: (343, tabObj #[rawInt pos1.line, rawInt pos1.col, .ref c']) :: (c', oc) :: oz)
    (news_of N (mem_cons (by k_mem) (mem_cons (by k_mem) (mem_cons (by k_mem) (mem_cons (by k_mem) (mem_cons (by k_mem) (mem_cons (by k_mem) (mem_cons (by k_mem) (mem_cons (by k_mem) (mem_cons (by k_mem) (mem_cons (by k_mem) (mem_cons (by k_mem) (mem_cons (by k_mem) (mem_cons (by k_mem) (fun p hp => by rcases List.mem_cons.mp hp with rfl | hp; exact .head _; exact .tail _ (.tail _ (.tail _ (.tail _ (.tail _ (.tail _ (.tail _ (.tail _ (.tail _ (.tail _ (.tail _ (.tail _ (.tail _ (.tail _ (.tail _ (.tail _ hp)))))))))))))))))))))))))))))) ?_
    (DiskInv.intro k' e' done tk' te' td ws kvs ol ok oD oN oO tb0 tb1 ni nb t1 t2 t3 t4 t5 t6 t7 t8 t9 t10 u1 u2 u3 u4 u5 _ vN vO ((c', oc) :: oz) rfl ?hm9 (hT9.trans T1) B9 X9 P9 D9 (fun p hp => .tail _ (hown9 p hp)) ?hoff9 d0 d1 hws hwb ?hwt hol hkl hb0 hb1 hz0 hz1 hok hD9 hN9 hO9 (.inr ⟨c', oc, vq, tq, rfl, .head _, hc1, hc2⟩) k0 k1 e0 e1)
  · intro p hp
    rcases List.mem_cons.mp hp with rfl | hp
    · exact off9 (bl, ob) (by k_mem)
    rcases List.mem_cons.mp hp with rfl | hp
    · exact off9 (un, ou) (by k_mem)
    rcases List.mem_cons.mp hp with rfl | hp
    · exact off9 (lt, olt) (by k_mem)
    rcases List.mem_cons.mp hp with rfl | hp
    · exact off9 (kd, okk) (by k_mem)
    rcases List.mem_cons.mp hp with rfl | hp
    · exact off9 (x, ox) (by k_mem)
    rcases List.mem_cons.mp hp with rfl | hp
    · exact off9 (dx, odx) (by k_mem)
    rcases List.mem_cons.mp hp with rfl | hp
    · exact off9 (L + 1 + 1 + 1, o3) (by k_mem)
    rcases List.mem_cons.mp hp with rfl | hp
    · exact off9 (L + 1 + 1, o2) (by k_mem)
    rcases List.mem_cons.mp hp with rfl | hp
    · exact off9 (L + 1, o1) (by k_mem)
    rcases List.mem_cons.mp hp with rfl | hp
    · exact off9 (pen, op) (by k_mem)
    rcases List.mem_cons.mp hp with rfl | hp
    · exact off9 (scr, os) (by k_mem)
    rcases List.mem_cons.mp hp with rfl | hp
    · exact off9 (343, ot) (by k_mem)
    rcases List.mem_cons.mp hp with rfl | hp
    · exact hcI
    · exact off9 p (.tail _ (.tail _ (.tail _ (.tail _ (.tail _ (.tail _ (.tail _ (.tail _ (.tail _ (.tail _ (.tail _ (.tail _ hp))))))))))))
  case hm9 =>
    intro y hy
    simp only [if_neg hy]
  case hoff9 =>
    intro p hp q hq
    rcases List.mem_cons.mp hp with rfl | hp
    · rcases hcc with h | h
      · exact hoff9 _ h q hq
      · have A11 := AL.step A10 h
        have hq' : q = 343 ∨ q = pen ∨ q = L + 1 + 1 ∨ q = L + 1 + 1 + 1 ∨ q = dx ∨ q = lt ∨ q = un ∨ q = bl := by simpa using hq
        rcases hq' with rfl | rfl | rfl | rfl | rfl | rfl | rfl | rfl <;> k_ne
    · exact hoff9 p hp q hq
  case hwt =>
    intro q hq
    obtain ⟨a, b', c, h⟩ := hwt q hq
    exact ⟨a, b', c, .tail _ h⟩
theorem fr_map {g h : Heap} {L : Addr} {x : Str} {v : Value} {m m' : Str → Option Value} (F : Fr g L h (fun y => if y = x then some v else m y)) (e : ∀ y, y ≠ x → m y = m' y) : Fr g L h (fun y => if y = x then some v else m' y) := by
  have : (fun y => if y = x then some v else m y) = fun y => if y = x then some v else m' y := by
    funext y
    by_cases h : y = x
    · simp [h]
    · simp [h, e y h]
  exact this ▸ F
end Mine
end
section
open PySem PySem.W PyProof.Rows PySem.Calls
set_option linter.unusedVariables false
namespace Mine
theorem allLt_hd {d : Nat} {p : Addr × Obj} {r : List (Addr × Obj)} (h : AllLt d (p :: r)) : @LT.lt Nat _ p.1 d := h.1
theorem mult_one {prog : Program} {w : World} {A : Around} {E : Value → Shared → Prop} {s : Shared} {x : UInt8} {n : Int} {t u : Tok} {Q : Value → Shared → Prop} (n0 : 1 ≤ n) (n4 : n ≤ 4) (h : ∀ b t' k, (Array.size b : Int) = n → Q (.bytes b t') { s with toks := k }) : wpAny (model prog w) A (binaryOp .Mult (.bytes (List.toArray [x]) t) (.int n u)) Q E s :=
  bytes_mul_any (List.cons_ne_nil _ _) (by omega) (by omega) (by simp) fun t' k => h _ t' k (by simp; omega)
theorem lam_or {P : Prop} {a b : Addr × Obj} {I : Addr} {o : Obj} {r : List (Addr × Obj)} {c' : Addr} (h : P ∨ ∀ q ∈ a :: b :: (I, o) :: r, q.1 < c') : P ∨ @LT.lt Nat _ I c' := h.imp id fun k => k (I, o) (.tail _ (.tail _ (.head _)))
theorem fr_map2 {g h : Heap} {L : Addr} {x : Str} {m m' : Str → Option Value} (F : Fr g L h m) (e : ∀ y, y ≠ x → m y = m' y) : Fr g L h (fun y => if y = x then m y else m' y) := by
  have : m = fun y => if y = x then m y else m' y := by
    funext y
    by_cases h : y = x
    · simp [h]
    · simp [h, e y h]
  exact this ▸ F
theorem after_done {w : World} {mean : ExcName → Option Value} {mg mb : Str → Option Value} {oz : List (Addr × Obj)} {t1 t2 t3 t4 t5 t6 t7 t8 t9 t10 u1 u2 u3 u4 u5 : Tok} {size last done : Int} {it li bl un lt kd x dx L3 L2 L1 pen scr po : Nat} {zb q3 q2 q1 zp zs zt zo : Obj}
   {dead : Bool} {ol ok oI : Obj} {ws : List (Addr × Int × Array UInt8)} {its : Array Value} {ni c : Nat} {dp un9 : Nat} {gd : Option (List Code)} {cn : Str} {cs : Scope} {a : Addr} {ccd : Value} {cl : List (Str × Addr)} {outer : List Env} {A₀ : Around} {base h₀ : Heap} {L : Addr} {m : Str → Option Value} {s : Shared} {Q E : Value → Shared → Prop}
   (B : Below A₀ base outer h₀) (F : Fr h₀ L s.heap m) (X : (hd.heap_1 w.params).In h₀) (Y : KX w base) (T : Top topProg LO mean mg mb h₀) (hk : cs.kind = .function)
   (N : News h₀ L s.heap ((it, oI) :: (li, W.listOf its c) :: (bl, zb) :: (un, W.listOf (ws.map fun q => Value.ref q.1).toArray ni) :: (lt, ol) :: (kd, ok) :: (x, instObj 302 dx) :: (dx, diskD w t1 t2 t3 t4 t5 t6 t7 t8 t9 t10 u1 u2 u3 u4 u5 size done last kd lt un dead) :: (L3, q3) :: (L2, q2) :: (L1, q1) :: (pen, zp) :: (scr, zs) :: (343, zt) :: oz)) (hd : dp + 3 < 350) (hu : un9 + 24 < 300)
   (hwt : ∀ q ∈ ws, ∃ tn tb ct, (q.1, ({ cls := .type "tuple", data := .seq #[.int q.2.1 tn, .bytes q.2.2 tb] ct } : Obj)) ∈ oz) (ho : (po, zo) ∈ oz)
   (hlt : ∀ p ∈ (li, W.listOf its c) :: (bl, zb) :: (un, W.listOf (ws.map fun q => Value.ref q.1).toArray ni) :: (lt, ol) :: (kd, ok) :: (x, instObj 302 dx) :: (dx, diskD w t1 t2 t3 t4 t5 t6 t7 t8 t9 t10 u1 u2 u3 u4 u5 size done last kd lt un dead) :: (L3, q3) :: (L2, q2) :: (L1, q1) :: (pen, zp) :: (scr, zs) :: (343, zt) :: oz, @LT.lt Nat _ p.1 it)
   (hic : oI.cls = .type "list_iterator") (hid : oI.data = .fields #[.ref li, .int 0 0]) (hits : ItemsOf (fun i v => ∃ t, v = .int (0 + (i : Int) * 1) t) its ws.length) (hdn : (ws.length : Int) = done) (hw2 : ws.length ≤ 2)
   (hs1 : 1 ≤ size) (hs4 : size ≤ 4) (hok : ok.IsDictOf (intKind Challenge.rw_pq0901_01.row.prog w) []) (lo : (kd == sysModules) = false)
   (h : ∀ h' tks (f df kd' lt' uf' : Addr) ol' kvs' s1 s2 s3 s4 s5 s6 s7 s8 s9 s10 v1 v2 v3 v4, Fr h₀ L h' m → News h₀ L h' ((f, instObj 302 df) :: (df, diskF w s1 s2 s3 s4 s5 s6 s7 s8 s9 s10 v1 v2 v3 v4 size kd' lt' uf') :: (lt', ol') :: [(bl, zb), (pen, zp), (scr, zs), (343, zt), (po, zo)]) → ol'.IsDictOf (intKind Challenge.rw_pq0901_01.row.prog w) kvs' →
     Blk kvs' 0 (Array.replicate size.toNat 0) (blkOf (Array.replicate size.toNat 0) 0 ws) → Blk kvs' 1 (Array.replicate size.toNat 0) (blkOf (Array.replicate size.toNat 0) 1 ws) → (lt' == sysModules) = false → Q (.ref f) { s with heap := h', toks := tks }) :
    wpAny (model Challenge.rw_pq0901_01.row.prog w) (ktrTop dp un9 gd cn cs L a ccd cl outer) (call (.ref 287) [.ref x, .ref it]) Q E s :=
  after_ws (e1 := bl) (e2 := pen) (e3 := scr) (e4 := 343) (e5 := po) (z1 := zb) (z2 := zp) (z3 := zs) (z4 := zt) (z5 := zo) B F X Y T hk N hd hu (by k_mem) (by k_mem) (by k_mem) (by k_mem) (by k_mem)
    (fun q hq => let ⟨a, b, c, hm⟩ := hwt q hq; ⟨a, b, c, .tail _ (.tail _ (.tail _ (.tail _ (.tail _ (.tail _ (.tail _ (.tail _ (.tail _ (.tail _ (.tail _ (.tail _ (.tail _ hm))))))))))))⟩) (by k_mem) (by k_mem) (by k_mem) (by k_mem) (.tail _ (.tail _ (.tail _ (.tail _ (.tail _ (.tail _ (.tail _ (.tail _ (.tail _ (.tail _ (.tail _ (.tail _ (.tail _ ho)))))))))))))
    hlt hic hid hits hdn hw2 hs1 hs4 hok lo h
theorem start_inv {w : World} {mean : ExcName → Option Value} {mg mb : Str → Option Value} {A₁ : Around} {base : Heap} {outer : List Env} {gs : Heap} {L pen scr x dx kd lt un bl po : Nat} {zo : Obj} {vs : List Value} {nl : Nat} {size left last : Int} {ts tl td : Tok} {mp : Str → Option Value} {ol ok oD oN oO : Obj} {k e : Int} {tk te : Tok} {tb0 tb1 : Tok} {ni nb : Nat} {t1 t2 t3 t4 t5 t6 t7 t8 t9 t10 u1 u2 u3 u4 u5 : Tok} {vN vO : Option Value}
    (hmp : ∀ y, mp y = if y = Str.ofString "pen" then some (.ref pen) else none) (B9 : Below A₁ base outer gs) (X9 : (hd.heap_1 w.params).In gs) (P9 : Top topProg LO mean mg mb gs) (D9 : KtsDicts (frs outer) gs)
    (hpo : po < L ∧ po ≠ pen ∧ po ≠ scr ∧ po ≠ 343) (hord : 343 < scr ∧ scr < pen ∧ pen < L ∧ L + 3 < dx ∧ dx < x ∧ x < kd ∧ kd < lt ∧ lt < un ∧ un < bl)
    (hol : ol.IsDictOf (intKind Challenge.rw_pq0901_01.row.prog w) []) (hok : ok.IsDictOf (intKind Challenge.rw_pq0901_01.row.prog w) []) (hD9 : oD.data = .cell (some (.ref x))) (hN9 : oN.data = .cell vN) (hO9 : oO.data = .cell vO)
    (hl0 : 0 ≤ left) (k0 : 0 ≤ k) (k1 : k ≤ 2) (e0 : 0 ≤ e) (e1 : e ≤ 2) :
    DiskInv w mean mg mb A₁ base outer gs L pen scr x dx kd lt un bl vs nl size left last ts tl [(po, zo)] 0 gs (fun y => if y = Str.ofString "left" then some (.int left tl) else if y = Str.ofString "done" then some (.int 0 td) else if y = Str.ofString "blocks" then some (.ref bl) else if y = Str.ofString "size" then some (.int size ts) else mp y)
      ((bl, W.listOf #[.bytes (zer size) tb0, .bytes (zer size) tb1] nb) :: (un, W.listOf (([] : List (Addr × Int × Array UInt8)).map fun q => Value.ref q.1).toArray ni) :: (lt, ol) :: (kd, ok) :: (x, instObj 302 dx) :: (dx, diskD w t1 t2 t3 t4 t5 t6 t7 t8 t9 t10 u1 u2 u3 u4 u5 size 0 last kd lt un false) ::
      (L + 1 + 1 + 1, oO) :: (L + 1 + 1, oN) :: (L + 1, oD) :: (pen, W.listOf #[.int k tk, .int e te, .ref scr] nl) :: (scr, W.listOf vs.toArray 0) :: (343, tabObj #[]) :: [(po, zo)]) := by
  obtain ⟨c1, c2, c3, c4, c5, c6, c7, c8, c9⟩ := hord
  have hz : (zer size).size = size.toNat := by simp [zer]
  refine DiskInv.intro k e 0 tk te td [] [] ol ok oD oN oO tb0 tb1 ni nb t1 t2 t3 t4 t5 t6 t7 t8 t9 t10 u1 u2 u3 u4 u5 #[] vN vO [(po, zo)] rfl ?_ KtsTurn.refl B9 X9 P9 D9 (fun p hp => hp) ?_ (by omega) (by omega) rfl (fun q hq => nomatch hq) (fun q hq => nomatch hq) hol (Nat.le_refl _) (.inr ⟨rfl, rfl⟩) (.inr ⟨rfl, rfl⟩) hz hz hok hD9 hN9 hO9 (.inl rfl) k0 (by omega) e0 (by omega)
  · intro y hy
    rw [hmp]
    unfold mapD
    by_cases h1 : y = Str.ofString "left"
    · subst h1
      rfl
    · by_cases h2 : y = Str.ofString "done"
      · subst h2
        rfl
      · simp only [if_neg h1, if_neg h2]
  · intro p hp q hq
    rw [List.mem_singleton.mp hp]
    have hq' : q = 343 ∨ q = pen ∨ q = L + 1 + 1 ∨ q = L + 1 + 1 + 1 ∨ q = dx ∨ q = lt ∨ q = un ∨ q = bl := by simpa using hq
    rcases hq' with rfl | rfl | rfl | rfl | rfl | rfl | rfl | rfl <;> (refine neN ?_; dsimp only; omega)
section
local macro_rules | `(tactic| k_lt $h) => `(tactic| (have al9 := AL.of $h rfl; (try dsimp only [List.map] at al9); replace $h := allLt_of $h; (try dsimp only [AllLt] at $h:ident)))
local macro_rules | `(tactic| k_all) => `(tactic| (refine own_ne (by assumption) ?_; omega))
set_option maxRecDepth 100000 in
set_option maxHeartbeats 40000000 in
theorem disk_right (w : World) (mean : ExcName → Option Value) (mg mb : Str → Option Value) (pen scr po : Nat) (zo : Obj) (vs : List Value) (ns : List Int) (tk te : Tok) (nl : Nat)
    (hord : 343 < po ∧ po < scr ∧ scr < pen) (hi : IntsAre vs ns) (hl : ns.length ≤ 63) :
  ∀ (dp un : Nat) (gd : Option (List Code)) (cn : Str) (cs : Scope) (a : Addr) (ccd : Value) (cl : List (Str × Addr)) (outer : List Env) (A₀ : Around) (base h₀ : Heap) (L : Addr) (m : Str → Option Value) (s : Shared) (Q E : Value → Shared → Prop),
    Below A₀ base outer h₀ → Fr h₀ L s.heap m → (hd.heap_1 w.params).In h₀ → KX w base → (hd.heap_1 w.params).In base → Top topProg LO mean mg mb base → News h₀ L s.heap ((pen, W.listOf #[.int 0 tk, .int 0 te, .ref scr] nl) :: (scr, W.listOf vs.toArray 0) :: (343, tabObj #[]) :: [(po, zo)]) → Top topProg LO mean mg mb h₀ → KtsDicts (frs outer) h₀ → CodeHd base 347 343 → cs.kind = .function →
    dp + 8 < 350 → un + 64 < 300 →
    (∀ h₁ h' tks (k' e' : Int) (tk' te' : Tok) ps, KtsTurn (frs outer) h₀ h₁ → Fr h₁ L h' m → News h₁ L h' ((pen, W.listOf #[.int k' tk', .int e' te', .ref scr] nl) :: (scr, W.listOf vs.toArray 0) :: (343, tabObj ps) :: [(po, zo)]) → Below A₀ base outer h₁ → (hd.heap_1 w.params).In h₁ → Top topProg LO mean mg mb h₁ → KtsDicts (frs outer) h₁ → 0 ≤ k' → k' ≤ 60 → 0 ≤ e' → e' ≤ 60 → Q (.bool true) { s with heap := h', toks := tks }) →
    wpAny (model Challenge.rw_pq0901_01.row.prog w) (ktrTop dp un gd cn cs L a ccd cl outer) (call (.ref 348) [.ref pen]) Q E s := by
  k_with_none
  w_top off
  k_with "execs cons" => (with_reducible refine forget_toks ?_; intro tk'; (rename News _ _ _ _ => hN9); (try dsimp only at hN9))
  k_with "call ref" => (k_here; (with_reducible show wpAny _ _ (call (Value.ref 302) [Value.int 2 _, Value.int _ _]) _ _ _); k_dflt (refine' disk_new _ _ _ _ _ _ _ _ ?z1 ?z4 _ _ _ _ _ _ _ _ _ _ _ _ _ _ _ _ _ ?B ?F ?X ?Y ?T ?hk ?N ?hd ?hu ?_; (case z1 => omega); (case z4 => omega); (case B => k_asm); (case F => k_asm); (case X => k_asm); (case Y => assumption); (case T => k_asm); (case hk => rfl); (case N => k_asm); (case hd => ktr_room); (case hu => ktr_units)); intro h' tks' f' df' kd' lt' uf' ok' ol' s1' s2' s3' s4' s5' s6' s7' s8' s9' s10' v1' v2' v3' v4' F' N' hdk' hdl' lok' lol' l1' l2' a1' a2' a3' a4' a5'; (try dsimp only [AllLt] at l1'); (try dsimp only [List.map] at a1' a2' a3' a4' a5'); (try dsimp only at N'))
  k_with "call type:bytes" => (k_here; (with_reducible show wpAny _ _ (call (Value.type "bytes") [Value.int _ _]) _ _ _); k_dflt (refine' bytes_int_K ?h0 ?h1 ?hh ?hd ?hu ?_; (case h0 => omega); (case h1 => omega); (case hh => rfl); (case hd => ktr_room); (case hu => ktr_units)); intro tk' t'; (try dsimp only))
  k_with "compareOp NotEq int int" => (k_here; first | ((with_reducible refine ne_true ?h ?_); (case h => omega)) | ((with_reducible refine ne_false ?h ?_); (case h => omega)))
  k_with "call type:bytes" => (k_here; (with_reducible show wpAny _ _ (call (Value.type "bytes") [Value.bytes _ _]) _ _ _); k_dflt (refine bytes_bytes_K (by rfl) ?hd ?hu ?_; (case hd => ktr_room); (case hu => ktr_units)); intro tk' t'; (try dsimp only))
  k_with "call ref" => (k_here; (with_reducible show wpAny _ _ (call (Value.ref 320) [Value.ref _, Value.int _ _]) _ _ _); k_dflt (refine' drawn_U ?B ?F ?X ?N ?U ?hs ?hne ?T ?hk ?hi ?hl ?k0 ?k1 ?e0 ?e1 ?m0 ?m1 ?hd ?hu ?_; (case B => k_asm); (case F => k_asm); (case X => k_asm); (case N => k_asm); (case U => k_updF); (case hs => k_mem); (case hne => k_ne); (case T => k_asm); (case hk => rfl); (case hi => assumption); (case hl => first | assumption | omega); (case k0 => first | assumption | omega); (case k1 => omega); (case e0 => first | assumption | omega); (case e1 => omega); (case m0 => omega); (case m1 => omega); (case hd => ktr_room); (case hu => ktr_units)); intro v' k' e' tk' te' t' h' tks' v0' v1' hk' he' he1' F' N'; (try have q0' := step_nonneg hk' (by assumption)); (try have q1' := Int.le_trans (by assumption) he'); (try dsimp only at N' ⊢))
  k_with "call ref" => (k_here; (with_reducible show wpAny _ _ (call (Value.ref 327) _) _ _ _); k_dflt (refine' bad_write_U ?B ?F ?X ?Y ?XB ?TB ?N ?U ?hs ?hne ?T ?hk ?hi ?hl ?k0 ?k1 ?e0 ?e1 ?m0 ?m1 ?hd ?hu ?_; (case B => k_asm); (case F => k_asm); (case X => k_asm); (case Y => assumption); (case XB => assumption); (case TB => assumption); (case N => k_asm); (case U => k_updF); (case hs => k_mem); (case hne => k_ne); (case T => k_asm); (case hk => rfl); (case hi => assumption); (case hl => first | assumption | omega); (case k0 => first | assumption | omega); (case k1 => omega); (case e0 => first | assumption | omega); (case e1 => omega); (case m0 => omega); (case m1 => omega); (case hd => ktr_room); (case hu => ktr_units)); intro tp' l' lo' n' tn' v' k' e' tk' te' ct' h' tks' a1' a2' hb' hk' he' he1' F' N'; (try have q0' := step_nonneg hk' (by assumption)); (try have q1' := Int.le_trans (by assumption) he'); (try dsimp only at N' ⊢); (try k_lt a1'); (try k_lt a2'); (repeat ((rename (@LT.lt Nat _ _ _ ∧ _) => hz9); (have hz8 := hz9.1); (clear hz9))))
  k_with "eval Lambda" => (k_here; k_dflt (refine' lam1_make ?d ?F ?N ?T ?C ?cd ?U ?t ?sub ?mem ?cl ?_; (case d => exact rfl); (case F => k_asm); (case N => k_asm); (case T => k_asm); (case cd => exact rfl); (case C => kn_code); (case U => k_updF); (case t => assumption); (case sub => intro p hp; repeat (first | exact hp | refine List.Mem.tail _ ?_)); (case mem => k_mem); (case cl => exact rfl); k_whole); intro f' c' oc' vs' t' ct' h' tk' F' N' d1' d2' l1'; (try dsimp only at N'))
  k_with "call ref" => (k_here; (with_reducible show wpAny _ _ (call (Value.ref 334) [Value.ref _, Value.ref 83]) _ _ _); k_dflt (refine' refused_bad ?B ?F ?X ?Y ?XB ?TB ?T ?D ?hk ?hd ?hu ?N ?m1 ?m2 ?m3 ?m4 ?m5 ?m6 ?m7 ?hoc ?hvs ?hD ?hN ?hO ?hs0 ?hs1 ?hb ?_; (case B => k_asm); (case F => k_asm); (case X => k_asm); (case Y => assumption); (case XB => assumption); (case TB => assumption); (case T => k_asm); (case D => assumption); (case hk => rfl); (case hd => ktr_room); (case hu => ktr_units); (case N => k_asm); (case hoc => assumption); (case hvs => assumption); (case hD => assumption); (case hb => assumption); (case hN => assumption); (case hO => assumption); (case m1 => k_mem); (case m2 => k_mem); (case m3 => k_mem); (case m4 => k_mem); (case m5 => k_mem); (case m6 => k_mem); (case m7 => k_mem); (case hs0 => first | assumption | omega); (case hs1 => first | assumption | omega)); intro h1' h' tk' T1' F' N' B' X' P' D')
  k_with "call ref" => (k_here; (with_reducible show wpAny _ _ (call (Value.ref 341) _) _ _ _); k_dflt (refine' stands_U ?B ?F ?X ?Y ?T ?hk ?N ?hd ?hu ?mx ?mdx ?mlt ?mun ?mbl ?hol ?lo ?hb0 ?hb1 ?hz0 ?hz1 ?hits ?hs1 ?hs4 ?hd0 ?hd2 ?_; (case B => k_asm); (case F => k_asm); (case X => k_asm); (case Y => assumption); (case T => k_asm); (case hk => rfl); (case N => k_asm); (case hd => ktr_room); (case hu => ktr_units); (case mx => k_mem); (case mdx => k_mem); (case mlt => k_mem); (case mun => k_mem); (case mbl => k_mem); (case hol => assumption); (case lo => assumption); (case hb0 => first | assumption | exact Blk.stored (by assumption)); (case hb1 => first | assumption | exact Blk.stored (by assumption)); (case hz0 => first | assumption | exact if_size (by assumption) (by assumption)); (case hz1 => first | assumption | exact if_size (by assumption) (by assumption)); (case hits => first | (rw [List.length_map]; assumption) | exact len_snoc (by assumption)); (case hs1 => first | assumption | omega); (case hs4 => first | assumption | omega); (case hd0 => omega); (case hd2 => omega)); intro h' tk' F' N')
  k_with "callWith ref" => (k_here; (with_reducible show wpAny _ _ (callWith _ (Value.ref 334) _ _ _) _ _ _); k_dflt (refine' callWith_K ?k1 ?k2 ?_; (case k1 => k_asm); (case k2 => k_is); k_whole))
  k_with "binaryOp Mult bytes int" => (k_here; k_dflt (refine' mult_one ?a ?b ?_; (case a => omega); (case b => omega)); intro b' t' k' hb'; (repeat ((rename (@LT.lt Nat _ _ _ ∧ _) => hz9); (have hz8 := hz9.1); (clear hz9))); (try (rename (((UInt8.toNat _ : Nat) : Int) = _) => hz9; clear hz9)))
  k_with "eval Lambda" => (k_here; k_dflt (refine' lam2_make (pos' := pos1) ?d ?F ?N ?T ?C ?cd ?U ?t ?ne ?cl ?_; (case d => exact rfl); (case F => k_asm); (case N => k_asm); (case T => k_asm); (case cd => exact rfl); (case C => kn_code); (case U => k_updF); (case t => refine TabIs.mono (by assumption) ?_; intro p hp; repeat (first | exact hp | refine List.Mem.tail _ ?_)); (case ne => decide); (case cl => exact rfl); k_whole); intro f' c' oc' vs' t' ct' ps' h' tk' F' N' d1' d2' l1' l2'; (try dsimp only at N'); (have hz7 := l1' _ (List.Mem.head _)); (try dsimp only at hz7); (repeat ((rename (@LT.lt Nat _ _ _ ∧ _) => hz9); (have hz8 := hz9.1); (clear hz9))))
  k_with "eval Lambda" => (k_here; k_dflt (refine' lam1_make ?d ?F ?N ?T ?C ?cd ?U ?t ?sub ?mem ?cl ?_; (case t => assumption); (case d => exact rfl); (case F => k_asm); (case N => k_asm); (case T => k_asm); (case cd => exact rfl); (case C => kn_code); (case U => k_updF); (case sub => intro p hp; repeat (first | exact hp | refine List.Mem.tail _ ?_)); (case mem => k_mem); (case cl => exact rfl); k_whole); intro f' c' oc' vs' t' ct' h' tk' F' N' d1' d2' l1'; (try dsimp only at N'))
  k_with "call ref" => (k_here; (with_reducible show wpAny _ _ (call (Value.ref 334) [Value.ref _, Value.ref 102]) _ _ _); k_dflt (refine' crash_turn ?B ?F ?X ?Y ?XB ?TB ?T ?D ?hk ?hd ?hu ?N ?hc ?hoz ?hoc ?hvs ?hD ?hN ?hO ?hs0 ?hs1 ?n0 ?n1 ?hbz ?hw0 ?hw1 ?hlw ?_; (case B => k_asm); (case F => k_asm); (case X => k_asm); (case Y => assumption); (case XB => assumption); (case TB => assumption); (case T => k_asm); (case D => assumption); (case hk => rfl); (case hd => ktr_room); (case hu => ktr_units); (case N => k_asm); (case hc => refine ⟨?_, ?_, ?_, ?_, ?_, ?_, ?_, ?_, ?_, ?_, ?_, ?_, ?_, ?_, ?_, ?_⟩ <;> (first | assumption | omega)); (case hoz => assumption); (case hoc => assumption); (case hvs => assumption); (case hD => assumption); (case hN => assumption); (case hO => assumption); (case hs0 => first | assumption | omega); (case hs1 => first | assumption | omega); (case n0 => assumption); (case n1 => assumption); (case hbz => assumption); (case hw0 => omega); (case hw1 => omega); (case hlw => omega)); intro h1' h' tk' T1' F' N' B' X' P' D'; (try dsimp only at N'))
  k_with "call ref" => (k_here; (with_reducible show wpAny _ _ (call (Value.ref 252) _) _ _ _); (repeat ((rename (@LT.lt Nat _ _ _ ∧ _) => hz9); (have hz8 := hz9.1); (clear hz9))); k_dflt (refine' write_turn ?B ?F ?X ?Y ?XB ?TB ?T ?hk ?N ?hd ?hu ?hc ?hoz ?h0 ?h1 ?hs0 ?hs1 ?hne ?hw0 ?hw1 ?hl ?hol ?lo ?hkv ?hus ?_; (case B => k_asm); (case F => k_asm); (case X => k_asm); (case Y => assumption); (case XB => assumption); (case TB => assumption); (case T => k_asm); (case hk => rfl); (case N => k_asm); (case hd => ktr_room); (case hu => ktr_units); (case hc => refine ⟨?_, ?_, ?_, ?_, ?_, ?_, ?_, ?_, ?_, ?_, ?_, ?_, ?_, ?_⟩ <;> (first | assumption | omega)); (case hoz => assumption); (case h0 => assumption); (case h1 => assumption); (case hs0 => first | assumption | omega); (case hs1 => first | assumption | omega); (case hne => assumption); (case hw0 => omega); (case hw1 => omega); (case hl => omega); (case hol => assumption); (case lo => assumption); (case hkv => omega); (case hus => (rw [List.length_map]; omega))); intro h' tks' tp' ol' tb' ct' u3' F' N' hd' l1' l2'; (try dsimp only at N'))
  k_with "setItem ref int" => (k_here; k_dflt (refine' set_blocks ?F ?N ?U ?n0 ?n1 ?_; (case F => k_asm); (case N => k_asm); (case U => k_upd); (case n0 => omega); (case n1 => omega)); intro h' F' N'; (try dsimp only at N'))
  k_with "call type:list" => (k_here; (with_reducible show wpAny _ _ (call (Value.type "list") [Value.ref _]) _ _ _); (rename IsRange _ _ _ _ _ _ _ _ => rg9); k_dflt (refine' list_range_U ?hdn ?hn2 ?hh ?F ?N ?R ?_; (case R => exact rg9); (case hdn => assumption); (case hn2 => omega); (case hh => rfl); (case F => k_asm); (case N => k_asm)); intro D' c' h' tk' its' F' N' l1' hits'; clear l1')
  k_with "call builtin:iter" => (k_here; k_dflt (refine' iter_list_K ?F ?N ?hl ?_; (case F => k_asm); (case N => k_asm); (case hl => k_mem)); intro I' h' oI' F' N' l1' hic' hid')
  k_with "call ref" => (k_here; (with_reducible show wpAny _ _ (call (Value.ref 287) _) _ _ _); k_dflt (refine' after_done ?B ?F ?X ?Y ?T ?hk ?N ?hd ?hu ?hwt ?ho ?hlt ?hic ?hid ?hits ?hdn ?hw2 ?hs1 ?hs4 ?hok ?lo ?_; (case B => k_asm); (case F => k_asm); (case X => k_asm); (case Y => assumption); (case T => k_asm); (case hk => rfl); (case N => k_asm); (case hd => ktr_room); (case hu => ktr_units); (case hwt => assumption); (case ho => assumption); (case hlt => assumption); (case hic => assumption); (case hid => assumption); (case hits => assumption); (case hdn => assumption); (case hw2 => omega); (case hs1 => first | assumption | omega); (case hs4 => first | assumption | omega); (case hok => assumption); (case lo => assumption)); intro h' tks' f' df' kd' lt' uf' ol' kvs' s1' s2' s3' s4' s5' s6' s7' s8' s9' s10' v1' v2' v3' v4' F' N' hd' hb0' hb1' lo')
  k_with "call ref" => (k_here; (with_reducible show wpAny _ _ (call (Value.ref 299) _) _ _ _); k_dflt (refine' image_ok _ _ _ _ _ _ _ _ _ _ _ _ _ _ _ _ _ _ _ _ _ _ _ _ _ _ _ _ _ ?hs1 ?hs4 ?hn1 ?hn4 ?hol ?lo ?hb0 ?hb1 ?hz0 ?hz1 _ _ _ _ _ _ _ _ _ _ _ _ _ _ _ _ _ ?B ?F ?X ?Y ?T ?hk ?N ?hd ?hu ?_; (case B => k_asm); (case F => k_asm); (case X => k_asm); (case Y => assumption); (case T => k_asm); (case hk => rfl); (case N => k_asm); (case hd => ktr_room); (case hu => ktr_units); (case hs1 => first | assumption | omega); (case hs4 => first | assumption | omega); (case hn1 => omega); (case hn4 => omega); (case hol => assumption); (case lo => assumption); (case hb0 => assumption); (case hb1 => assumption); (case hz0 => assumption); (case hz1 => assumption)); intro h' tks' t' F' N')
  k_with "getMethod bytes" => (k_here; (with_reducible show wpAny _ _ (getMethod (Value.bytes _ _) (Str.ofString "join") _) _ _ _); k_dflt (refine bytes_join_method ?_))
  k_with "call builtin:bytes.join" => (k_here; (with_reducible show wpAny _ _ (call (Value.builtin "bytes.join") [Value.bytes _ _, Value.ref _]) _ _ _); k_dflt (first | refine bytes_join_L (by k_asm) (by k_asm) (by assumption) (by k_asm) (by k_mem) ?n1 ?n4 (by assumption) (by assumption) ?hh ?hd ?hu ?_ | refine bytes_join_K (by k_asm) (by k_asm) (by assumption) (by k_asm) (by k_mem) ?n1 ?n4 (by assumption) (by assumption) ?hh ?hd ?hu ?_); (case n1 => first | assumption | omega); (case n4 => first | assumption | omega); (case hh => rfl); (case hd => ktr_room); (case hu => ktr_units); intro tk' t'; (try dsimp only))
  k_with "compareOp Eq bytes bytes" => (k_here; (with_reducible refine eq_same ?_))
  k_with "exec For Name Call cons nil" => (k_dflt (refine For_T ?_))
  k_fill
  intro dp un gd cn cs a ccd cl outer A₀ base h₀ L m s Q E B F X Y XB TB N T D hcode hk hd hu hret
  have aP : AL pen [scr, 343, po] := fun b hb => by simp at hb; omega
  have aS : AL scr [343, po] := fun b hb => by simp at hb; omega
  have aO : AL po [343] := fun b hb => by simp at hb; omega
  refine wpAny_call ?_
  (refine' code_TC ?k1 ?k2 ?k3 ?k4 ?k5 ?XB ?TB ?D ?kA ?k6 ?k7 ?k8 ?k9 ?kB ?kD ?_ ?kK ?c2 ?c3 ?c4; (case kA => exact rfl); (case kK => assumption); (case k1 => k_asm); (case k2 => k_asm); (case k3 => k_asm); (case k4 => k_asm); (case k5 => k_asm); (case XB => assumption); (case TB => assumption); (case D => assumption); (case k6 => k_is); (case k7 => k_is); (case k8 => ktr_room); (case k9 => exact BindsTo.of_eq rfl); (case kB => exact rfl); (case kD => decide +kernel); (case c2 => exact rfl); (case c3 => exact rfl); (case c4 => exact rfl); k_whole; intro g' L' h' tk' cells' FG' F' N' Y' B' X' T' D' l1; have hownL := own_lt l1; (try k_lt l1); k_cells Y'; (try simp only [List.cons_append, List.nil_append] at N'); (try dsimp only); (try k_lift B'); (try k_fold))
  k_steps
  have hpoL := hownL _ (List.Mem.head _)
  dsimp only at hpoL
  rename IsRange _ _ _ _ _ _ _ _ => hR9
  (refine' turns_disk ?hL (A₁ := ktrTop dp un gd cn cs L a ccd cl outer) (base := base) (outer := envX cn cs L a ccd cl :: outer) (mean := mean) (mg := mg) (mb := mb) ?N ?F ?hh ?hx ?hp hR9 ?start ?hmp ?hord ?step ?done; (case N => k_asm); (case F => k_asm); (case hh => rfl); (case hx => rfl); (case hp => rfl); (case hL => rfl); (case hord => omega))
  case hmp => intro y; rfl
  case start =>
    intro hmp9
    refine' start_inv hmp9 ?B9 ?X9 ?P9 ?D9 ?hpo ?hord ?hol ?hok ?hD9 ?hN9 ?hO9 ?hl0 ?k0 ?k1 ?e0 ?e1
    case B9 => assumption
    case X9 => assumption
    case P9 => assumption
    case D9 => assumption
    case hpo => refine ⟨?_, ?_, ?_, ?_⟩ <;> (first | assumption | omega)
    case hord => refine ⟨?_, ?_, ?_, ?_, ?_, ?_, ?_, ?_, ?_⟩ <;> (first | assumption | omega)
    case hol => assumption
    case hok => assumption
    case hD9 => first | assumption | rfl
    case hN9 => first | assumption | rfl
    case hO9 => first | assumption | rfl
    case hl0 => omega
    case k0 => omega
    case k1 => omega
    case e0 => omega
    case e1 => omega
  case done =>
    repeat (rename (@LT.lt Nat _ _ _ ∧ _) => hz9; clear hz9)
    repeat (rename News _ _ _ _ => hz9; clear hz9)
    repeat (rename Fr _ _ _ _ => hz9; clear hz9)
    repeat (rename Below _ _ _ _ => hz9; clear hz9)
    repeat (rename (Obj.data _ = _) => hz9; clear hz9)
    repeat (rename (Obj.IsDictOf _ _ _) => hz9; clear hz9)
    intro g m news h tk9 F9 N9 J9
    obtain ⟨k, e, done, tk, te, td, ws, kvs, ol, ok, oD, oN, oO, tb0, tb1, ni, nb, t1, t2, t3, t4, t5, t6, t7, t8, t9, t10, u1, u2, u3, u4, u5, ps, vN, vO, oz, rfl, hm9, hT9, B9, X9, P9, D9, hown9, hoff9, d0, d1, hws, hwb, hwt, hol, hkl, hb0, hb1, hz0, hz1, hok, hD9, hN9, hO9, htab, k0, k1, e0, e1⟩ := J9
    have F9' := fr_map2 F9 hm9
    clear F9
    have ho9 := hown9 _ (List.Mem.head _)
    dsimp only
    k_steps
    all_goals (k_dflt (refine' LeaveT.intro ?F ?N ?T ?_; (case F => k_asm); (case N => k_asm); (case T => first | exact hT9 | exact hT9.trans (by assumption))); intro h1' T1' F1' N1' B1' X1' P1' D1'; (try dsimp only); exact hret _ _ _ _ _ _ _ _ T1' F1' (news_of N1' (mem_cons (by k_mem) (mem_cons (by k_mem) (mem_cons (by k_mem) (mem_cons (by repeat (first | exact ho9 | exact List.Mem.head _ | refine List.Mem.tail _ ?_)) mem_nil))))) B1' X1' P1' D1' (by omega) (by omega) (by omega) (by omega))
  case step =>
    repeat (rename (@LT.lt Nat _ _ _ ∧ _) => hz9; clear hz9)
    repeat (rename News _ _ _ _ => hz9; clear hz9)
    repeat (rename Fr _ _ _ _ => hz9; clear hz9)
    repeat (rename Below _ _ _ _ => hz9; clear hz9)
    repeat (rename (Obj.data _ = _) => hz9; clear hz9)
    repeat (rename (Obj.IsDictOf _ _ _) => hz9; clear hz9)
    intro hord9 I hI i g m news h tk9 t9 hi5 F9 N9 off9 J9
    obtain ⟨k, e, done, tk, te, td, ws, kvs, ol, ok, oD, oN, oO, tb0, tb1, ni, nb, t1, t2, t3, t4, t5, t6, t7, t8, t9, t10, u1, u2, u3, u4, u5, ps, vN, vO, oz, rfl, hm9, hT9, B9, X9, P9, D9, hown9, hoff9, d0, d1, hws, hwb, hwt, hol, hkl, hb0, hb1, hz0, hz1, hok, hD9, hN9, hO9, htab, k0, k1, e0, e1⟩ := J9
    have hbI := hI _ (List.Mem.head _)
    have aI := AL.of hI rfl
    dsimp only [List.map] at aI
    clear hI
    dsimp only at hbI
    obtain ⟨o1, o2, o3, o4, o5, o6, o7, o8, o9⟩ := hord9
    have F9' := fr_map F9 hm9
    clear F9
    have ho9 := hown9 _ (List.Mem.head _)
    k_steps
    all_goals dsimp only [TurnPostT]
    all_goals first
      | (k_dflt (refine' LeaveT.intro ?F ?N ?T ?_; (case F => k_asm); (case N => k_asm); (case T => first | exact hT9 | exact hT9.trans (by assumption))); intro h1' T1' F1' N1' B1' X1' P1' D1'; (try dsimp only); exact hret _ _ _ _ _ _ _ _ T1' F1' (news_of N1' (mem_cons (by k_mem) (mem_cons (by k_mem) (mem_cons (by k_mem) (mem_cons (by repeat (first | exact ho9 | exact List.Mem.head _ | refine List.Mem.tail _ ?_)) mem_nil))))) B1' X1' P1' D1' (by omega) (by omega) (by omega) (by omega))
      | (refine' end_good ?F ?N ?hT9 ?B9 ?X9 ?P9 ?D9 ?hown9 ?hoff9 ?d0 ?d1 ?hws ?hwb ?hwt ?hkl ?hb0 ?hb1 ?hz0 ?hz1 ?hok ?hD9 ?hN9 ?hO9 ?htab ?k0 ?k1 ?e0 ?e1 ?hord ?off9 ?hne ?n0 ?n1 ?hbz ?hst ?hId; (case F => assumption); (case N => assumption); (case hst => assumption); (case hT9 => assumption); (case B9 => assumption); (case X9 => assumption); (case P9 => assumption); (case D9 => assumption); (case hown9 => assumption); (case hoff9 => assumption); (case d0 => assumption); (case d1 => assumption); (case hws => assumption); (case hwb => assumption); (case hwt => assumption); (case hkl => assumption); (case hb0 => assumption); (case hb1 => assumption); (case hz0 => assumption); (case hz1 => assumption); (case hok => assumption); (case hD9 => assumption); (case hN9 => assumption); (case hO9 => assumption); (case htab => assumption); (case k0 => first | assumption | omega); (case k1 => omega); (case e0 => first | assumption | omega); (case e1 => omega); (case hord => exact ⟨o1, o2, o3, o4, o5, o6, o7, o8, o9, hbI⟩); (case off9 => assumption); (case hne => assumption); (case n0 => assumption); (case n1 => assumption); (case hbz => assumption); (case hId => refine ⟨?_, ?_, ?_⟩ <;> assumption))
      | (refine' end_bad ?T1 ?F ?N ?hT9 ?B9 ?X9 ?P9 ?D9 ?hown9 ?hoff9 ?d0 ?d1 ?hws ?hwb ?hwt ?hkl ?hb0 ?hb1 ?hz0 ?hz1 ?hok ?hD9 ?hN9 ?hO9 ?htab ?k0 ?k1 ?e0 ?e1 ?hord ?off9 ?hol ?hc1 ?hc2 ?hcc; (case F => assumption); (case N => assumption); (case T1 => assumption); (case hT9 => assumption); (case B9 => assumption); (case X9 => assumption); (case P9 => assumption); (case D9 => assumption); (case hown9 => assumption); (case hoff9 => assumption); (case d0 => assumption); (case d1 => assumption); (case hws => assumption); (case hwb => assumption); (case hwt => assumption); (case hkl => assumption); (case hb0 => assumption); (case hb1 => assumption); (case hz0 => assumption); (case hz1 => assumption); (case hok => assumption); (case hD9 => assumption); (case hN9 => assumption); (case hO9 => assumption); (case htab => assumption); (case k0 => first | assumption | omega); (case k1 => omega); (case e0 => first | assumption | omega); (case e1 => omega); (case hord => exact ⟨o1, o2, o3, o4, o5, o6, o7, o8, o9, hbI⟩); (case off9 => assumption); (case hol => assumption); (case hc1 => assumption); (case hc2 => assumption); (case hcc => exact lam_or (by assumption)))
end
end Mine
end
section
open PySem PySem.W PyProof.Rows PySem.Calls
set_option linter.unusedVariables false
namespace Mine
section
set_option maxRecDepth 100000 in
set_option maxHeartbeats 4000000 in
theorem plic_bad (w : World) (mean : ExcName → Option Value) (mg mb : Str → Option Value) (own : List (Addr × Obj)) (odd : Int) (t1 t2 : Tok) (hodd : odd < 1 ∨ 15872 < odd) (hb : -9 < odd ∧ odd < 99999) :
  RaiseCl w mean mg mb (.ref 206) [.int 31 t1, .int odd t2] 52 3 own own := by
  k_with_none
  w_top off
  k_with "execs cons" => (with_reducible refine forget_toks ?_; intro tk'; (rename News _ _ _ _ => hN9); (try dsimp only at hN9))
  k_with "call type:bytes" => (k_here; (with_reducible show wpAny _ _ (call (Value.type "bytes") [Value.int _ _]) _ _ _); k_dflt (refine' bytes_int_K ?h0 ?h1 ?hh ?hd ?hu ?_; (case h0 => omega); (case h1 => omega); (case hh => rfl); (case hd => ktr_room); (case hu => ktr_units)); intro tk' t'; (try dsimp only))
  k_with "call type:bytes" => (k_here; (with_reducible show wpAny _ _ (call (Value.type "bytes") [Value.str _ _]) _ _ _); (refine bytes_str_K (by k_asm) (by k_asm) (by assumption) (by rfl) ?hd ?hu ?_; (case hd => ktr_room); (case hu => ktr_units)); intro h' tk' e' x')
  k_with "call type:bytes" => (k_here; (with_reducible show wpAny _ _ (call (Value.type "bytes") [Value.none]) _ _ _); (refine bytes_none_K (by k_asm) (by k_asm) (by assumption) (by rfl) ?hd ?hu ?_; (case hd => ktr_room); (case hu => ktr_units)); intro h' tk' e' x')
  k_with "noteFrame ref" => (k_here; (refine catch_fresh (by assumption) (by assumption) (by assumption) (XB := by assumption) (by assumption) (tup_test (ns_T _) (ns_V _) (by first | exact exm_T _ | exact exm_V _) rfl rfl rfl) ?_); intro h' g' F' B' c1'; (have X' := Frag.In.keeps (K := Mine.hd.heap_1 _) (by assumption) (Below.stays B')); (have T' := top_base (by assumption) B'))
  k_with "exec Raise some some" => (k_here; k_dflt (refine Raise_two (by rfl) ?_))
  k_with "exec Raise some none" => (k_here; k_dflt (refine Raise_one (by rfl) ?_))
  k_with "call ref" => (k_here; (with_reducible show wpAny _ _ (call (Value.ref 83) [Value.str _ _]) _ _ _); (refine mk_disk_K (by k_asm) (by k_asm) (by assumption) ?hd ?hu ?_; (case hd => ktr_room); (case hu => ktr_units)); intro h' tk' e' x')
  k_with "RaiseFrom" => (refine RaiseFrom.of (by assumption) (isExc_of (Frag.In.keeps (K := Mine.hd.heap_1 _) (by assumption) (Fr.keep (by assumption))) (kts83 _)) (by assumption) ?_; intro h' f'; show wpAny _ _ (leaving _ _) _ _ _)
  k_with "RaiseGo" => (refine RaiseGo.of (by assumption) (isExc_of (Frag.In.keeps (K := Mine.hd.heap_1 _) (by assumption) (Fr.keep (by assumption))) (by first | exact kts83 _ | exact kts102 _ | exact kts52 _)) ?_; show wpAny _ _ (leaving _ _) _ _ _)
  k_with "leaving ref" => (k_here; first
      | (refine' leave_onSN ?k1 ?k2 ?k3 ?k4 ?_; (case k3 => assumption); (case k2 => assumption); (case k1 => assumption); (case k4 => assumption); intro h' R1' R2' U1'; (try dsimp only at R1' U1' ⊢))
      | (refine' leave_made ?k1 ?k0 ?k2 ?k3 ?_; (case k0 => assumption); (case k2 => k_asm); (case k1 => assumption); (case k3 => k_asm); intro h' R1' R2' U1'; (try dsimp only at R1' U1' ⊢))
      | (refine' leave_from ?k1 ?k0 ?k2 ?k3 ?_; (case k0 => assumption); (case k2 => assumption); (case k1 => assumption); (case k3 => assumption); intro h' R1' R2' U1'; (try dsimp only at R1' U1' ⊢)))
  k_with "call ref" => (k_here; (with_reducible show wpAny _ _ (call (Value.ref 102) [Value.int _ _]) _ _ _); (refine mk_crash_K (by k_asm) (by k_asm) (by assumption) ?h0 ?h1 ?hd ?hu ?_; (case h0 => omega); (case h1 => omega); (case hd => ktr_room); (case hu => ktr_units)); intro h' tk' e' x')
  k_with "call ref" => (k_here; (with_reducible show wpAny _ _ (call (Value.ref 52) [Value.str _ _]) _ _ _); (refine mk_arg_K (by k_asm) (by k_asm) (by assumption) ?hd ?hu ?_; (case hd => ktr_room); (case hu => ktr_units)); intro h' tk' e' x')
  unfold RaiseCl
  k_fill
  intro dp un gd cn cs a ccd cl outer A₀ base h₀ L m s Q E B F X Y XB TB N T hk hd hu hE
  clear XB TB
  k_dflt (refine' call_cls ?k1 ?k2 ?k3 ?k4 ?k5 ?k6 ?_; (case k1 => k_asm); (case k2 => k_asm); (case k3 => k_asm); (case k4 => k_is); (case k5 => k_is); (case k6 => k_is); k_whole; intro x' d' h' F' N' l1 l2; (try k_lt l1); (try k_lt2 l2); (try k_sweep))
  k_dflt (refine' code_def ?k1 ?k2 ?k3 ?k4 ?k5 ?kA ?kF ?kK ?k6 ?k7 ?k8 ?k9 ?kB ?_ ?c2 ?c3 ?c4 ?c5; (case kA => exact rfl); (case kF => exact rfl); (case kK => assumption); (case k1 => k_asm); (case k2 => k_asm); (case k3 => k_asm); (case k4 => k_asm); (case k5 => k_asm); (case k6 => k_is); (case k7 => k_is); (case k8 => ktr_room); (case k9 => first | exact BindsTo.of_eq rfl | exact binds_K (by k_in) rfl (by k_is) rfl rfl rfl); (case c5 => decide); (case kB => exact locs rfl); (case c2 => exact rfl); (case c3 => exact rfl); (case c4 => exact rfl); k_whole; intro g' L' h' FG' F' N' B' X' T'; (try dsimp only); (try k_lift B'); (try k_fold))
  k_steps
  all_goals exact hE _ _ _ _ (by assumption) (raisedSN_sub (by assumption) (fun p hp => .tail _ (.tail _ hp))) (by assumption)
end
end Mine
end
section
open PySem PySem.W PyProof.Rows PySem.Calls
set_option linter.unusedVariables false
namespace Mine
abbrev lamScope3 : Scope := { kind := ScopeKind.function, names := [(Str.ofString "odd", NameKind.free), (Str.ofString "Plic", NameKind.globalImplicit)], isGenerator := false, isCoroutine := false, more := [] }
abbrev lamBody3 : Expr := Expr.Call (Expr.Name (Str.ofString "Plic") { line := 254, col := 35, endLine := 254, endCol := 39 }) [Expr.Constant (Const.int 31) 0 { line := 254, col := 40, endLine := 254, endCol := 42 }, Expr.Name (Str.ofString "odd") { line := 254, col := 44, endLine := 254, endCol := 47 }] [] { line := 254, col := 35, endLine := 254, endCol := 48 }
section
set_option hygiene false in
set_option maxRecDepth 100000 in
set_option maxHeartbeats 4000000 in
theorem lam_raise3 (w : World) (mean : ExcName → Option Value) (mg mb : Str → Option Value) (own : List (Addr × Obj)) (lam c' cO : Addr) (odd : Int) (t : Tok) (pm ctv : Value)
    (oc oO : Obj) (qual : Str) (vs : Array Value) (tq : Tok) (hoc : oc.data = .fields vs) (hvs : vs[1]? = some (.str qual tq)) (hO : oO.data = .cell (some (.int odd t))) (hodd : odd < 1 ∨ 15872 < odd) (hb : -9 < odd ∧ odd < 99999) :
  RaiseCl w mean mg mb (.ref lam) [] 52 4 ((lam, kla_obj "<lambda>" qual noArgs lamBody3 lamScope3 [("odd", cO)] pm c' ctv) :: (c', oc) :: (cO, oO) :: own) ((lam, kla_obj "<lambda>" qual noArgs lamBody3 lamScope3 [("odd", cO)] pm c' ctv) :: (c', oc) :: (cO, oO) :: own) := by
  k_with_none
  w_top off
  k_with "execs cons" => (with_reducible refine forget_toks ?_; intro tk'; (rename News _ _ _ _ => hN9); (try dsimp only at hN9))
  k_with "call type:bytes" => (k_here; (with_reducible show wpAny _ _ (call (Value.type "bytes") [Value.int _ _]) _ _ _); k_dflt (refine' bytes_int_K ?h0 ?h1 ?hh ?hd ?hu ?_; (case h0 => omega); (case h1 => omega); (case hh => rfl); (case hd => ktr_room); (case hu => ktr_units)); intro tk' t'; (try dsimp only))
  k_with "call type:bytes" => (k_here; (with_reducible show wpAny _ _ (call (Value.type "bytes") [Value.str _ _]) _ _ _); (refine bytes_str_K (by k_asm) (by k_asm) (by assumption) (by rfl) ?hd ?hu ?_; (case hd => ktr_room); (case hu => ktr_units)); intro h' tk' e' x')
  k_with "call type:bytes" => (k_here; (with_reducible show wpAny _ _ (call (Value.type "bytes") [Value.none]) _ _ _); (refine bytes_none_K (by k_asm) (by k_asm) (by assumption) (by rfl) ?hd ?hu ?_; (case hd => ktr_room); (case hu => ktr_units)); intro h' tk' e' x')
  k_with "noteFrame ref" => (k_here; (refine catch_fresh (by assumption) (by assumption) (by assumption) (XB := by assumption) (by assumption) (tup_test (ns_T _) (ns_V _) (by first | exact exm_T _ | exact exm_V _) rfl rfl rfl) ?_); intro h' g' F' B' c1'; (have X' := Frag.In.keeps (K := Mine.hd.heap_1 _) (by assumption) (Below.stays B')); (have T' := top_base (by assumption) B'))
  k_with "exec Raise some some" => (k_here; k_dflt (refine Raise_two (by rfl) ?_))
  k_with "exec Raise some none" => (k_here; k_dflt (refine Raise_one (by rfl) ?_))
  k_with "call ref" => (k_here; (with_reducible show wpAny _ _ (call (Value.ref 83) [Value.str _ _]) _ _ _); (refine mk_disk_K (by k_asm) (by k_asm) (by assumption) ?hd ?hu ?_; (case hd => ktr_room); (case hu => ktr_units)); intro h' tk' e' x')
  k_with "RaiseFrom" => (refine RaiseFrom.of (by assumption) (isExc_of (Frag.In.keeps (K := Mine.hd.heap_1 _) (by assumption) (Fr.keep (by assumption))) (kts83 _)) (by assumption) ?_; intro h' f'; show wpAny _ _ (leaving _ _) _ _ _)
  k_with "RaiseGo" => (refine RaiseGo.of (by assumption) (isExc_of (Frag.In.keeps (K := Mine.hd.heap_1 _) (by assumption) (Fr.keep (by assumption))) (by first | exact kts83 _ | exact kts102 _ | exact kts52 _)) ?_; show wpAny _ _ (leaving _ _) _ _ _)
  k_with "leaving ref" => (k_here; first
      | (refine' leave_onSN ?k1 ?k2 ?k3 ?k4 ?_; (case k3 => assumption); (case k2 => assumption); (case k1 => assumption); (case k4 => assumption); intro h' R1' R2' U1'; (try dsimp only at R1' U1' ⊢))
      | (refine' leave_made ?k1 ?k0 ?k2 ?k3 ?_; (case k0 => assumption); (case k2 => k_asm); (case k1 => assumption); (case k3 => k_asm); intro h' R1' R2' U1'; (try dsimp only at R1' U1' ⊢))
      | (refine' leave_from ?k1 ?k0 ?k2 ?k3 ?_; (case k0 => assumption); (case k2 => assumption); (case k1 => assumption); (case k3 => assumption); intro h' R1' R2' U1'; (try dsimp only at R1' U1' ⊢)))
  k_with "call ref" => (k_here; (with_reducible show wpAny _ _ (call (Value.ref 102) [Value.int _ _]) _ _ _); (refine mk_crash_K (by k_asm) (by k_asm) (by assumption) ?h0 ?h1 ?hd ?hu ?_; (case h0 => omega); (case h1 => omega); (case hd => ktr_room); (case hu => ktr_units)); intro h' tk' e' x')
  k_with "call ref" => (k_here; (with_reducible show wpAny _ _ (call (Value.ref 52) [Value.str _ _]) _ _ _); (refine mk_arg_K (by k_asm) (by k_asm) (by assumption) ?hd ?hu ?_; (case hd => ktr_room); (case hu => ktr_units)); intro h' tk' e' x')
  k_with "eval Name" => (k_here; k_dflt (refine nameX_F (by k_asm) (by rfl) (by k_mem) (by assumption) ?_))
  k_with "call ref" => (k_here; (with_reducible show wpAny _ _ (call (Value.ref 206) _) _ _ _); k_dflt (refine' plic_bad _ _ _ _ _ _ _ _ hodd hb _ _ _ _ _ _ _ _ _ _ _ _ _ _ _ _ _ ?B ?F ?X ?Y ?XB ?TB ?N ?T ?hk ?hd ?hu ?_; (case B => k_asm); (case F => k_asm); (case X => k_asm); (case Y => assumption); (case XB => assumption); (case TB => assumption); (case N => k_asm); (case T => k_asm); (case hk => rfl); (case hd => ktr_room); (case hu => ktr_units)); intro g' h' e' tk' F' R' U'; (try dsimp only at R' U' ⊢))
  k_with "leaving ref" => (k_here; (refine' leave_onX ?k1 ?k2 ?k3 ?k4 ?_; (case k3 => assumption); (case k2 => assumption); (case k1 => assumption); (case k4 => assumption); intro h' R1' R2' U1'; (try dsimp only at R1' U1' ⊢)))
  unfold RaiseCl
  dsimp only [lamBody3, lamScope3, noArgs]
  k_fill
  intro dp un gd cn cs a ccd cl outer A₀ base h₀ L m s Q E B F X Y XB TB N T hk hd hu hE
  refine wpAny_call ?_
  (refine' kla_code ?k1 ?k2 ?k3 ?k4 ?k5 ?kA ?kF ?kK ?k6 ?k7 ?k8 ?k9 ?kB ?_ ?c2 ?c3 ?c4 ?c5; (case kA => exact rfl); (case kF => exact rfl); (case kK => assumption); (case k1 => k_asm); (case k2 => k_asm); (case k3 => k_asm); (case k4 => k_asm); (case k5 => k_asm); (case k6 => k_mem); (case k7 => exact codeRec_news (by k_asm) (by k_mem) (by assumption) (by assumption)); (case k8 => ktr_room); (case k9 => exact rfl); (case c5 => decide); (case kB => exact locs rfl); (case c2 => exact rfl); (case c3 => exact rfl); (case c4 => exact rfl); k_whole; intro g' L' h' FG' F' N' B' X' T'; (try dsimp only); (try k_lift B'); (try k_fold))
  k_steps
  all_goals exact hE _ _ _ _ (by assumption) (by assumption) (by assumption)
end
end Mine
end
section
open PySem PySem.W PyProof.Rows PySem.Calls PySem.Spec
set_option linter.unusedVariables false
namespace Mine
/-- the dict of a board -/
abbrev plicD (w : World) (t1 t2 t3 t4 t5 t6 t7 u1 u2 u3 u4 : Tok) (pr en th : Addr) : Obj :=
  dictOf [ent w "sources" t1 (.int 31 u1), ent w "contexts" t2 (.int 15872 u2), ent w "priorities" t3 (.ref pr), ent w "lines" t4 (.int 0 u3), ent w "served" t5 (.int 0 u4), ent w "enabled" t6 (.ref en), ent w "thresholds" t7 (.ref th)] 7
theorem news_ofB {h₀ h : Heap} {L : Addr} {l l' : List (Addr × Obj)} (N : News h₀ L h l) (s : ∀ p ∈ l', p ∈ l) : News h₀ L h l' := fun p hp => N p (s p hp)
theorem mem_consB {q : Addr × Obj} {r l : List (Addr × Obj)} (h : q ∈ l) (t : ∀ p ∈ r, p ∈ l) : ∀ p ∈ q :: r, p ∈ l := fun p hp => by
  rcases List.mem_cons.mp hp with rfl | hp
  · exact h
  · exact t p hp
section
set_option maxRecDepth 100000 in
set_option maxHeartbeats 4000000 in
theorem plic_new (w : World) (mean : ExcName → Option Value) (mg mb : Str → Option Value) (own : List (Addr × Obj)) (t1 t2 : Tok) :
  ∀ (dp un9 : Nat) (gd : Option (List Code)) (cn : Str) (cs : Scope) (a : Addr) (ccd : Value) (cl : List (Str × Addr)) (outer : List Env) (A₀ : Around) (base h₀ : Heap) (L : Addr) (m : Str → Option Value) (s : Shared) (Q E : Value → Shared → Prop),
    Below A₀ base outer h₀ → Fr h₀ L s.heap m → (hd.heap_1 w.params).In h₀ → KX w base → Top topProg LO mean mg mb h₀ → cs.kind = .function →
    News h₀ L s.heap own → dp + 3 < 350 → un9 + 24 < 300 →
    (∀ h' tks (f df pr en th : Nat) vp ve vt ne nt s1 s2 s3 s4 s5 s6 s7 v1 v2 v3 v4, Fr h₀ L h' m → News h₀ L h' ((th, W.listOf (List.toArray vt) 0) :: (en, W.listOf (List.toArray ve) 0) :: (pr, W.listOf (List.toArray vp) 0) :: (f, instObj 206 df) :: (df, plicD w s1 s2 s3 s4 s5 s6 s7 v1 v2 v3 v4 pr en th) :: own) →
      IntsAre ve ne → IntsAre vt nt → (ne.length : Int) = 15872 → (nt.length : Int) = 15872 → (∀ i, ne.getD i 0 = 0) → (∀ i, nt.getD i 0 = 0) → AllLt df own → df < f ∧ f < pr ∧ pr < en ∧ en < th → Q (.ref f) { s with heap := h', toks := tks }) →
    wpAny (model Challenge.rw_pq0901_01.row.prog w) (ktrTop dp un9 gd cn cs L a ccd cl outer) (call (.ref 206) [.int 31 t1, .int 15872 t2]) Q E s := by
  k_with_none
  w_top off
  k_with "execs cons" => (with_reducible refine forget_toks ?_; intro tk'; (rename News _ _ _ _ => hN9); (try dsimp only at hN9))
  k_with "call type:bytes" => (k_here; (with_reducible show wpAny _ _ (call (Value.type "bytes") [Value.int _ _]) _ _ _); k_dflt (refine' bytes_int_K ?h0 ?h1 ?hh ?hd ?hu ?_; (case h0 => omega); (case h1 => omega); (case hh => rfl); (case hd => ktr_room); (case hu => ktr_units)); intro tk' t'; (try dsimp only))
  k_with "binaryOp Mult ref int" => (k_here; (with_reducible show wpAny _ _ (binaryOp Operator.Mult (Value.ref _) (Value.int _ _)) _ _ _); k_dflt (refine' mul0_K ?F ?N ?l ?lo ?hi ?_; (case F => k_asm); (case N => k_asm); (case l => k_mem); (case lo => first | decide | omega); (case hi => first | decide | omega)); intro D' h' vs' ns' F' N' l1 hi' hn' hz'; (try k_lt l1))
  k_fill
  intro dp un9 gd cn cs a ccd cl outer A₀ base h₀ L m s Q E B F X Y T hk N hd hu hret
  k_dflt (refine' call_cls ?k1 ?k2 ?k3 ?k4 ?k5 ?k6 ?_; (case k1 => k_asm); (case k2 => k_asm); (case k3 => k_asm); (case k4 => k_is); (case k5 => k_is); (case k6 => k_is); k_whole; intro x' d' h' F' N' l1 l2; (try k_lt l1); (try k_lt2 l2); (try k_sweep))
  k_dflt (refine' code_def ?k1 ?k2 ?k3 ?k4 ?k5 ?kA ?kF ?kK ?k6 ?k7 ?k8 ?k9 ?kB ?_ ?c2 ?c3 ?c4 ?c5; (case kA => exact rfl); (case kF => exact rfl); (case kK => assumption); (case k1 => k_asm); (case k2 => k_asm); (case k3 => k_asm); (case k4 => k_asm); (case k5 => k_asm); (case k6 => k_is); (case k7 => k_is); (case k8 => ktr_room); (case k9 => first | exact BindsTo.of_eq rfl | exact binds_K (by k_in) rfl (by k_is) rfl rfl rfl); (case c5 => decide); (case kB => exact locs rfl); (case c2 => exact rfl); (case c3 => exact rfl); (case c4 => exact rfl); k_whole; intro g' L' h' FG' F' N' B' X' T'; (try dsimp only); (try k_lift B'); (try k_fold))
  k_steps
  all_goals (refine hret _ _ _ _ _ _ _ _ _ _ _ _ _ _ _ _ _ _ _ _ _ _ _ (by assumption) (news_ofB (by assumption) (mem_consB (List.Mem.head _) (mem_consB (.tail _ (.tail _ (List.Mem.head _))) (mem_consB (.tail _ (.tail _ (.tail _ (.tail _ (List.Mem.head _))))) (mem_consB (by k_mem) (mem_consB (by k_mem) (fun p hp => .tail _ (.tail _ (.tail _ (.tail _ (.tail _ (.tail _ (.tail _ (.tail _ (hp))))))))))))))) (by assumption) (by assumption) (by assumption) (by assumption) (by assumption) (by assumption) (by first | assumption | exact allLt_of (by assumption) | exact AL.all_drop 0 (by assumption) rfl) ?_; refine ⟨?_, ?_, ?_, ?_⟩ <;> (refine ltN ?_; first | assumption | (with_reducible refine AL.lt (by with_reducible assumption) ?_; cell_call) | omega))
end
end Mine
end
section
open PySem PySem.W PyProof.Rows PySem.Calls PySem.Spec
set_option linter.unusedVariables false
namespace Mine
theorem divmod_L {prog : Program} {w : World} {A : Around} {E : Value → Shared → Prop} {s : Shared} {h₀ : Heap} {L : Addr} {m : Str → Option Value} {news : List (Addr × Obj)} {a b q r : Int} {t u : Tok} {Q : Value → Shared → Prop} (hq : a.fdiv b = q) (hr : a.fmod b = r) (hb : b ≠ 0) (hlog : -9999999 < a ∧ a < 9999999 ∧ 0 < b ∧ b < 9999) (F : Fr h₀ L s.heap m) (N : News h₀ L s.heap news)
    (h : ∀ (D : Nat) h' tk t1 t2, Fr h₀ L h' m → News h₀ L h' ((D, { cls := .type "tuple", data := .seq #[.int q t1, .int r t2] }) :: news) → (∀ p ∈ news, p.1 < D) → Q (.ref D) { s with heap := h', toks := tk }) :
    wpAny (model prog w) A (call (.builtin "divmod") [.int a t, .int b u]) Q E s := by
  subst hq hr
  exact divmod_N F N hb (fun h' F' N' => h _ h' _ _ _ F' N' fun p hp => Heap.lt_size (N p hp).1) (Or.inl (PyProof.noPylong_small (by omega)))
section
set_option maxRecDepth 100000 in
set_option maxHeartbeats 4000000 in
theorem enable_yes {w : World} {mean : ExcName → Option Value} {mg mb : Str → Option Value} {own : List (Addr × Obj)} {t1 t2 t3 t4 t5 t6 t7 u1 u2 u3 u4 tp : Tok} {f df pr en th : Addr} {place q : Int}
    (hq : (place - 8192).fdiv 128 = q) (hr : (place - 8192).fmod 128 = 0) (h0 : 0 ≤ q) (h1 : q < 15872) (hp : 0 ≤ place ∧ place < 3000000)
    {dp un9 : Nat} {gd : Option (List Code)} {cn : Str} {cs : Scope} {a : Addr} {ccd : Value} {cl : List (Str × Addr)} {outer : List Env} {A₀ : Around} {base h₀ : Heap} {L : Addr} {m : Str → Option Value} {s : Shared} {Q E : Value → Shared → Prop}
    (B : Below A₀ base outer h₀) (F : Fr h₀ L s.heap m) (X : (Mine.hd.heap_1 w.params).In h₀) (Y : KX w base) (T : Top topProg LO mean mg mb h₀) (hk : cs.kind = .function)
    (N : News h₀ L s.heap ((f, instObj 206 df) :: (df, plicD w t1 t2 t3 t4 t5 t6 t7 u1 u2 u3 u4 pr en th) :: own)) (hd : dp + 2 < 350) (hu : un9 + 16 < 300)
    (hret : ∀ h' tks (t : Tok), Fr h₀ L h' m → News h₀ L h' ((f, instObj 206 df) :: (df, plicD w t1 t2 t3 t4 t5 t6 t7 u1 u2 u3 u4 pr en th) :: own) → Q (.int q t) { s with heap := h', toks := tks }) :
    wpAny (model Challenge.rw_pq0901_01.row.prog w) (ktrTop dp un9 gd cn cs L a ccd cl outer) (call (.ref 189) [.ref f, .int place tp]) Q E s := by
  k_with_none
  w_top off
  k_with "execs cons" => (with_reducible refine forget_toks ?_; intro tk'; (rename News _ _ _ _ => hN9); (try dsimp only at hN9))
  k_with "call builtin:divmod" => (k_here; k_dflt (refine divmod_L hq hr (by decide) (by omega) (by k_asm) (by k_asm) ?_); intro D' h' tk' t1' t2' F' N' l1; (try k_lt l1))
  revert X; k_fill; intro X
  refine wpAny_call ?_
  k_dflt cell_enter
  k_steps
  all_goals (first | exact hret _ _ _ (by k_asm) (by first | assumption | exact kti_tail (by assumption) | exact kti_tail (kti_tail (by assumption))) | exact hret _ _ (by k_asm) (by first | assumption | exact kti_tail (by assumption) | exact kti_tail (kti_tail (by assumption))))
set_option maxRecDepth 100000 in
set_option maxHeartbeats 4000000 in
theorem enable_no {w : World} {mean : ExcName → Option Value} {mg mb : Str → Option Value} {own : List (Addr × Obj)} {t1 t2 t3 t4 t5 t6 t7 u1 u2 u3 u4 tp : Tok} {f df pr en th : Addr} {place q : Int}
    (hq : (place - 8192).fdiv 128 = q) (hr : (place - 8192).fmod 128 = 0) (h0 : 0 ≤ q) (h1 : 15872 ≤ q) (hp : 0 ≤ place ∧ place < 3000000)
    {dp un9 : Nat} {gd : Option (List Code)} {cn : Str} {cs : Scope} {a : Addr} {ccd : Value} {cl : List (Str × Addr)} {outer : List Env} {A₀ : Around} {base h₀ : Heap} {L : Addr} {m : Str → Option Value} {s : Shared} {Q E : Value → Shared → Prop}
    (B : Below A₀ base outer h₀) (F : Fr h₀ L s.heap m) (X : (Mine.hd.heap_1 w.params).In h₀) (Y : KX w base) (T : Top topProg LO mean mg mb h₀) (hk : cs.kind = .function)
    (N : News h₀ L s.heap ((f, instObj 206 df) :: (df, plicD w t1 t2 t3 t4 t5 t6 t7 u1 u2 u3 u4 pr en th) :: own)) (hd : dp + 2 < 350) (hu : un9 + 16 < 300)
    (hret : ∀ h' tks , Fr h₀ L h' m → News h₀ L h' ((f, instObj 206 df) :: (df, plicD w t1 t2 t3 t4 t5 t6 t7 u1 u2 u3 u4 pr en th) :: own) → Q .none { s with heap := h', toks := tks }) :
    wpAny (model Challenge.rw_pq0901_01.row.prog w) (ktrTop dp un9 gd cn cs L a ccd cl outer) (call (.ref 189) [.ref f, .int place tp]) Q E s := by
  k_with_none
  w_top off
  k_with "execs cons" => (with_reducible refine forget_toks ?_; intro tk'; (rename News _ _ _ _ => hN9); (try dsimp only at hN9))
  k_with "call builtin:divmod" => (k_here; k_dflt (refine divmod_L hq hr (by decide) (by omega) (by k_asm) (by k_asm) ?_); intro D' h' tk' t1' t2' F' N' l1; (try k_lt l1))
  revert X; k_fill; intro X
  refine wpAny_call ?_
  k_dflt cell_enter
  k_steps
  all_goals (first | exact hret _ _ _ (by k_asm) (by first | assumption | exact kti_tail (by assumption) | exact kti_tail (kti_tail (by assumption))) | exact hret _ _ (by k_asm) (by first | assumption | exact kti_tail (by assumption) | exact kti_tail (kti_tail (by assumption))))
end
end Mine
end
section
open PySem PySem.W PyProof.Rows PySem.Calls PySem.Spec
set_option linter.unusedVariables false
namespace Mine
theorem menu_odd {prog : Program} {w : World} {A : Around} {E : Value → Shared → Prop} {s : Shared} {h₀ : Heap} {L l : Addr} {news : List (Addr × Obj)} {value slice : PySem.Expr} {t0 t1 t2 t3 t4 u : Tok} {n : Nat} {v : Int} {Q : Value → Shared → Prop} (N : News h₀ L s.heap news) (hm : (l, W.listOf #[.int 0 t0, .int (-1) t1, .int 15873 t2, .int 16321 t3, .int 20000 t4] n) ∈ news) (h0 : 0 ≤ v) (h1 : v < 5)
    (h : ∀ odd t, (odd < 1 ∨ 15872 < odd) → (-9 < odd ∧ odd < 99999) → Q (.int odd t) s)
    (hs : subscripted slice false (.ref l) (.int v u) = operate [.ref l, .int v u] (getItem (.ref l) (.int v u)) := by with_unfolding_all rfl) :
    wpAny (model prog w) A (subscriptTail value slice (.ref l) (.int v u)) Q E s := by
  have e5 : v = 0 ∨ v = 1 ∨ v = 2 ∨ v = 3 ∨ v = 4 := by omega
  refine item_anyK (vs := [.int 0 t0, .int (-1) t1, .int 15873 t2, .int 16321 t3, .int 20000 t4]) (ns := [0, -1, 15873, 16321, 20000]) (PySem.IsL.isList (n := n) (N _ hm).1) (.cons _ _ (.cons _ _ (.cons _ _ (.cons _ _ (.cons _ _ .nil))))) h0 (show v < 5 from h1) (by omega) (fun t => h _ t ?_ ?_) hs
  · rcases e5 with rfl | rfl | rfl | rfl | rfl <;> decide
  · rcases e5 with rfl | rfl | rfl | rfl | rfl <;> decide
theorem refused_plic {w : World} {mean : ExcName → Option Value} {mg mb : Str → Option Value} {rest : List (Addr × Obj)} {lam c' cO : Addr} {odd : Int} {t : Tok} {pm ctv : Value} {oc oO : Obj} {qual : Str} {vs : Array Value} {tq : Tok}
    {dp un9 : Nat} {gd : Option (List Code)} {cn : Str} {cs : Scope} {a : Addr} {ccd : Value} {cl : List (Str × Addr)} {outer : List Env} {A₀ : Around} {base h₀ : Heap} {L : Addr} {m : Str → Option Value} {s : Shared} {Q E : Value → Shared → Prop}
    (B : Below A₀ base outer h₀) (F : Fr h₀ L s.heap m) (X : (hd.heap_1 w.params).In h₀) (Y : KX w base) (XB : (hd.heap_1 w.params).In base) (TB : Top topProg LO mean mg mb base) (T : Top topProg LO mean mg mb h₀) (D : KtsDicts (frs outer) h₀) (hk : cs.kind = .function) (hd : dp + 5 < 350) (hu : un9 + 40 < 300)
    (N : News h₀ L s.heap ((lam, kla_obj "<lambda>" qual noArgs lamBody3 lamScope3 [("odd", cO)] pm c' ctv) :: rest)) (m3 : (c', oc) ∈ rest) (m6 : (cO, oO) ∈ rest)
    (hoc : oc.data = .fields vs) (hvs : vs[1]? = some (.str qual tq)) (hO : oO.data = .cell (some (.int odd t))) (hodd : odd < 1 ∨ 15872 < odd) (hb : -9 < odd ∧ odd < 99999)
    (h : ∀ h₁ h' tk', KtsTurn (frs outer) h₀ h₁ → Fr h₁ L h' m → News h₁ L h' rest → Below A₀ base outer h₁ → (Mine.hd.heap_1 w.params).In h₁ → Top topProg LO mean mg mb h₁ → KtsDicts (frs outer) h₁ → Q (.bool true) { s with heap := h', toks := tk' }) :
    wpAny (model Challenge.rw_pq0901_01.row.prog w) (ktrTop dp un9 gd cn cs L a ccd cl outer) (call (.ref 334) [.ref lam, .ref 52]) Q E s := by
  have r := lam_raise3 w mean mg mb rest lam c' cO odd t pm ctv oc oO qual vs tq hoc hvs hO hodd hb
  have r2 : RaiseCl w mean mg mb (.ref lam) [] 52 4 ((lam, kla_obj "<lambda>" qual noArgs lamBody3 lamScope3 [("odd", cO)] pm c' ctv) :: rest) rest := by
    refine r.mono (fun p hp => ?_) fun p hp => .tail _ (.tail _ (.tail _ hp))
    rcases List.mem_cons.mp hp with rfl | hp
    · exact .head _
    rcases List.mem_cons.mp hp with rfl | hp
    · exact .tail _ m3
    rcases List.mem_cons.mp hp with rfl | hp
    · exact .tail _ m6
    exact .tail _ hp
  exact refused w mean mg mb rest rest lam 52 c' 4 qual lamBody3 lamScope3 _ pm ctv (exm52 _) r2 dp un9 gd cn cs a ccd cl outer A₀ base h₀ L m s Q E B F X Y XB TB N T D hk (by omega) (by omega) h
theorem end_val {ns' ne nt : List Int} {x v : Int} {k1 k2 : Nat} (hv : ns'.getD (Int.toNat 15871) 0 = x) (ho : ∀ i, i ≠ Int.toNat 15871 → ns'.getD i 0 = ne.getD i 0) (ze : ∀ i, ne.getD i 0 = 0) (hnt : (nt.length : Int) = 15872) (hk1 : k1 = 0) (hk2 : k2 = 0) :
    (ns'.getD (Int.toNat 15871) 0 == x && ((nt.set k1 v).getD k2 0 == v && ns'.getD (Int.toNat 0) 0 == 0)) = true := by
  subst hk1 hk2
  have h1 := ho (Int.toNat 0) (by decide)
  rw [ze] at h1
  have h2 : (nt.set 0 v).getD 0 0 = v := by
    cases nt with
    | nil => simp at hnt
    | cons a r => rfl
  rw [hv, h2, h1]
  simp
abbrev pos3 : Pos := { line := 254, col := 27, endLine := 254, endCol := 48 }
section
set_option maxRecDepth 100000 in
set_option maxHeartbeats 40000000 in
theorem board_right (w : World) (mean : ExcName → Option Value) (mg mb : Str → Option Value) (pen scr po : Nat) (zo : Obj) (vs : List Value) (ns : List Int) (tk te : Tok) (nl : Nat) (k e : Int)
    (hord : po < 350 ∧ 350 < scr ∧ scr < pen) (hi : IntsAre vs ns) (hl : ns.length ≤ 63) (k0 : 0 ≤ k) (k1 : k ≤ 60) (e0 : 0 ≤ e) (e1 : e ≤ 60) :
  ∀ (dp un : Nat) (gd : Option (List Code)) (cn : Str) (cs : Scope) (a : Addr) (ccd : Value) (cl : List (Str × Addr)) (outer : List Env) (A₀ : Around) (base h₀ : Heap) (L : Addr) (m : Str → Option Value) (s : Shared) (Q E : Value → Shared → Prop),
    Below A₀ base outer h₀ → Fr h₀ L s.heap m → (hd.heap_1 w.params).In h₀ → KX w base → (hd.heap_1 w.params).In base → Top topProg LO mean mg mb base → News h₀ L s.heap ((pen, W.listOf #[.int k tk, .int e te, .ref scr] nl) :: (scr, W.listOf vs.toArray 0) :: (350, tabObj #[]) :: [(po, zo)]) → Top topProg LO mean mg mb h₀ → KtsDicts (frs outer) h₀ → CodeHd base 354 350 → cs.kind = .function →
    dp + 8 < 350 → un + 64 < 300 →
    (∀ h₁ h' tks ps, KtsTurn (frs outer) h₀ h₁ → Fr h₁ L h' m → News h₁ L h' ((350, tabObj ps) :: [(po, zo)]) → Below A₀ base outer h₁ → (hd.heap_1 w.params).In h₁ → Top topProg LO mean mg mb h₁ → KtsDicts (frs outer) h₁ → Q (.bool true) { s with heap := h', toks := tks }) →
    wpAny (model Challenge.rw_pq0901_01.row.prog w) (ktrTop dp un gd cn cs L a ccd cl outer) (call (.ref 355) [.ref pen]) Q E s := by
  k_with_none
  w_top off
  k_with "execs cons" => (with_reducible refine forget_toks ?_; intro tk'; (rename News _ _ _ _ => hN9); (try dsimp only at hN9))
  k_with "call type:bytes" => (k_here; (with_reducible show wpAny _ _ (call (Value.type "bytes") [Value.int _ _]) _ _ _); k_dflt (refine' bytes_int_K ?h0 ?h1 ?hh ?hd ?hu ?_; (case h0 => omega); (case h1 => omega); (case hh => rfl); (case hd => ktr_room); (case hu => ktr_units)); intro tk' t'; (try dsimp only))
  k_with "call ref" => (k_here; (with_reducible show wpAny _ _ (call (Value.ref 320) [Value.ref _, Value.int _ _]) _ _ _); k_dflt (refine' drawn_U ?B ?F ?X ?N ?U ?hs ?hne ?T ?hk ?hi ?hl ?k0 ?k1 ?e0 ?e1 ?m0 ?m1 ?hd ?hu ?_; (case B => k_asm); (case F => k_asm); (case X => k_asm); (case N => k_asm); (case U => k_updF); (case hs => k_mem); (case hne => k_ne); (case T => k_asm); (case hk => rfl); (case hi => assumption); (case hl => first | assumption | omega); (case k0 => first | assumption | omega); (case k1 => omega); (case e0 => first | assumption | omega); (case e1 => omega); (case m0 => omega); (case m1 => omega); (case hd => ktr_room); (case hu => ktr_units)); intro v' k' e' tk' te' t' h' tks' v0' v1' hk' he' he1' F' N'; (try have q0' := step_nonneg hk' (by assumption)); (try have q1' := Int.le_trans (by assumption) he'); (try dsimp only at N' ⊢))
  k_with "subscriptTail" => (k_here; k_dflt (refine' menu_odd ?N ?hm ?h0 ?h1 ?_; (case N => k_asm); (case hm => k_mem); (case h0 => assumption); (case h1 => assumption)); intro odd' t' hodd' hodb')
  k_with "eval Lambda" => (k_here; k_dflt (refine' lam1_make (oz := []) ?d ?F ?N ?T ?C ?cd ?U ?t ?sub ?mem ?cl ?_; (case d => exact rfl); (case F => k_asm); (case N => k_asm); (case T => k_asm); (case cd => exact rfl); (case C => kn_code); (case U => k_updF); (case t => exact .inl rfl); (case sub => exact fun p hp => nomatch hp); (case mem => k_mem); (case cl => exact rfl); k_whole); intro f' c' oc' vs' t' ct' h' tk' F' N' d1' d2' l1'; (try dsimp only at N'); (have l3' := Or.resolve_left l1' (fun h => nomatch h)); (clear l1'); (try k_lt l3'))
  k_with "call ref" => (k_here; (with_reducible show wpAny _ _ (call (Value.ref 334) [Value.ref _, Value.ref 52]) _ _ _); k_dflt (refine' refused_plic ?B ?F ?X ?Y ?XB ?TB ?T ?D ?hk ?hd ?hu ?N ?m3 ?m6 ?hoc ?hvs ?hO ?hodd ?hb ?_; (case B => k_asm); (case F => k_asm); (case X => k_asm); (case Y => assumption); (case XB => assumption); (case TB => assumption); (case T => k_asm); (case D => assumption); (case hk => rfl); (case hd => ktr_room); (case hu => ktr_units); (case N => k_asm); (case hoc => assumption); (case hvs => assumption); (case m3 => k_mem); (case m6 => k_mem); (case hO => assumption); (case hodd => assumption); (case hb => assumption)); intro h1' h' tk' T1' F' N' B' X' P' D')
  k_with "call ref" => (k_here; (with_reducible show wpAny _ _ (call (Value.ref 206) _) _ _ _); k_dflt (refine' plic_new _ _ _ _ _ _ _ _ _ _ _ _ _ _ _ _ _ _ _ _ _ _ _ _ ?B ?F ?X ?Y ?T ?hk ?N ?hd ?hu ?_; (case B => k_asm); (case F => k_asm); (case X => k_asm); (case Y => assumption); (case T => k_asm); (case hk => rfl); (case N => k_asm); (case hd => ktr_room); (case hu => ktr_units)); intro h' tks' f' df' pr' en' th' vp' ve' vt' ne' nt' s1' s2' s3' s4' s5' s6' s7' v1' v2' v3' v4' F' N' ie' it' le' lt' ze' zt' l1' l2'; (have b1' := AL.ofAll l1'); (have b2' := AL.step b1' l2'.1); (have b3' := AL.step b2' l2'.2.1); (have b4' := AL.step b3' l2'.2.2.1); (have b5' := AL.step b4' l2'.2.2.2); (try dsimp only [List.map] at b1' b2' b3' b4' b5'); clear l1')
  k_with "call ref" => (k_here; (with_reducible show wpAny _ _ (call (Value.ref 189) [Value.ref _, Value.int _ _]) _ _ _); k_dflt (first | (refine' enable_yes (q := 15871) (by decide) (by decide) (by decide) (by decide) (by decide) ?B ?F ?X ?Y ?T ?hk ?N ?hd ?hu ?_; (case B => k_asm); (case F => k_asm); (case X => k_asm); (case Y => assumption); (case T => k_asm); (case hk => rfl); (case N => exact news_of (by k_asm) (mem_cons (by k_mem) (mem_cons (by k_mem) (fun p hp => hp)))); (case hd => ktr_room); (case hu => ktr_units)) | (refine' enable_no (q := 16320) (by decide) (by decide) (by decide) (by decide) (by decide) ?B ?F ?X ?Y ?T ?hk ?N ?hd ?hu ?_; (case B => k_asm); (case F => k_asm); (case X => k_asm); (case Y => assumption); (case T => k_asm); (case hk => rfl); (case N => exact news_of (by k_asm) (mem_cons (by k_mem) (mem_cons (by k_mem) (fun p hp => hp)))); (case hd => ktr_room); (case hu => ktr_units)) | (refine' enable_yes (q := 0) (by decide) (by decide) (by decide) (by decide) (by decide) ?B ?F ?X ?Y ?T ?hk ?N ?hd ?hu ?_; (case B => k_asm); (case F => k_asm); (case X => k_asm); (case Y => assumption); (case T => k_asm); (case hk => rfl); (case N => exact news_of (by k_asm) (mem_cons (by k_mem) (mem_cons (by k_mem) (fun p hp => hp)))); (case hd => ktr_room); (case hu => ktr_units))); first | (intro h' tks' t' F' N'; replace N' := kti_tail (kti_tail N')) | (intro h' tks' F' N'; replace N' := kti_tail (kti_tail N')))
  k_with "callWith ref" => (k_here; (with_reducible show wpAny _ _ (callWith _ (Value.ref 334) _ _ _) _ _ _); k_dflt (refine' callWith_K ?k1 ?k2 ?_; (case k1 => k_asm); (case k2 => k_is); k_whole))
  k_with "binaryOp BitAnd int int" => (k_here; k_dflt (refine' and_rule ?e ?_; (case e => first | exact and_let rfl (by assumption) (by assumption) (by decide) | exact and_floor (by assumption) (by assumption) (by decide))))
  k_with "setItem ref int" => (k_here; k_dflt (refine' set_O ?F ?N ?U ?hi ?h0 ?h1 ?hfit ?_; (case F => k_asm); (case N => k_asm); (case U => k_updF); (case hi => assumption); (case h0 => first | decide | omega); (case h1 => omega); (case hfit => first | decide | omega)); intro h' vs' ns' F' N' hi' hl' hv' ho'; (try dsimp only at N'))
  k_with "call builtin:divmod" => (k_here; k_dflt (first | refine divmod_L (q := 15871) (r := 0) (by decide) (by decide) (by decide) (by decide) (by k_asm) (by k_asm) ?_ | refine divmod_L (q := 16320) (r := 0) (by decide) (by decide) (by decide) (by decide) (by k_asm) (by k_asm) ?_ | refine divmod_L (q := 0) (r := 0) (by decide) (by decide) (by decide) (by decide) (by k_asm) (by k_asm) ?_); intro D' h' tk' t1' t2' F' N' l1; (try k_lt l1))
  k_fill
  intro dp un gd cn cs a ccd cl outer A₀ base h₀ L m s Q E B F X Y XB TB N T D hcode hk hd hu hret
  have aP : AL pen [scr, 350, po] := fun b hb => by simp at hb; omega
  have aS : AL scr [350, po] := fun b hb => by simp at hb; omega
  have aO : AL 350 [po] := fun b hb => by simp at hb; omega
  refine wpAny_call ?_
  (refine' code_TC ?k1 ?k2 ?k3 ?k4 ?k5 ?XB ?TB ?D ?kA ?k6 ?k7 ?k8 ?k9 ?kB ?kD ?_ ?kK ?c2 ?c3 ?c4; (case kA => exact rfl); (case kK => assumption); (case k1 => k_asm); (case k2 => k_asm); (case k3 => k_asm); (case k4 => k_asm); (case k5 => k_asm); (case XB => assumption); (case TB => assumption); (case D => assumption); (case k6 => k_is); (case k7 => k_is); (case k8 => ktr_room); (case k9 => exact BindsTo.of_eq rfl); (case kB => exact rfl); (case kD => decide +kernel); (case c2 => exact rfl); (case c3 => exact rfl); (case c4 => exact rfl); k_whole; intro g' L' h' tk' cells' FG' F' N' Y' B' X' T' D' l1; (try k_lt l1); k_cells Y'; (try simp only [List.cons_append, List.nil_append] at N'); (try dsimp only); (try k_lift B'); (try k_fold))
  k_steps
  all_goals (
    rw [end_val (by assumption) (by assumption) (by assumption) (by assumption) (by decide) (by decide)]
    (k_dflt (refine' LeaveT.intro ?F ?N ?T ?_; (case F => k_asm); (case N => k_asm); (case T => assumption)))
    intro h1' T1' F1' N1' B1' X1' P1' D1'
    exact hret _ _ _ _ T1' F1' (news_of N1' (mem_cons (by k_mem) (mem_cons (by k_mem) mem_nil))) B1' X1' P1' D1')
end
end Mine
end
section
open PySem PySem.W PyProof.Rows PySem.Calls
set_option linter.unusedVariables false
namespace Mine
theorem fr_base {A : Around} {base g h : Heap} {outer : List Env} {L : Addr} {m : Str → Option Value} (B : Below A base outer g) (F : Fr g L h m) (hs : base.objs.size ≤ L) : Fr base L h m := ⟨F.ns, fun b o e => F.keep b o (B.stays b o e), hs⟩
theorem kbKeys (P : Params) : ((KB P).all fun p => !(p.1 == 350 || p.1 == 343)) = true := by kernel_rfl
theorem KX_ghost {w : World} {h : Heap} (X : KX w h) : KX w (ghostOf h [(354, 350), (347, 343)]) := fun a o e => by
  refine ghost_ne (X a o e) ?_
  have h2 := List.all_eq_true.mp (kbKeys w.params) _ (mem_of_lookupK e)
  simp at h2
  simp
  exact h2
section
set_option maxRecDepth 100000 in
set_option maxHeartbeats 4000000 in
theorem law_holds : PySem.Challenge.rw_pq0901_01.Holds := by
  k_with_none
  w_top off
  k_with "execs cons" => (with_reducible refine forget_toks ?_; intro tk'; (rename News _ _ _ _ => hN9); (try dsimp only at hN9))
  k_with "call ref" => (k_here; (with_reducible show wpAny _ _ (call (Value.ref 348) _) _ _ _); k_dflt (refine' disk_right _ _ _ _ _ _ 350 (tabObj #[]) _ _ _ _ _ ?hord ?hi ?hl _ _ _ _ _ _ _ _ _ _ _ _ _ _ _ _ _ ?B ?F ?X ?Y ?XB ?TB ?N ?T ?D ?hcode ?hk ?hd ?hu ?_; (case B => k_asm); (case F => k_asm); (case X => assumption); (case Y => exact KX_ghost (by assumption)); (case XB => assumption); (case TB => assumption); (case N => exact news_of (by k_asm) (mem_cons (by k_mem) (mem_cons (by k_mem) (mem_cons (by k_mem) (mem_cons (by k_mem) mem_nil))))); (case T => assumption); (case D => exact fun b hb => nomatch hb); (case hcode => assumption); (case hk => rfl); (case hd => ktr_room); (case hu => ktr_units); (case hord => refine ⟨?_, ?_, ?_⟩ <;> (refine ltN ?_; first | assumption | (with_reducible refine AL.lt (by with_reducible assumption) ?_; cell_call) | omega)); (case hi => assumption); (case hl => omega)); intro h1' h' tks' k' e' tk' te' ps' T1' F' N' B' X' P' D' k0' k1' e0' e1')
  k_with "call ref" => (k_here; (with_reducible show wpAny _ _ (call (Value.ref 355) _) _ _ _); k_dflt (refine' board_right _ _ _ _ _ _ 343 _ _ _ _ _ _ _ _ ?hord ?hi ?hl ?k0 ?k1 ?e0 ?e1 _ _ _ _ _ _ _ _ _ _ _ _ _ _ _ _ _ ?B ?F ?X ?Y ?XB ?TB ?N ?T ?D ?hcode ?hk ?hd ?hu ?_; (case B => k_asm); (case F => k_asm); (case X => assumption); (case Y => exact KX_ghost (by assumption)); (case XB => assumption); (case TB => assumption); (case N => exact news_of (by k_asm) (mem_cons (by k_mem) (mem_cons (by k_mem) (mem_cons (by k_mem) (mem_cons (by k_mem) mem_nil))))); (case T => assumption); (case D => assumption); (case hcode => assumption); (case hk => rfl); (case hd => ktr_room); (case hu => ktr_units); (case hord => refine ⟨?_, ?_, ?_⟩ <;> (refine ltN ?_; first | assumption | (with_reducible refine AL.lt (by with_reducible assumption) ?_; cell_call) | omega)); (case hi => assumption); (case hl => omega); (case k0 => assumption); (case k1 => assumption); (case e0 => assumption); (case e1 => assumption)); intro h1' h' tks' ps' T1' F' N' B' X' P' D')
  refine hd ?_
  w_strict ((
      k_fill
      intro w s₀ s₁ mg mb G YY fa o pm cd doc dV kV ho hd hcd hD hmg hg args vals as hpre hlay hrd hwl hlo
      have Y := YY.1
      have KAX : KX w s₁.heap := KB_of (kIn_of YY.2) (km_in_of Y)
      have KX := km_in_of Y
      km_tabs Y
      have X := (Ground.X G).1
      have V := (Ground.X G).2
      refine Ground.open G ?_
      intro T B D TE TW
      try (refine guard_noD D (by decide +kernel) ?_; clear D)
      km_lay T hmg ho hd cd
      clear hmg
      wrow_args hpre hlay hrd hwl hlo
      all_goals (
        first | refine callC_kw (enter_call ?_) | refine enter_call ?_
        w_top on
        kn_posts
        w_call any ho hd hcd hD T F
        clear hd
        kn_ghosts F T
        k_drop
        skip)); (all_goals try k_fold); k_steps; (all_goals (refine goodW_bool (fr_base (by assumption) (by assumption) (Nat.le_of_eq (hideAll_size _ _))) (by assumption) ?_ ?_); all_goals (first | exact fun _ => rfl | with_unfolding_all rfl)))
end
end Mine
end
open PySem PySem.W PyProof.Rows
theorem PySem.Challenge.cw_pq0901_01_holds : PySem.Challenge.rw_pq0901_01.Holds := by
  exact Mine.law_holds
