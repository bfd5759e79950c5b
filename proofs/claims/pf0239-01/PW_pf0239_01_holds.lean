import PyProof.Rows.All
import Wide.All
import OpenK.AllK
import Wide.FinOn
import PyProof.ListRange
import PyProof.FactsAll.range_1
import PyProof.AttrMissSeq
import PyProof.Rows.SetFrom
import KE.KDictOf
import PyProof.Rows.ListUnroll
import PyProof.Rows.EqDataRows
import PyProof.P3Eq
import PyProof.IsRules
import PyProof.WalkInts
import PyProof.SeqI3
import KE.KLcTest
import KE.KxBytes
import KE.KListLetter
import Lean
import PySem.Challenge.RW_pf0239_01
open PySem PySem.W PySem.Spec PySem.Calls PyProof.Rows
set_option Elab.async false
set_option maxRecDepth 100000
set_option maxHeartbeats 0
set_option genInjectivity false
set_option genSizeOf false
namespace Mine
inductive Wsec (n : Nat) : Prop where
  | mk : Wsec n
local macro_rules | `(tactic| walk_at $s:str) => `(tactic| k_extra $(Lean.Syntax.mkStrLit ("W:" ++ s.getString)))
local macro_rules | `(tactic| omega) => `(tactic| k_extra "W:m_quick")
local macro_rules | `(tactic| k_extra "T") => `(tactic| exact fun a _ => a)
local macro_rules | `(tactic| k_extra $s:str) => do
  let t := s.getString.toList
  if t.take 2 == ['S', ':'] then
    let ns := (t.drop 2).toArray.map fun c => Lean.Syntax.mkNumLit (toString c.toNat)
    `(tactic| exact Str.mk #[$[nat_lit $ns],*])
  else Lean.Macro.throwUnsupported
noncomputable abbrev Tw {α : Type} (o : Option α) : Type := (a : α) → o = some a → α
section
open PySem.W.X
noncomputable def fnOfStmt : PySem.Stmt → Option (PySem.Arguments × List PySem.Stmt × PySem.Scope)
  | .FunctionDef _ args body _ _ _ scope _ _ _ => some (args, body, scope)
  | _ => none
noncomputable def stAt (i : Nat) : Option (PySem.Arguments × List PySem.Stmt × PySem.Scope) := match PySem.Challenge.pw_pf0239_01.main.body[i]? with
  | some s => fnOfStmt s
  | none => none
noncomputable def stAtM (i j : Nat) : Option (PySem.Arguments × List PySem.Stmt × PySem.Scope) := match PySem.Challenge.pw_pf0239_01.main.body[i]? with
  | some (.ClassDef _ _ _ body _ _ _ _ _ _ _) => (match body[j]? with | some s => fnOfStmt s | none => none)
  | _ => none
noncomputable def argsAt (i : Nat) : Option PySem.Arguments := match stAt i with | some (a, _, _) => some a | none => none
noncomputable def bodyAt (i : Nat) : Option (List PySem.Stmt) := match stAt i with | some (_, b, _) => some b | none => none
noncomputable def scopeAt (i : Nat) : Option PySem.Scope := match stAt i with | some (_, _, c) => some c | none => none
noncomputable def argsAtM (i j : Nat) : Option PySem.Arguments := match stAtM i j with | some (a, _, _) => some a | none => none
noncomputable def bodyAtM (i j : Nat) : Option (List PySem.Stmt) := match stAtM i j with | some (_, b, _) => some b | none => none
noncomputable def scopeAtM (i j : Nat) : Option PySem.Scope := match stAtM i j with | some (_, _, c) => some c | none => none
noncomputable def K : Params → Frag := fun P =>
  (nat_lit 0, ⟨(.type "dict"), none, (.dict #[⟨PyData.keyHash P (by k_extra "S:__name__"), (.str (by k_extra "S:__name__") 1), (.str (by k_extra "S:builtins") 160)⟩, ⟨PyData.keyHash P (by k_extra "S:__doc__"), (.str (by k_extra "S:__doc__") 2), (.builtin "builtins.__doc__:str#opaque")⟩, ⟨PyData.keyHash P (by k_extra "S:__package__"), (.str (by k_extra "S:__package__") 3), (.builtin "builtins.__package__:str#opaque")⟩, ⟨PyData.keyHash P (by k_extra "S:__loader__"), (.str (by k_extra "S:__loader__") 4), (.builtin "builtins.__loader__:shared#opaque")⟩, ⟨PyData.keyHash P (by k_extra "S:__spec__"), (.str (by k_extra "S:__spec__") 5), (.builtin "builtins.__spec__#opaque")⟩, ⟨PyData.keyHash P (by k_extra "S:__build_class__"), (.str (by k_extra "S:__build_class__") 6), (.builtin "__build_class__")⟩, ⟨PyData.keyHash P (by k_extra "S:__import__"), (.str (by k_extra "S:__import__") 7), (.builtin "__import__")⟩, ⟨PyData.keyHash P (by k_extra "S:abs"), (.str (by k_extra "S:abs") 8), (.builtin "abs")⟩, ⟨PyData.keyHash P (by k_extra "S:all"), (.str (by k_extra "S:all") 9), (.builtin "all")⟩, ⟨PyData.keyHash P (by k_extra "S:any"), (.str (by k_extra "S:any") 10), (.builtin "any")⟩, ⟨PyData.keyHash P (by k_extra "S:ascii"), (.str (by k_extra "S:ascii") 11), (.builtin "ascii")⟩, ⟨PyData.keyHash P (by k_extra "S:bin"), (.str (by k_extra "S:bin") 12), (.builtin "bin")⟩, ⟨PyData.keyHash P (by k_extra "S:breakpoint"), (.str (by k_extra "S:breakpoint") 13), (.builtin "breakpoint")⟩, ⟨PyData.keyHash P (by k_extra "S:callable"), (.str (by k_extra "S:callable") 14), (.builtin "callable")⟩, ⟨PyData.keyHash P (by k_extra "S:chr"), (.str (by k_extra "S:chr") 15), (.builtin "chr")⟩, ⟨PyData.keyHash P (by k_extra "S:compile"), (.str (by k_extra "S:compile") 16), (.builtin "compile")⟩, ⟨PyData.keyHash P (by k_extra "S:delattr"), (.str (by k_extra "S:delattr") 17), (.builtin "delattr")⟩, ⟨PyData.keyHash P (by k_extra "S:dir"), (.str (by k_extra "S:dir") 18), (.builtin "dir")⟩, ⟨PyData.keyHash P (by k_extra "S:divmod"), (.str (by k_extra "S:divmod") 19), (.builtin "divmod")⟩, ⟨PyData.keyHash P (by k_extra "S:eval"), (.str (by k_extra "S:eval") 20), (.builtin "eval")⟩, ⟨PyData.keyHash P (by k_extra "S:exec"), (.str (by k_extra "S:exec") 21), (.builtin "exec")⟩, ⟨PyData.keyHash P (by k_extra "S:format"), (.str (by k_extra "S:format") 22), (.builtin "format")⟩, ⟨PyData.keyHash P (by k_extra "S:getattr"), (.str (by k_extra "S:getattr") 23), (.builtin "getattr")⟩, ⟨PyData.keyHash P (by k_extra "S:globals"), (.str (by k_extra "S:globals") 24), (.builtin "globals")⟩, ⟨PyData.keyHash P (by k_extra "S:hasattr"), (.str (by k_extra "S:hasattr") 25), (.builtin "hasattr")⟩, ⟨PyData.keyHash P (by k_extra "S:hash"), (.str (by k_extra "S:hash") 26), (.builtin "hash")⟩, ⟨PyData.keyHash P (by k_extra "S:hex"), (.str (by k_extra "S:hex") 27), (.builtin "hex")⟩, ⟨PyData.keyHash P (by k_extra "S:id"), (.str (by k_extra "S:id") 28), (.builtin "id")⟩, ⟨PyData.keyHash P (by k_extra "S:input"), (.str (by k_extra "S:input") 29), (.builtin "input")⟩, ⟨PyData.keyHash P (by k_extra "S:isinstance"), (.str (by k_extra "S:isinstance") 30), (.builtin "isinstance")⟩, ⟨PyData.keyHash P (by k_extra "S:issubclass"), (.str (by k_extra "S:issubclass") 31), (.builtin "issubclass")⟩, ⟨PyData.keyHash P (by k_extra "S:iter"), (.str (by k_extra "S:iter") 32), (.builtin "iter")⟩, ⟨PyData.keyHash P (by k_extra "S:aiter"), (.str (by k_extra "S:aiter") 33), (.builtin "aiter")⟩, ⟨PyData.keyHash P (by k_extra "S:len"), (.str (by k_extra "S:len") 34), (.builtin "len")⟩, ⟨PyData.keyHash P (by k_extra "S:locals"), (.str (by k_extra "S:locals") 35), (.builtin "locals")⟩, ⟨PyData.keyHash P (by k_extra "S:max"), (.str (by k_extra "S:max") 36), (.builtin "max")⟩, ⟨PyData.keyHash P (by k_extra "S:min"), (.str (by k_extra "S:min") 37), (.builtin "min")⟩, ⟨PyData.keyHash P (by k_extra "S:next"), (.str (by k_extra "S:next") 38), (.builtin "next")⟩, ⟨PyData.keyHash P (by k_extra "S:anext"), (.str (by k_extra "S:anext") 39), (.builtin "anext")⟩, ⟨PyData.keyHash P (by k_extra "S:oct"), (.str (by k_extra "S:oct") 40), (.builtin "oct")⟩, ⟨PyData.keyHash P (by k_extra "S:ord"), (.str (by k_extra "S:ord") 41), (.builtin "ord")⟩, ⟨PyData.keyHash P (by k_extra "S:pow"), (.str (by k_extra "S:pow") 42), (.builtin "pow")⟩, ⟨PyData.keyHash P (by k_extra "S:print"), (.str (by k_extra "S:print") 43), (.builtin "print")⟩, ⟨PyData.keyHash P (by k_extra "S:repr"), (.str (by k_extra "S:repr") 44), (.builtin "repr")⟩, ⟨PyData.keyHash P (by k_extra "S:round"), (.str (by k_extra "S:round") 45), (.builtin "round")⟩, ⟨PyData.keyHash P (by k_extra "S:setattr"), (.str (by k_extra "S:setattr") 46), (.builtin "setattr")⟩, ⟨PyData.keyHash P (by k_extra "S:sorted"), (.str (by k_extra "S:sorted") 47), (.builtin "sorted")⟩, ⟨PyData.keyHash P (by k_extra "S:sum"), (.str (by k_extra "S:sum") 48), (.builtin "sum")⟩, ⟨PyData.keyHash P (by k_extra "S:vars"), (.str (by k_extra "S:vars") 49), (.builtin "vars")⟩, ⟨PyData.keyHash P (by k_extra "S:None"), (.str (by k_extra "S:None") 50), .none⟩, ⟨PyData.keyHash P (by k_extra "S:Ellipsis"), (.str (by k_extra "S:Ellipsis") 51), .ellipsis⟩, ⟨PyData.keyHash P (by k_extra "S:NotImplemented"), (.str (by k_extra "S:NotImplemented") 52), .notImplemented⟩, ⟨PyData.keyHash P (by k_extra "S:False"), (.str (by k_extra "S:False") 53), (.bool false)⟩, ⟨PyData.keyHash P (by k_extra "S:True"), (.str (by k_extra "S:True") 54), (.bool true)⟩, ⟨PyData.keyHash P (by k_extra "S:bool"), (.str (by k_extra "S:bool") 55), (.type "bool")⟩, ⟨PyData.keyHash P (by k_extra "S:memoryview"), (.str (by k_extra "S:memoryview") 56), (.type "memoryview")⟩, ⟨PyData.keyHash P (by k_extra "S:bytearray"), (.str (by k_extra "S:bytearray") 57), (.type "bytearray")⟩, ⟨PyData.keyHash P (by k_extra "S:bytes"), (.str (by k_extra "S:bytes") 58), (.type "bytes")⟩, ⟨PyData.keyHash P (by k_extra "S:classmethod"), (.str (by k_extra "S:classmethod") 59), (.type "classmethod")⟩, ⟨PyData.keyHash P (by k_extra "S:complex"), (.str (by k_extra "S:complex") 60), (.type "complex")⟩, ⟨PyData.keyHash P (by k_extra "S:dict"), (.str (by k_extra "S:dict") 61), (.type "dict")⟩, ⟨PyData.keyHash P (by k_extra "S:enumerate"), (.str (by k_extra "S:enumerate") 62), (.type "enumerate")⟩, ⟨PyData.keyHash P (by k_extra "S:filter"), (.str (by k_extra "S:filter") 63), (.type "filter")⟩, ⟨PyData.keyHash P (by k_extra "S:float"), (.str (by k_extra "S:float") 64), (.type "float")⟩, ⟨PyData.keyHash P (by k_extra "S:frozenset"), (.str (by k_extra "S:frozenset") 65), (.type "frozenset")⟩, ⟨PyData.keyHash P (by k_extra "S:property"), (.str (by k_extra "S:property") 66), (.type "property")⟩, ⟨PyData.keyHash P (by k_extra "S:int"), (.str (by k_extra "S:int") 67), (.type "int")⟩, ⟨PyData.keyHash P (by k_extra "S:list"), (.str (by k_extra "S:list") 68), (.type "list")⟩, ⟨PyData.keyHash P (by k_extra "S:map"), (.str (by k_extra "S:map") 69), (.type "map")⟩, ⟨PyData.keyHash P (by k_extra "S:object"), (.str (by k_extra "S:object") 70), (.type "object")⟩, ⟨PyData.keyHash P (by k_extra "S:range"), (.str (by k_extra "S:range") 71), (.type "range")⟩, ⟨PyData.keyHash P (by k_extra "S:reversed"), (.str (by k_extra "S:reversed") 72), (.type "reversed")⟩, ⟨PyData.keyHash P (by k_extra "S:set"), (.str (by k_extra "S:set") 73), (.type "set")⟩, ⟨PyData.keyHash P (by k_extra "S:slice"), (.str (by k_extra "S:slice") 74), (.type "slice")⟩, ⟨PyData.keyHash P (by k_extra "S:staticmethod"), (.str (by k_extra "S:staticmethod") 75), (.type "staticmethod")⟩, ⟨PyData.keyHash P (by k_extra "S:str"), (.str (by k_extra "S:str") 76), (.type "str")⟩, ⟨PyData.keyHash P (by k_extra "S:super"), (.str (by k_extra "S:super") 77), (.type "super")⟩, ⟨PyData.keyHash P (by k_extra "S:tuple"), (.str (by k_extra "S:tuple") 78), (.type "tuple")⟩, ⟨PyData.keyHash P (by k_extra "S:type"), (.str (by k_extra "S:type") 79), (.type "type")⟩, ⟨PyData.keyHash P (by k_extra "S:zip"), (.str (by k_extra "S:zip") 80), (.type "zip")⟩, ⟨PyData.keyHash P (by k_extra "S:__debug__"), (.str (by k_extra "S:__debug__") 81), (.bool true)⟩, ⟨PyData.keyHash P (by k_extra "S:BaseException"), (.str (by k_extra "S:BaseException") 82), (.type "BaseException")⟩, ⟨PyData.keyHash P (by k_extra "S:BaseExceptionGroup"), (.str (by k_extra "S:BaseExceptionGroup") 83), (.type "BaseExceptionGroup")⟩, ⟨PyData.keyHash P (by k_extra "S:Exception"), (.str (by k_extra "S:Exception") 84), (.type "Exception")⟩, ⟨PyData.keyHash P (by k_extra "S:GeneratorExit"), (.str (by k_extra "S:GeneratorExit") 85), (.type "GeneratorExit")⟩, ⟨PyData.keyHash P (by k_extra "S:KeyboardInterrupt"), (.str (by k_extra "S:KeyboardInterrupt") 86), (.type "KeyboardInterrupt")⟩, ⟨PyData.keyHash P (by k_extra "S:SystemExit"), (.str (by k_extra "S:SystemExit") 87), (.type "SystemExit")⟩, ⟨PyData.keyHash P (by k_extra "S:ArithmeticError"), (.str (by k_extra "S:ArithmeticError") 88), (.type "ArithmeticError")⟩, ⟨PyData.keyHash P (by k_extra "S:AssertionError"), (.str (by k_extra "S:AssertionError") 89), (.type "AssertionError")⟩, ⟨PyData.keyHash P (by k_extra "S:AttributeError"), (.str (by k_extra "S:AttributeError") 90), (.type "AttributeError")⟩, ⟨PyData.keyHash P (by k_extra "S:BufferError"), (.str (by k_extra "S:BufferError") 91), (.type "BufferError")⟩, ⟨PyData.keyHash P (by k_extra "S:EOFError"), (.str (by k_extra "S:EOFError") 92), (.type "EOFError")⟩, ⟨PyData.keyHash P (by k_extra "S:ImportError"), (.str (by k_extra "S:ImportError") 93), (.type "ImportError")⟩, ⟨PyData.keyHash P (by k_extra "S:LookupError"), (.str (by k_extra "S:LookupError") 94), (.type "LookupError")⟩, ⟨PyData.keyHash P (by k_extra "S:MemoryError"), (.str (by k_extra "S:MemoryError") 95), (.type "MemoryError")⟩, ⟨PyData.keyHash P (by k_extra "S:NameError"), (.str (by k_extra "S:NameError") 96), (.type "NameError")⟩, ⟨PyData.keyHash P (by k_extra "S:OSError"), (.str (by k_extra "S:OSError") 97), (.type "OSError")⟩, ⟨PyData.keyHash P (by k_extra "S:ReferenceError"), (.str (by k_extra "S:ReferenceError") 98), (.type "ReferenceError")⟩, ⟨PyData.keyHash P (by k_extra "S:RuntimeError"), (.str (by k_extra "S:RuntimeError") 99), (.type "RuntimeError")⟩, ⟨PyData.keyHash P (by k_extra "S:StopAsyncIteration"), (.str (by k_extra "S:StopAsyncIteration") 100), (.type "StopAsyncIteration")⟩, ⟨PyData.keyHash P (by k_extra "S:StopIteration"), (.str (by k_extra "S:StopIteration") 101), (.type "StopIteration")⟩, ⟨PyData.keyHash P (by k_extra "S:SyntaxError"), (.str (by k_extra "S:SyntaxError") 102), (.type "SyntaxError")⟩, ⟨PyData.keyHash P (by k_extra "S:SystemError"), (.str (by k_extra "S:SystemError") 103), (.type "SystemError")⟩, ⟨PyData.keyHash P (by k_extra "S:TypeError"), (.str (by k_extra "S:TypeError") 104), (.type "TypeError")⟩, ⟨PyData.keyHash P (by k_extra "S:ValueError"), (.str (by k_extra "S:ValueError") 105), (.type "ValueError")⟩, ⟨PyData.keyHash P (by k_extra "S:Warning"), (.str (by k_extra "S:Warning") 106), (.type "Warning")⟩, ⟨PyData.keyHash P (by k_extra "S:FloatingPointError"), (.str (by k_extra "S:FloatingPointError") 107), (.type "FloatingPointError")⟩, ⟨PyData.keyHash P (by k_extra "S:OverflowError"), (.str (by k_extra "S:OverflowError") 108), (.type "OverflowError")⟩, ⟨PyData.keyHash P (by k_extra "S:ZeroDivisionError"), (.str (by k_extra "S:ZeroDivisionError") 109), (.type "ZeroDivisionError")⟩, ⟨PyData.keyHash P (by k_extra "S:BytesWarning"), (.str (by k_extra "S:BytesWarning") 110), (.type "BytesWarning")⟩, ⟨PyData.keyHash P (by k_extra "S:DeprecationWarning"), (.str (by k_extra "S:DeprecationWarning") 111), (.type "DeprecationWarning")⟩, ⟨PyData.keyHash P (by k_extra "S:EncodingWarning"), (.str (by k_extra "S:EncodingWarning") 112), (.type "EncodingWarning")⟩, ⟨PyData.keyHash P (by k_extra "S:FutureWarning"), (.str (by k_extra "S:FutureWarning") 113), (.type "FutureWarning")⟩, ⟨PyData.keyHash P (by k_extra "S:ImportWarning"), (.str (by k_extra "S:ImportWarning") 114), (.type "ImportWarning")⟩, ⟨PyData.keyHash P (by k_extra "S:PendingDeprecationWarning"), (.str (by k_extra "S:PendingDeprecationWarning") 115), (.type "PendingDeprecationWarning")⟩, ⟨PyData.keyHash P (by k_extra "S:ResourceWarning"), (.str (by k_extra "S:ResourceWarning") 116), (.type "ResourceWarning")⟩, ⟨PyData.keyHash P (by k_extra "S:RuntimeWarning"), (.str (by k_extra "S:RuntimeWarning") 117), (.type "RuntimeWarning")⟩, ⟨PyData.keyHash P (by k_extra "S:SyntaxWarning"), (.str (by k_extra "S:SyntaxWarning") 118), (.type "SyntaxWarning")⟩, ⟨PyData.keyHash P (by k_extra "S:UnicodeWarning"), (.str (by k_extra "S:UnicodeWarning") 119), (.type "UnicodeWarning")⟩, ⟨PyData.keyHash P (by k_extra "S:UserWarning"), (.str (by k_extra "S:UserWarning") 120), (.type "UserWarning")⟩, ⟨PyData.keyHash P (by k_extra "S:BlockingIOError"), (.str (by k_extra "S:BlockingIOError") 121), (.type "BlockingIOError")⟩, ⟨PyData.keyHash P (by k_extra "S:ChildProcessError"), (.str (by k_extra "S:ChildProcessError") 122), (.type "ChildProcessError")⟩, ⟨PyData.keyHash P (by k_extra "S:ConnectionError"), (.str (by k_extra "S:ConnectionError") 123), (.type "ConnectionError")⟩, ⟨PyData.keyHash P (by k_extra "S:FileExistsError"), (.str (by k_extra "S:FileExistsError") 124), (.type "FileExistsError")⟩, ⟨PyData.keyHash P (by k_extra "S:FileNotFoundError"), (.str (by k_extra "S:FileNotFoundError") 125), (.type "FileNotFoundError")⟩, ⟨PyData.keyHash P (by k_extra "S:InterruptedError"), (.str (by k_extra "S:InterruptedError") 126), (.type "InterruptedError")⟩, ⟨PyData.keyHash P (by k_extra "S:IsADirectoryError"), (.str (by k_extra "S:IsADirectoryError") 127), (.type "IsADirectoryError")⟩, ⟨PyData.keyHash P (by k_extra "S:NotADirectoryError"), (.str (by k_extra "S:NotADirectoryError") 128), (.type "NotADirectoryError")⟩, ⟨PyData.keyHash P (by k_extra "S:PermissionError"), (.str (by k_extra "S:PermissionError") 129), (.type "PermissionError")⟩, ⟨PyData.keyHash P (by k_extra "S:ProcessLookupError"), (.str (by k_extra "S:ProcessLookupError") 130), (.type "ProcessLookupError")⟩, ⟨PyData.keyHash P (by k_extra "S:TimeoutError"), (.str (by k_extra "S:TimeoutError") 131), (.type "TimeoutError")⟩, ⟨PyData.keyHash P (by k_extra "S:IndentationError"), (.str (by k_extra "S:IndentationError") 132), (.type "IndentationError")⟩, ⟨PyData.keyHash P (by k_extra "S:_IncompleteInputError"), (.str (by k_extra "S:_IncompleteInputError") 133), (.type "_IncompleteInputError")⟩, ⟨PyData.keyHash P (by k_extra "S:IndexError"), (.str (by k_extra "S:IndexError") 134), (.type "IndexError")⟩, ⟨PyData.keyHash P (by k_extra "S:KeyError"), (.str (by k_extra "S:KeyError") 135), (.type "KeyError")⟩, ⟨PyData.keyHash P (by k_extra "S:ModuleNotFoundError"), (.str (by k_extra "S:ModuleNotFoundError") 136), (.type "ModuleNotFoundError")⟩, ⟨PyData.keyHash P (by k_extra "S:NotImplementedError"), (.str (by k_extra "S:NotImplementedError") 137), (.type "NotImplementedError")⟩, ⟨PyData.keyHash P (by k_extra "S:PythonFinalizationError"), (.str (by k_extra "S:PythonFinalizationError") 138), (.type "PythonFinalizationError")⟩, ⟨PyData.keyHash P (by k_extra "S:RecursionError"), (.str (by k_extra "S:RecursionError") 139), (.type "RecursionError")⟩, ⟨PyData.keyHash P (by k_extra "S:UnboundLocalError"), (.str (by k_extra "S:UnboundLocalError") 140), (.type "UnboundLocalError")⟩, ⟨PyData.keyHash P (by k_extra "S:UnicodeError"), (.str (by k_extra "S:UnicodeError") 141), (.type "UnicodeError")⟩, ⟨PyData.keyHash P (by k_extra "S:BrokenPipeError"), (.str (by k_extra "S:BrokenPipeError") 142), (.type "BrokenPipeError")⟩, ⟨PyData.keyHash P (by k_extra "S:ConnectionAbortedError"), (.str (by k_extra "S:ConnectionAbortedError") 143), (.type "ConnectionAbortedError")⟩, ⟨PyData.keyHash P (by k_extra "S:ConnectionRefusedError"), (.str (by k_extra "S:ConnectionRefusedError") 144), (.type "ConnectionRefusedError")⟩, ⟨PyData.keyHash P (by k_extra "S:ConnectionResetError"), (.str (by k_extra "S:ConnectionResetError") 145), (.type "ConnectionResetError")⟩, ⟨PyData.keyHash P (by k_extra "S:TabError"), (.str (by k_extra "S:TabError") 146), (.type "TabError")⟩, ⟨PyData.keyHash P (by k_extra "S:UnicodeDecodeError"), (.str (by k_extra "S:UnicodeDecodeError") 147), (.type "UnicodeDecodeError")⟩, ⟨PyData.keyHash P (by k_extra "S:UnicodeEncodeError"), (.str (by k_extra "S:UnicodeEncodeError") 148), (.type "UnicodeEncodeError")⟩, ⟨PyData.keyHash P (by k_extra "S:UnicodeTranslateError"), (.str (by k_extra "S:UnicodeTranslateError") 149), (.type "UnicodeTranslateError")⟩, ⟨PyData.keyHash P (by k_extra "S:ExceptionGroup"), (.str (by k_extra "S:ExceptionGroup") 150), (.type "ExceptionGroup")⟩, ⟨PyData.keyHash P (by k_extra "S:EnvironmentError"), (.str (by k_extra "S:EnvironmentError") 151), (.type "OSError")⟩, ⟨PyData.keyHash P (by k_extra "S:IOError"), (.str (by k_extra "S:IOError") 152), (.type "OSError")⟩, ⟨PyData.keyHash P (by k_extra "S:open"), (.str (by k_extra "S:open") 153), (.builtin "open")⟩, ⟨PyData.keyHash P (by k_extra "S:quit"), (.str (by k_extra "S:quit") 154), (.builtin "builtins.quit#opaque")⟩, ⟨PyData.keyHash P (by k_extra "S:exit"), (.str (by k_extra "S:exit") 155), (.builtin "builtins.exit#opaque")⟩, ⟨PyData.keyHash P (by k_extra "S:copyright"), (.str (by k_extra "S:copyright") 156), (.builtin "builtins.copyright#opaque")⟩, ⟨PyData.keyHash P (by k_extra "S:credits"), (.str (by k_extra "S:credits") 157), (.builtin "builtins.credits#opaque")⟩, ⟨PyData.keyHash P (by k_extra "S:license"), (.str (by k_extra "S:license") 158), (.builtin "builtins.license#opaque")⟩, ⟨PyData.keyHash P (by k_extra "S:help"), (.str (by k_extra "S:help") 159), (.builtin "builtins.help#opaque")⟩] 159), #[]⟩) ::
  (nat_lit 1, ⟨(.type "dict"), none, (.dict #[⟨PyData.keyHash P (Str.ofString "builtins"), (.str (Str.ofString "builtins") 162), (.ref (nat_lit 4))⟩, ⟨PyData.keyHash P (Str.ofString "__main__"), (.str (Str.ofString "__main__") 163), (.ref (nat_lit 5))⟩] 2), #[]⟩) ::
  (nat_lit 2, ⟨.none, none, (.dict #[⟨PyData.keyHash P (Str.ofString "type.__subclasses__.Exception.0"), (.str (Str.ofString "type.__subclasses__.Exception.0") 214), (.int (31) 0)⟩, ⟨PyData.keyHash P (Str.ofString "type.__subclasses__.Exception.n"), (.str (Str.ofString "type.__subclasses__.Exception.n") 215), (.int (1) 0)⟩] 2), #[]⟩) ::
  (nat_lit 3, ⟨(.type "dict"), none, (.dict #[⟨PyData.keyHash P (by k_extra "S:__name__"), (.str (by k_extra "S:__name__") 165), (.str (by k_extra "S:law_pf0239_01") 621)⟩, ⟨PyData.keyHash P (by k_extra "S:__doc__"), (.str (by k_extra "S:__doc__") 166), .none⟩, ⟨PyData.keyHash P (by k_extra "S:__package__"), (.str (by k_extra "S:__package__") 167), .none⟩, ⟨PyData.keyHash P (by k_extra "S:__loader__"), (.str (by k_extra "S:__loader__") 168), (.builtin "__main__.__loader__#opaque")⟩, ⟨PyData.keyHash P (by k_extra "S:__spec__"), (.str (by k_extra "S:__spec__") 169), .none⟩, ⟨PyData.keyHash P (by k_extra "S:__annotations__"), (.str (by k_extra "S:__annotations__") 170), (.ref (nat_lit 6))⟩, ⟨PyData.keyHash P (by k_extra "S:__builtins__"), (.str (by k_extra "S:__builtins__") 171), (.ref (nat_lit 4))⟩, ⟨PyData.keyHash P (by k_extra "S:__file__"), (.str (by k_extra "S:__file__") 173), (.str (by k_extra "S:/claim/cut.py") 172)⟩, ⟨PyData.keyHash P (by k_extra "S:__cached__"), (.str (by k_extra "S:__cached__") 174), .none⟩, ⟨PyData.keyHash P (by k_extra "S:PressError"), (.str (by k_extra "S:PressError") 217), (.ref (nat_lit 31))⟩, ⟨PyData.keyHash P (by k_extra "S:SegmentError"), (.str (by k_extra "S:SegmentError") 233), (.ref (nat_lit 44))⟩, ⟨PyData.keyHash P (by k_extra "S:CutError"), (.str (by k_extra "S:CutError") 249), (.ref (nat_lit 56))⟩, ⟨PyData.keyHash P (by k_extra "S:RangeError"), (.str (by k_extra "S:RangeError") 265), (.ref (nat_lit 68))⟩, ⟨PyData.keyHash P (by k_extra "S:SOF0"), (.str (by k_extra "S:SOF0") 269), (.int (192) 268)⟩, ⟨PyData.keyHash P (by k_extra "S:DHT"), (.str (by k_extra "S:DHT") 271), (.int (196) 270)⟩, ⟨PyData.keyHash P (by k_extra "S:JPG"), (.str (by k_extra "S:JPG") 273), (.int (200) 272)⟩, ⟨PyData.keyHash P (by k_extra "S:DAC"), (.str (by k_extra "S:DAC") 275), (.int (204) 274)⟩, ⟨PyData.keyHash P (by k_extra "S:SOF15"), (.str (by k_extra "S:SOF15") 277), (.int (207) 276)⟩, ⟨PyData.keyHash P (by k_extra "S:is_frame"), (.str (by k_extra "S:is_frame") 284), (.ref (nat_lit 77))⟩, ⟨PyData.keyHash P (by k_extra "S:word"), (.str (by k_extra "S:word") 293), (.ref (nat_lit 84))⟩, ⟨PyData.keyHash P (by k_extra "S:OctetReader"), (.str (by k_extra "S:OctetReader") 354), (.ref (nat_lit 129))⟩, ⟨PyData.keyHash P (by k_extra "S:MOST_SAMPLING"), (.str (by k_extra "S:MOST_SAMPLING") 358), (.int (4) 357)⟩, ⟨PyData.keyHash P (by k_extra "S:MOST_SLOT"), (.str (by k_extra "S:MOST_SLOT") 360), (.int (3) 359)⟩, ⟨PyData.keyHash P (by k_extra "S:MOST_IN_SCAN"), (.str (by k_extra "S:MOST_IN_SCAN") 362), (.int (4) 361)⟩, ⟨PyData.keyHash P (by k_extra "S:MOST_PLACE"), (.str (by k_extra "S:MOST_PLACE") 364), (.int (63) 363)⟩, ⟨PyData.keyHash P (by k_extra "S:MOST_POINT"), (.str (by k_extra "S:MOST_POINT") 366), (.int (15) 365)⟩, ⟨PyData.keyHash P (by k_extra "S:ComponentHead"), (.str (by k_extra "S:ComponentHead") 401), (.ref (nat_lit 150))⟩, ⟨PyData.keyHash P (by k_extra "S:FrameHead"), (.str (by k_extra "S:FrameHead") 438), (.ref (nat_lit 171))⟩, ⟨PyData.keyHash P (by k_extra "S:ScanHead"), (.str (by k_extra "S:ScanHead") 479), (.ref (nat_lit 192))⟩, ⟨PyData.keyHash P (by k_extra "S:want"), (.str (by k_extra "S:want") 487), (.ref (nat_lit 203))⟩, ⟨PyData.keyHash P (by k_extra "S:is_lossless"), (.str (by k_extra "S:is_lossless") 494), (.ref (nat_lit 210))⟩, ⟨PyData.keyHash P (by k_extra "S:is_precision"), (.str (by k_extra "S:is_precision") 502), (.ref (nat_lit 217))⟩, ⟨PyData.keyHash P (by k_extra "S:are_unlike"), (.str (by k_extra "S:are_unlike") 510), (.ref (nat_lit 224))⟩, ⟨PyData.keyHash P (by k_extra "S:check_component"), (.str (by k_extra "S:check_component") 517), (.ref (nat_lit 231))⟩, ⟨PyData.keyHash P (by k_extra "S:check_frame"), (.str (by k_extra "S:check_frame") 523), (.ref (nat_lit 236))⟩, ⟨PyData.keyHash P (by k_extra "S:read_frame"), (.str (by k_extra "S:read_frame") 540), (.ref (nat_lit 243))⟩, ⟨PyData.keyHash P (by k_extra "S:write_frame"), (.str (by k_extra "S:write_frame") 549), (.ref (nat_lit 250))⟩, ⟨PyData.keyHash P (by k_extra "S:check_scan"), (.str (by k_extra "S:check_scan") 559), (.ref (nat_lit 257))⟩, ⟨PyData.keyHash P (by k_extra "S:read_scan"), (.str (by k_extra "S:read_scan") 575), (.ref (nat_lit 264))⟩, ⟨PyData.keyHash P (by k_extra "S:write_scan"), (.str (by k_extra "S:write_scan") 584), (.ref (nat_lit 271))⟩, ⟨PyData.keyHash P (by k_extra "S:read_number"), (.str (by k_extra "S:read_number") 591), (.ref (nat_lit 278))⟩, ⟨PyData.keyHash P (by k_extra "S:read_interval"), (.str (by k_extra "S:read_interval") 598), (.ref (nat_lit 285))⟩, ⟨PyData.keyHash P (by k_extra "S:write_interval"), (.str (by k_extra "S:write_interval") 605), (.ref (nat_lit 292))⟩, ⟨PyData.keyHash P (by k_extra "S:read_lines"), (.str (by k_extra "S:read_lines") 613), (.ref (nat_lit 299))⟩, ⟨PyData.keyHash P (by k_extra "S:write_lines"), (.str (by k_extra "S:write_lines") 620), (.ref (nat_lit 306))⟩, ⟨PyData.keyHash P (by k_extra "S:_law_well"), (.str (by k_extra "S:_law_well") 632), (.ref (nat_lit 313))⟩, ⟨PyData.keyHash P (by k_extra "S:_law_draw"), (.str (by k_extra "S:_law_draw") 641), (.ref (nat_lit 320))⟩, ⟨PyData.keyHash P (by k_extra "S:_law_side"), (.str (by k_extra "S:_law_side") 648), (.ref (nat_lit 327))⟩, ⟨PyData.keyHash P (by k_extra "S:_law_most"), (.str (by k_extra "S:_law_most") 657), (.ref (nat_lit 334))⟩, ⟨PyData.keyHash P (by k_extra "S:_law_heard"), (.str (by k_extra "S:_law_heard") 664), (.ref (nat_lit 341))⟩, ⟨PyData.keyHash P (by k_extra "S:_law_codes"), (.str (by k_extra "S:_law_codes") 670), (.ref (nat_lit 348))⟩, ⟨PyData.keyHash P (by k_extra "S:_law_lets_bits"), (.str (by k_extra "S:_law_lets_bits") 678), (.ref (nat_lit 355))⟩, ⟨PyData.keyHash P (by k_extra "S:_law_frame"), (.str (by k_extra "S:_law_frame") 690), (.ref (nat_lit 362))⟩, ⟨PyData.keyHash P (by k_extra "S:_law_lets_frame"), (.str (by k_extra "S:_law_lets_frame") 696), (.ref (nat_lit 367))⟩, ⟨PyData.keyHash P (by k_extra "S:_law_row_of"), (.str (by k_extra "S:_law_row_of") 702), (.ref (nat_lit 372))⟩, ⟨PyData.keyHash P (by k_extra "S:_law_frame_right"), (.str (by k_extra "S:_law_frame_right") 708), (.ref (nat_lit 377))⟩, ⟨PyData.keyHash P (by k_extra "S:_law_octets_right"), (.str (by k_extra "S:_law_octets_right") 723), (.ref (nat_lit 384))⟩, ⟨PyData.keyHash P (by k_extra "S:_law_scan"), (.str (by k_extra "S:_law_scan") 729), (.ref (nat_lit 389))⟩, ⟨PyData.keyHash P (by k_extra "S:_law_lets_scan"), (.str (by k_extra "S:_law_lets_scan") 735), (.ref (nat_lit 394))⟩, ⟨PyData.keyHash P (by k_extra "S:_law_scan_right"), (.str (by k_extra "S:_law_scan_right") 753), (.ref (nat_lit 401))⟩, ⟨PyData.keyHash P (by k_extra "S:_law_rims_right"), (.str (by k_extra "S:_law_rims_right") 761), (.ref (nat_lit 408))⟩, ⟨PyData.keyHash P (by k_extra "S:law"), (.str (by k_extra "S:law") 767), (.ref (nat_lit 413))⟩] 62), #[]⟩) ::
  (nat_lit 4, ⟨(.type "module"), (some 0), .plain, #[]⟩) ::
  (nat_lit 5, ⟨(.type "module"), (some 3), .plain, #[]⟩) ::
  (nat_lit 6, ⟨(.type "dict"), none, (.dict #[] 0), #[]⟩) ::
  (nat_lit 7, ⟨(.type "tuple"), none, (.seq #[] 0), #[]⟩) ::
  (nat_lit 9, ⟨(.type "code"), none, (.fields #[(.str (Str.ofString "<module>") 176), (.str (Str.ofString "<module>") 177), (.str (Str.ofString "/claim/cut.py") 178), (.int (1) 0), (.int (0) 0), (.int (0) 0), (.int (0) 0), (.int (0) 0), (.ref (nat_lit 7)), (.bool false), (.int (175) 0), (.ref (nat_lit 8)), .none, .none, .none, .none, (.int (179) 0), (.int (1) 0), (.str (Str.ofString "/claim/cut.py") 180)]), #[]⟩) ::
  (nat_lit 10, ⟨(.type "frame"), none, .plain, #[(some (.ref (nat_lit 9))), (some (.ref (nat_lit 3))), (some (.ref (nat_lit 3))), none, (some (.str (Str.ofString "__main__") 164)), none, (some (.ref (nat_lit 0)))]⟩) ::
  (nat_lit 11, ⟨(.type "tuple"), none, (.seq #[] 0), #[]⟩) ::
  (nat_lit 13, ⟨(.type "code"), none, (.fields #[(.str (Str.ofString "<module>") 182), (.str (Str.ofString "<module>") 183), (.str (Str.ofString "/claim/cut.py") 184), (.int (1) 0), (.int (0) 0), (.int (0) 0), (.int (0) 0), (.int (0) 0), (.ref (nat_lit 11)), (.bool false), (.int (181) 0), (.ref (nat_lit 12)), .none, .none, .none, .none, (.int (185) 0), (.int (1) 0), (.str (Str.ofString "/claim/cut.py") 186)]), #[]⟩) ::
  (nat_lit 14, ⟨(.type "frame"), none, .plain, #[(some (.ref (nat_lit 13))), (some (.ref (nat_lit 3))), (some (.ref (nat_lit 3))), none, (some (.str (Str.ofString "__main__") 164)), none, (some (.ref (nat_lit 0)))]⟩) ::
  (nat_lit 15, ⟨(.type "tuple"), none, (.seq #[(.type "Exception")] 0), #[]⟩) ::
  (nat_lit 22, ⟨(.type "tuple"), none, (.seq #[] 0), #[]⟩) ::
  (nat_lit 24, ⟨(.type "tuple"), none, (.seq #[(.str (Str.ofString "self") 204), (.str (Str.ofString "message") 205)] 0), #[]⟩) ::
  (nat_lit 25, ⟨(.type "tuple"), none, (.seq #[] 0), #[]⟩) ::
  (nat_lit 26, ⟨.none, none, (.func ⟨(Str.ofString "__init__"), (Str.ofString "PressError.__init__"), (by refine (?_ : Tw (argsAtM 1 0)) _ rfl; k_extra "T"), .stmts ((by refine (?_ : Tw (bodyAtM 1 0)) _ rfl; k_extra "T")), (by refine (?_ : Tw (scopeAtM 1 0)) _ rfl; k_extra "T"), 0, [], .none, .none, .none, .none, none, .none, .none, 0⟩), #[]⟩) ::
  (nat_lit 27, ⟨(.type "code"), none, (.fields #[(.str (Str.ofString "__init__") 201), (.str (Str.ofString "PressError.__init__") 202), (.str (Str.ofString "/claim/cut.py") 203), (.int (4) 0), (.int (2) 0), (.int (0) 0), (.int (0) 0), (.int (3) 0), (.ref (nat_lit 22)), (.bool true), (.int (181) 0), (.ref (nat_lit 23)), .none, (.ref (nat_lit 24)), (.ref (nat_lit 25)), (.ref (nat_lit 26)), (.int (206) 0), (.int (4) 0), (.str (Str.ofString "/claim/cut.py") 207)]), #[]⟩) ::
  (nat_lit 28, ⟨(.type "function"), none, (.func ⟨(Str.ofString "__init__"), (Str.ofString "PressError.__init__"), (by refine (?_ : Tw (argsAtM 1 0)) _ rfl; k_extra "T"), .stmts ((by refine (?_ : Tw (bodyAtM 1 0)) _ rfl; k_extra "T")), (by refine (?_ : Tw (scopeAtM 1 0)) _ rfl; k_extra "T"), 3, [], .none, .none, .none, (.str (Str.ofString "pixelpress.errors") 187), none, (.ref (nat_lit 27)), .none, 0⟩), #[]⟩) ::
  (nat_lit 29, ⟨(.type "tuple"), none, (.seq #[(.str (Str.ofString "message") 209)] 0), #[]⟩) ::
  (nat_lit 30, ⟨(.type "dict"), none, (.dict #[⟨PyData.keyHash P (Str.ofString "__module__"), (.str (Str.ofString "__module__") 196), (.str (Str.ofString "pixelpress.errors") 187)⟩, ⟨PyData.keyHash P (Str.ofString "__firstlineno__"), (.str (Str.ofString "__firstlineno__") 200), (.int (2) 199)⟩, ⟨PyData.keyHash P (Str.ofString "__init__"), (.str (Str.ofString "__init__") 208), (.ref (nat_lit 28))⟩, ⟨PyData.keyHash P (Str.ofString "__static_attributes__"), (.str (Str.ofString "__static_attributes__") 210), (.ref (nat_lit 29))⟩, ⟨PyData.keyHash P (Str.ofString "__weakref__"), (.str (Str.ofString "__weakref__") 212), (.ref (nat_lit 32))⟩, ⟨PyData.keyHash P (Str.ofString "__doc__"), (.str (Str.ofString "__doc__") 213), .none⟩] 3), #[]⟩) ::
  (nat_lit 31, ⟨(.type "type"), none, (.cls ⟨(Str.ofString "PressError"), [(.type "Exception")], [(.ref (nat_lit 31)), (.type "Exception"), (.type "BaseException"), (.type "object")], 30, (Str.ofString "PressError"), true, [], [(.ref (nat_lit 44)), (.ref (nat_lit 56)), (.ref (nat_lit 68))], false, none, false⟩), #[(some (.ref (nat_lit 15))), none, (some (.str (Str.ofString "PressError") 189)), (some (.str (Str.ofString "PressError") 197)), (some (.builtin "Exception.__new__")), (some (.bool true))]⟩) ::
  (nat_lit 32, ⟨(.type "getset_descriptor"), none, (.fields #[(.str (Str.ofString "__weakref__") 211), (.ref (nat_lit 31)), (.builtin "ExceptionGroup.__weakref__"), .none]), #[]⟩) ::
  (nat_lit 35, ⟨(.type "tuple"), none, (.seq #[(.ref (nat_lit 31))] 0), #[]⟩) ::
  (nat_lit 42, ⟨(.type "tuple"), none, (.seq #[] 0), #[]⟩) ::
  (nat_lit 43, ⟨(.type "dict"), none, (.dict #[⟨PyData.keyHash P (Str.ofString "__module__"), (.str (Str.ofString "__module__") 225), (.str (Str.ofString "pixelpress.errors") 187)⟩, ⟨PyData.keyHash P (Str.ofString "__firstlineno__"), (.str (Str.ofString "__firstlineno__") 229), (.int (7) 228)⟩, ⟨PyData.keyHash P (Str.ofString "__static_attributes__"), (.str (Str.ofString "__static_attributes__") 230), (.ref (nat_lit 42))⟩, ⟨PyData.keyHash P (Str.ofString "__doc__"), (.str (Str.ofString "__doc__") 231), .none⟩] 2), #[]⟩) ::
  (nat_lit 44, ⟨(.type "type"), none, (.cls ⟨(Str.ofString "SegmentError"), [(.ref (nat_lit 31))], [(.ref (nat_lit 44)), (.ref (nat_lit 31)), (.type "Exception"), (.type "BaseException"), (.type "object")], 43, (Str.ofString "SegmentError"), true, [], [], false, none, false⟩), #[(some (.ref (nat_lit 35))), none, (some (.str (Str.ofString "SegmentError") 218)), (some (.str (Str.ofString "SegmentError") 226)), (some (.builtin "Exception.__new__")), (some (.bool true))]⟩) ::
  (nat_lit 47, ⟨(.type "tuple"), none, (.seq #[(.ref (nat_lit 31))] 0), #[]⟩) ::
  (nat_lit 54, ⟨(.type "tuple"), none, (.seq #[] 0), #[]⟩) ::
  (nat_lit 55, ⟨(.type "dict"), none, (.dict #[⟨PyData.keyHash P (Str.ofString "__module__"), (.str (Str.ofString "__module__") 241), (.str (Str.ofString "pixelpress.errors") 187)⟩, ⟨PyData.keyHash P (Str.ofString "__firstlineno__"), (.str (Str.ofString "__firstlineno__") 245), (.int (9) 244)⟩, ⟨PyData.keyHash P (Str.ofString "__static_attributes__"), (.str (Str.ofString "__static_attributes__") 246), (.ref (nat_lit 54))⟩, ⟨PyData.keyHash P (Str.ofString "__doc__"), (.str (Str.ofString "__doc__") 247), .none⟩] 2), #[]⟩) ::
  (nat_lit 56, ⟨(.type "type"), none, (.cls ⟨(Str.ofString "CutError"), [(.ref (nat_lit 31))], [(.ref (nat_lit 56)), (.ref (nat_lit 31)), (.type "Exception"), (.type "BaseException"), (.type "object")], 55, (Str.ofString "CutError"), true, [], [], false, none, false⟩), #[(some (.ref (nat_lit 47))), none, (some (.str (Str.ofString "CutError") 234)), (some (.str (Str.ofString "CutError") 242)), (some (.builtin "Exception.__new__")), (some (.bool true))]⟩) ::
  (nat_lit 59, ⟨(.type "tuple"), none, (.seq #[(.ref (nat_lit 31))] 0), #[]⟩) ::
  (nat_lit 66, ⟨(.type "tuple"), none, (.seq #[] 0), #[]⟩) ::
  (nat_lit 67, ⟨(.type "dict"), none, (.dict #[⟨PyData.keyHash P (Str.ofString "__module__"), (.str (Str.ofString "__module__") 257), (.str (Str.ofString "pixelpress.errors") 187)⟩, ⟨PyData.keyHash P (Str.ofString "__firstlineno__"), (.str (Str.ofString "__firstlineno__") 261), (.int (11) 260)⟩, ⟨PyData.keyHash P (Str.ofString "__static_attributes__"), (.str (Str.ofString "__static_attributes__") 262), (.ref (nat_lit 66))⟩, ⟨PyData.keyHash P (Str.ofString "__doc__"), (.str (Str.ofString "__doc__") 263), .none⟩] 2), #[]⟩) ::
  (nat_lit 68, ⟨(.type "type"), none, (.cls ⟨(Str.ofString "RangeError"), [(.ref (nat_lit 31))], [(.ref (nat_lit 68)), (.ref (nat_lit 31)), (.type "Exception"), (.type "BaseException"), (.type "object")], 67, (Str.ofString "RangeError"), true, [], [], false, none, false⟩), #[(some (.ref (nat_lit 59))), none, (some (.str (Str.ofString "RangeError") 250)), (some (.str (Str.ofString "RangeError") 258)), (some (.builtin "Exception.__new__")), (some (.bool true))]⟩) ::
  (nat_lit 71, ⟨(.type "tuple"), none, (.seq #[] 0), #[]⟩) ::
  (nat_lit 73, ⟨(.type "tuple"), none, (.seq #[(.str (Str.ofString "code") 281)] 0), #[]⟩) ::
  (nat_lit 74, ⟨(.type "tuple"), none, (.seq #[] 0), #[]⟩) ::
  (nat_lit 75, ⟨.none, none, (.func ⟨(Str.ofString "is_frame"), (Str.ofString "is_frame"), (by refine (?_ : Tw (argsAt 11)) _ rfl; k_extra "T"), .stmts ((by refine (?_ : Tw (bodyAt 11)) _ rfl; k_extra "T")), (by refine (?_ : Tw (scopeAt 11)) _ rfl; k_extra "T"), 0, [], .none, .none, .none, .none, none, .none, .none, 0⟩), #[]⟩) ::
  (nat_lit 76, ⟨(.type "code"), none, (.fields #[(.str (Str.ofString "is_frame") 278), (.str (Str.ofString "is_frame") 279), (.str (Str.ofString "/claim/cut.py") 280), (.int (19) 0), (.int (1) 0), (.int (0) 0), (.int (0) 0), (.int (3) 0), (.ref (nat_lit 71)), (.bool true), (.int (181) 0), (.ref (nat_lit 72)), .none, (.ref (nat_lit 73)), (.ref (nat_lit 74)), (.ref (nat_lit 75)), (.int (282) 0), (.int (19) 0), (.str (Str.ofString "/claim/cut.py") 283)]), #[]⟩) ::
  (nat_lit 77, ⟨(.type "function"), none, (.func ⟨(Str.ofString "is_frame"), (Str.ofString "is_frame"), (by refine (?_ : Tw (argsAt 11)) _ rfl; k_extra "T"), .stmts ((by refine (?_ : Tw (bodyAt 11)) _ rfl; k_extra "T")), (by refine (?_ : Tw (scopeAt 11)) _ rfl; k_extra "T"), 3, [], .none, .none, .none, (.str (Str.ofString "pixelpress.markers") 266), none, (.ref (nat_lit 76)), .none, 0⟩), #[]⟩) ::
  (nat_lit 78, ⟨(.type "tuple"), none, (.seq #[] 0), #[]⟩) ::
  (nat_lit 80, ⟨(.type "tuple"), none, (.seq #[(.str (Str.ofString "n") 290)] 0), #[]⟩) ::
  (nat_lit 81, ⟨(.type "tuple"), none, (.seq #[] 0), #[]⟩) ::
  (nat_lit 82, ⟨.none, none, (.func ⟨(Str.ofString "word"), (Str.ofString "word"), (by refine (?_ : Tw (argsAt 13)) _ rfl; k_extra "T"), .stmts ((by refine (?_ : Tw (bodyAt 13)) _ rfl; k_extra "T")), (by refine (?_ : Tw (scopeAt 13)) _ rfl; k_extra "T"), 0, [], .none, .none, .none, .none, none, .none, .none, 0⟩), #[]⟩) ::
  (nat_lit 83, ⟨(.type "code"), none, (.fields #[(.str (Str.ofString "word") 287), (.str (Str.ofString "word") 288), (.str (Str.ofString "/claim/cut.py") 289), (.int (22) 0), (.int (1) 0), (.int (0) 0), (.int (0) 0), (.int (3) 0), (.ref (nat_lit 78)), (.bool true), (.int (181) 0), (.ref (nat_lit 79)), .none, (.ref (nat_lit 80)), (.ref (nat_lit 81)), (.ref (nat_lit 82)), (.int (291) 0), (.int (22) 0), (.str (Str.ofString "/claim/cut.py") 292)]), #[]⟩) ::
  (nat_lit 84, ⟨(.type "function"), none, (.func ⟨(Str.ofString "word"), (Str.ofString "word"), (by refine (?_ : Tw (argsAt 13)) _ rfl; k_extra "T"), .stmts ((by refine (?_ : Tw (bodyAt 13)) _ rfl; k_extra "T")), (by refine (?_ : Tw (scopeAt 13)) _ rfl; k_extra "T"), 3, [], .none, .none, .none, (.str (Str.ofString "pixelpress.octets") 285), none, (.ref (nat_lit 83)), .none, 0⟩), #[]⟩) ::
  (nat_lit 92, ⟨(.type "tuple"), none, (.seq #[] 0), #[]⟩) ::
  (nat_lit 94, ⟨(.type "tuple"), none, (.seq #[(.str (Str.ofString "self") 309), (.str (Str.ofString "octets") 310)] 0), #[]⟩) ::
  (nat_lit 95, ⟨(.type "tuple"), none, (.seq #[] 0), #[]⟩) ::
  (nat_lit 96, ⟨.none, none, (.func ⟨(Str.ofString "__init__"), (Str.ofString "OctetReader.__init__"), (by refine (?_ : Tw (argsAtM 14 0)) _ rfl; k_extra "T"), .stmts ((by refine (?_ : Tw (bodyAtM 14 0)) _ rfl; k_extra "T")), (by refine (?_ : Tw (scopeAtM 14 0)) _ rfl; k_extra "T"), 0, [], .none, .none, .none, .none, none, .none, .none, 0⟩), #[]⟩) ::
  (nat_lit 97, ⟨(.type "code"), none, (.fields #[(.str (Str.ofString "__init__") 306), (.str (Str.ofString "OctetReader.__init__") 307), (.str (Str.ofString "/claim/cut.py") 308), (.int (28) 0), (.int (2) 0), (.int (0) 0), (.int (0) 0), (.int (3) 0), (.ref (nat_lit 92)), (.bool true), (.int (181) 0), (.ref (nat_lit 93)), .none, (.ref (nat_lit 94)), (.ref (nat_lit 95)), (.ref (nat_lit 96)), (.int (311) 0), (.int (28) 0), (.str (Str.ofString "/claim/cut.py") 312)]), #[]⟩) ::
  (nat_lit 98, ⟨(.type "function"), none, (.func ⟨(Str.ofString "__init__"), (Str.ofString "OctetReader.__init__"), (by refine (?_ : Tw (argsAtM 14 0)) _ rfl; k_extra "T"), .stmts ((by refine (?_ : Tw (bodyAtM 14 0)) _ rfl; k_extra "T")), (by refine (?_ : Tw (scopeAtM 14 0)) _ rfl; k_extra "T"), 3, [], .none, .none, .none, (.str (Str.ofString "pixelpress.octets") 285), none, (.ref (nat_lit 97)), .none, 0⟩), #[]⟩) ::
  (nat_lit 99, ⟨(.type "tuple"), none, (.seq #[] 0), #[]⟩) ::
  (nat_lit 101, ⟨(.type "tuple"), none, (.seq #[(.str (Str.ofString "self") 317)] 0), #[]⟩) ::
  (nat_lit 102, ⟨(.type "tuple"), none, (.seq #[] 0), #[]⟩) ::
  (nat_lit 103, ⟨.none, none, (.func ⟨(Str.ofString "left"), (Str.ofString "OctetReader.left"), (by refine (?_ : Tw (argsAtM 14 1)) _ rfl; k_extra "T"), .stmts ((by refine (?_ : Tw (bodyAtM 14 1)) _ rfl; k_extra "T")), (by refine (?_ : Tw (scopeAtM 14 1)) _ rfl; k_extra "T"), 0, [], .none, .none, .none, .none, none, .none, .none, 0⟩), #[]⟩) ::
  (nat_lit 104, ⟨(.type "code"), none, (.fields #[(.str (Str.ofString "left") 314), (.str (Str.ofString "OctetReader.left") 315), (.str (Str.ofString "/claim/cut.py") 316), (.int (32) 0), (.int (1) 0), (.int (0) 0), (.int (0) 0), (.int (3) 0), (.ref (nat_lit 99)), (.bool true), (.int (181) 0), (.ref (nat_lit 100)), .none, (.ref (nat_lit 101)), (.ref (nat_lit 102)), (.ref (nat_lit 103)), (.int (318) 0), (.int (32) 0), (.str (Str.ofString "/claim/cut.py") 319)]), #[]⟩) ::
  (nat_lit 105, ⟨(.type "function"), none, (.func ⟨(Str.ofString "left"), (Str.ofString "OctetReader.left"), (by refine (?_ : Tw (argsAtM 14 1)) _ rfl; k_extra "T"), .stmts ((by refine (?_ : Tw (bodyAtM 14 1)) _ rfl; k_extra "T")), (by refine (?_ : Tw (scopeAtM 14 1)) _ rfl; k_extra "T"), 3, [], .none, .none, .none, (.str (Str.ofString "pixelpress.octets") 285), none, (.ref (nat_lit 104)), .none, 0⟩), #[]⟩) ::
  (nat_lit 106, ⟨(.type "tuple"), none, (.seq #[] 0), #[]⟩) ::
  (nat_lit 108, ⟨(.type "tuple"), none, (.seq #[(.str (Str.ofString "self") 324), (.str (Str.ofString "size") 325), (.str (Str.ofString "found") 326)] 0), #[]⟩) ::
  (nat_lit 109, ⟨(.type "tuple"), none, (.seq #[] 0), #[]⟩) ::
  (nat_lit 110, ⟨.none, none, (.func ⟨(Str.ofString "take"), (Str.ofString "OctetReader.take"), (by refine (?_ : Tw (argsAtM 14 2)) _ rfl; k_extra "T"), .stmts ((by refine (?_ : Tw (bodyAtM 14 2)) _ rfl; k_extra "T")), (by refine (?_ : Tw (scopeAtM 14 2)) _ rfl; k_extra "T"), 0, [], .none, .none, .none, .none, none, .none, .none, 0⟩), #[]⟩) ::
  (nat_lit 111, ⟨(.type "code"), none, (.fields #[(.str (Str.ofString "take") 321), (.str (Str.ofString "OctetReader.take") 322), (.str (Str.ofString "/claim/cut.py") 323), (.int (35) 0), (.int (2) 0), (.int (0) 0), (.int (0) 0), (.int (3) 0), (.ref (nat_lit 106)), (.bool true), (.int (181) 0), (.ref (nat_lit 107)), .none, (.ref (nat_lit 108)), (.ref (nat_lit 109)), (.ref (nat_lit 110)), (.int (327) 0), (.int (35) 0), (.str (Str.ofString "/claim/cut.py") 328)]), #[]⟩) ::
  (nat_lit 112, ⟨(.type "function"), none, (.func ⟨(Str.ofString "take"), (Str.ofString "OctetReader.take"), (by refine (?_ : Tw (argsAtM 14 2)) _ rfl; k_extra "T"), .stmts ((by refine (?_ : Tw (bodyAtM 14 2)) _ rfl; k_extra "T")), (by refine (?_ : Tw (scopeAtM 14 2)) _ rfl; k_extra "T"), 3, [], .none, .none, .none, (.str (Str.ofString "pixelpress.octets") 285), none, (.ref (nat_lit 111)), .none, 0⟩), #[]⟩) ::
  (nat_lit 113, ⟨(.type "tuple"), none, (.seq #[] 0), #[]⟩) ::
  (nat_lit 115, ⟨(.type "tuple"), none, (.seq #[(.str (Str.ofString "self") 333)] 0), #[]⟩) ::
  (nat_lit 116, ⟨(.type "tuple"), none, (.seq #[] 0), #[]⟩) ::
  (nat_lit 117, ⟨.none, none, (.func ⟨(Str.ofString "byte"), (Str.ofString "OctetReader.byte"), (by refine (?_ : Tw (argsAtM 14 3)) _ rfl; k_extra "T"), .stmts ((by refine (?_ : Tw (bodyAtM 14 3)) _ rfl; k_extra "T")), (by refine (?_ : Tw (scopeAtM 14 3)) _ rfl; k_extra "T"), 0, [], .none, .none, .none, .none, none, .none, .none, 0⟩), #[]⟩) ::
  (nat_lit 118, ⟨(.type "code"), none, (.fields #[(.str (Str.ofString "byte") 330), (.str (Str.ofString "OctetReader.byte") 331), (.str (Str.ofString "/claim/cut.py") 332), (.int (42) 0), (.int (1) 0), (.int (0) 0), (.int (0) 0), (.int (3) 0), (.ref (nat_lit 113)), (.bool true), (.int (181) 0), (.ref (nat_lit 114)), .none, (.ref (nat_lit 115)), (.ref (nat_lit 116)), (.ref (nat_lit 117)), (.int (334) 0), (.int (42) 0), (.str (Str.ofString "/claim/cut.py") 335)]), #[]⟩) ::
  (nat_lit 119, ⟨(.type "function"), none, (.func ⟨(Str.ofString "byte"), (Str.ofString "OctetReader.byte"), (by refine (?_ : Tw (argsAtM 14 3)) _ rfl; k_extra "T"), .stmts ((by refine (?_ : Tw (bodyAtM 14 3)) _ rfl; k_extra "T")), (by refine (?_ : Tw (scopeAtM 14 3)) _ rfl; k_extra "T"), 3, [], .none, .none, .none, (.str (Str.ofString "pixelpress.octets") 285), none, (.ref (nat_lit 118)), .none, 0⟩), #[]⟩) ::
  (nat_lit 120, ⟨(.type "tuple"), none, (.seq #[] 0), #[]⟩) ::
  (nat_lit 122, ⟨(.type "tuple"), none, (.seq #[(.str (Str.ofString "self") 340), (.str (Str.ofString "two") 341)] 0), #[]⟩) ::
  (nat_lit 123, ⟨(.type "tuple"), none, (.seq #[] 0), #[]⟩) ::
  (nat_lit 124, ⟨.none, none, (.func ⟨(Str.ofString "word"), (Str.ofString "OctetReader.word"), (by refine (?_ : Tw (argsAtM 14 4)) _ rfl; k_extra "T"), .stmts ((by refine (?_ : Tw (bodyAtM 14 4)) _ rfl; k_extra "T")), (by refine (?_ : Tw (scopeAtM 14 4)) _ rfl; k_extra "T"), 0, [], .none, .none, .none, .none, none, .none, .none, 0⟩), #[]⟩) ::
  (nat_lit 125, ⟨(.type "code"), none, (.fields #[(.str (Str.ofString "word") 337), (.str (Str.ofString "OctetReader.word") 338), (.str (Str.ofString "/claim/cut.py") 339), (.int (45) 0), (.int (1) 0), (.int (0) 0), (.int (0) 0), (.int (3) 0), (.ref (nat_lit 120)), (.bool true), (.int (181) 0), (.ref (nat_lit 121)), .none, (.ref (nat_lit 122)), (.ref (nat_lit 123)), (.ref (nat_lit 124)), (.int (342) 0), (.int (45) 0), (.str (Str.ofString "/claim/cut.py") 343)]), #[]⟩) ::
  (nat_lit 126, ⟨(.type "function"), none, (.func ⟨(Str.ofString "word"), (Str.ofString "OctetReader.word"), (by refine (?_ : Tw (argsAtM 14 4)) _ rfl; k_extra "T"), .stmts ((by refine (?_ : Tw (bodyAtM 14 4)) _ rfl; k_extra "T")), (by refine (?_ : Tw (scopeAtM 14 4)) _ rfl; k_extra "T"), 3, [], .none, .none, .none, (.str (Str.ofString "pixelpress.octets") 285), none, (.ref (nat_lit 125)), .none, 0⟩), #[]⟩) ::
  (nat_lit 127, ⟨(.type "tuple"), none, (.seq #[(.str (Str.ofString "at") 345), (.str (Str.ofString "octets") 346)] 0), #[]⟩) ::
  (nat_lit 128, ⟨(.type "dict"), none, (.dict #[⟨PyData.keyHash P (Str.ofString "__module__"), (.str (Str.ofString "__module__") 301), (.str (Str.ofString "pixelpress.octets") 285)⟩, ⟨PyData.keyHash P (Str.ofString "__firstlineno__"), (.str (Str.ofString "__firstlineno__") 305), (.int (26) 304)⟩, ⟨PyData.keyHash P (Str.ofString "__init__"), (.str (Str.ofString "__init__") 313), (.ref (nat_lit 98))⟩, ⟨PyData.keyHash P (Str.ofString "left"), (.str (Str.ofString "left") 320), (.ref (nat_lit 105))⟩, ⟨PyData.keyHash P (Str.ofString "take"), (.str (Str.ofString "take") 329), (.ref (nat_lit 112))⟩, ⟨PyData.keyHash P (Str.ofString "byte"), (.str (Str.ofString "byte") 336), (.ref (nat_lit 119))⟩, ⟨PyData.keyHash P (Str.ofString "word"), (.str (Str.ofString "word") 344), (.ref (nat_lit 126))⟩, ⟨PyData.keyHash P (Str.ofString "__static_attributes__"), (.str (Str.ofString "__static_attributes__") 347), (.ref (nat_lit 127))⟩, ⟨PyData.keyHash P (Str.ofString "__dict__"), (.str (Str.ofString "__dict__") 349), (.ref (nat_lit 130))⟩, ⟨PyData.keyHash P (Str.ofString "__weakref__"), (.str (Str.ofString "__weakref__") 351), (.ref (nat_lit 131))⟩, ⟨PyData.keyHash P (Str.ofString "__doc__"), (.str (Str.ofString "__doc__") 352), .none⟩] 4), #[]⟩) ::
  (nat_lit 129, ⟨(.type "type"), none, (.cls ⟨(Str.ofString "OctetReader"), [(.type "object")], [(.ref (nat_lit 129)), (.type "object")], 128, (Str.ofString "OctetReader"), true, [], [], false, none, false⟩), #[none, none, (some (.str (Str.ofString "OctetReader") 294)), (some (.str (Str.ofString "OctetReader") 302)), (some (.builtin "object.__new__")), (some (.bool true))]⟩) ::
  (nat_lit 130, ⟨(.type "getset_descriptor"), none, (.fields #[(.str (Str.ofString "__dict__") 348), (.ref (nat_lit 129)), (.builtin "function.__dict__"), (.builtin "function.__dict__#set")]), #[]⟩) ::
  (nat_lit 131, ⟨(.type "getset_descriptor"), none, (.fields #[(.str (Str.ofString "__weakref__") 350), (.ref (nat_lit 129)), (.builtin "ExceptionGroup.__weakref__"), .none]), #[]⟩) ::
  (nat_lit 141, ⟨(.type "tuple"), none, (.seq #[] 0), #[]⟩) ::
  (nat_lit 143, ⟨(.type "tuple"), none, (.seq #[(.str (Str.ofString "self") 382), (.str (Str.ofString "ident") 383), (.str (Str.ofString "across") 384), (.str (Str.ofString "down") 385), (.str (Str.ofString "quant") 386)] 0), #[]⟩) ::
  (nat_lit 144, ⟨(.type "tuple"), none, (.seq #[] 0), #[]⟩) ::
  (nat_lit 145, ⟨.none, none, (.func ⟨(Str.ofString "__init__"), (Str.ofString "ComponentHead.__init__"), (by refine (?_ : Tw (argsAtM 21 0)) _ rfl; k_extra "T"), .stmts ((by refine (?_ : Tw (bodyAtM 21 0)) _ rfl; k_extra "T")), (by refine (?_ : Tw (scopeAtM 21 0)) _ rfl; k_extra "T"), 0, [], .none, .none, .none, .none, none, .none, .none, 0⟩), #[]⟩) ::
  (nat_lit 146, ⟨(.type "code"), none, (.fields #[(.str (Str.ofString "__init__") 379), (.str (Str.ofString "ComponentHead.__init__") 380), (.str (Str.ofString "/claim/cut.py") 381), (.int (56) 0), (.int (5) 0), (.int (0) 0), (.int (0) 0), (.int (3) 0), (.ref (nat_lit 141)), (.bool true), (.int (181) 0), (.ref (nat_lit 142)), .none, (.ref (nat_lit 143)), (.ref (nat_lit 144)), (.ref (nat_lit 145)), (.int (387) 0), (.int (56) 0), (.str (Str.ofString "/claim/cut.py") 388)]), #[]⟩) ::
  (nat_lit 147, ⟨(.type "function"), none, (.func ⟨(Str.ofString "__init__"), (Str.ofString "ComponentHead.__init__"), (by refine (?_ : Tw (argsAtM 21 0)) _ rfl; k_extra "T"), .stmts ((by refine (?_ : Tw (bodyAtM 21 0)) _ rfl; k_extra "T")), (by refine (?_ : Tw (scopeAtM 21 0)) _ rfl; k_extra "T"), 3, [], .none, .none, .none, (.str (Str.ofString "pixelpress.head_segments") 355), none, (.ref (nat_lit 146)), .none, 0⟩), #[]⟩) ::
  (nat_lit 148, ⟨(.type "tuple"), none, (.seq #[(.str (Str.ofString "across") 390), (.str (Str.ofString "down") 391), (.str (Str.ofString "ident") 392), (.str (Str.ofString "quant") 393)] 0), #[]⟩) ::
  (nat_lit 149, ⟨(.type "dict"), none, (.dict #[⟨PyData.keyHash P (Str.ofString "__module__"), (.str (Str.ofString "__module__") 374), (.str (Str.ofString "pixelpress.head_segments") 355)⟩, ⟨PyData.keyHash P (Str.ofString "__firstlineno__"), (.str (Str.ofString "__firstlineno__") 378), (.int (54) 377)⟩, ⟨PyData.keyHash P (Str.ofString "__init__"), (.str (Str.ofString "__init__") 389), (.ref (nat_lit 147))⟩, ⟨PyData.keyHash P (Str.ofString "__static_attributes__"), (.str (Str.ofString "__static_attributes__") 394), (.ref (nat_lit 148))⟩, ⟨PyData.keyHash P (Str.ofString "__dict__"), (.str (Str.ofString "__dict__") 396), (.ref (nat_lit 151))⟩, ⟨PyData.keyHash P (Str.ofString "__weakref__"), (.str (Str.ofString "__weakref__") 398), (.ref (nat_lit 152))⟩, ⟨PyData.keyHash P (Str.ofString "__doc__"), (.str (Str.ofString "__doc__") 399), .none⟩] 4), #[]⟩) ::
  (nat_lit 150, ⟨(.type "type"), none, (.cls ⟨(Str.ofString "ComponentHead"), [(.type "object")], [(.ref (nat_lit 150)), (.type "object")], 149, (Str.ofString "ComponentHead"), true, [], [], false, none, false⟩), #[none, none, (some (.str (Str.ofString "ComponentHead") 367)), (some (.str (Str.ofString "ComponentHead") 375)), (some (.builtin "object.__new__")), (some (.bool true))]⟩) ::
  (nat_lit 151, ⟨(.type "getset_descriptor"), none, (.fields #[(.str (Str.ofString "__dict__") 395), (.ref (nat_lit 150)), (.builtin "function.__dict__"), (.builtin "function.__dict__#set")]), #[]⟩) ::
  (nat_lit 152, ⟨(.type "getset_descriptor"), none, (.fields #[(.str (Str.ofString "__weakref__") 397), (.ref (nat_lit 150)), (.builtin "ExceptionGroup.__weakref__"), .none]), #[]⟩) ::
  (nat_lit 162, ⟨(.type "tuple"), none, (.seq #[] 0), #[]⟩) ::
  (nat_lit 164, ⟨(.type "tuple"), none, (.seq #[(.str (Str.ofString "self") 417), (.str (Str.ofString "code") 418), (.str (Str.ofString "precision") 419), (.str (Str.ofString "height") 420), (.str (Str.ofString "width") 421), (.str (Str.ofString "components") 422)] 0), #[]⟩) ::
  (nat_lit 165, ⟨(.type "tuple"), none, (.seq #[] 0), #[]⟩) ::
  (nat_lit 166, ⟨.none, none, (.func ⟨(Str.ofString "__init__"), (Str.ofString "FrameHead.__init__"), (by refine (?_ : Tw (argsAtM 22 0)) _ rfl; k_extra "T"), .stmts ((by refine (?_ : Tw (bodyAtM 22 0)) _ rfl; k_extra "T")), (by refine (?_ : Tw (scopeAtM 22 0)) _ rfl; k_extra "T"), 0, [], .none, .none, .none, .none, none, .none, .none, 0⟩), #[]⟩) ::
  (nat_lit 167, ⟨(.type "code"), none, (.fields #[(.str (Str.ofString "__init__") 414), (.str (Str.ofString "FrameHead.__init__") 415), (.str (Str.ofString "/claim/cut.py") 416), (.int (63) 0), (.int (6) 0), (.int (0) 0), (.int (0) 0), (.int (3) 0), (.ref (nat_lit 162)), (.bool true), (.int (181) 0), (.ref (nat_lit 163)), .none, (.ref (nat_lit 164)), (.ref (nat_lit 165)), (.ref (nat_lit 166)), (.int (423) 0), (.int (63) 0), (.str (Str.ofString "/claim/cut.py") 424)]), #[]⟩) ::
  (nat_lit 168, ⟨(.type "function"), none, (.func ⟨(Str.ofString "__init__"), (Str.ofString "FrameHead.__init__"), (by refine (?_ : Tw (argsAtM 22 0)) _ rfl; k_extra "T"), .stmts ((by refine (?_ : Tw (bodyAtM 22 0)) _ rfl; k_extra "T")), (by refine (?_ : Tw (scopeAtM 22 0)) _ rfl; k_extra "T"), 3, [], .none, .none, .none, (.str (Str.ofString "pixelpress.head_segments") 355), none, (.ref (nat_lit 167)), .none, 0⟩), #[]⟩) ::
  (nat_lit 169, ⟨(.type "tuple"), none, (.seq #[(.str (Str.ofString "code") 426), (.str (Str.ofString "components") 427), (.str (Str.ofString "height") 428), (.str (Str.ofString "precision") 429), (.str (Str.ofString "width") 430)] 0), #[]⟩) ::
  (nat_lit 170, ⟨(.type "dict"), none, (.dict #[⟨PyData.keyHash P (Str.ofString "__module__"), (.str (Str.ofString "__module__") 409), (.str (Str.ofString "pixelpress.head_segments") 355)⟩, ⟨PyData.keyHash P (Str.ofString "__firstlineno__"), (.str (Str.ofString "__firstlineno__") 413), (.int (61) 412)⟩, ⟨PyData.keyHash P (Str.ofString "__init__"), (.str (Str.ofString "__init__") 425), (.ref (nat_lit 168))⟩, ⟨PyData.keyHash P (Str.ofString "__static_attributes__"), (.str (Str.ofString "__static_attributes__") 431), (.ref (nat_lit 169))⟩, ⟨PyData.keyHash P (Str.ofString "__dict__"), (.str (Str.ofString "__dict__") 433), (.ref (nat_lit 172))⟩, ⟨PyData.keyHash P (Str.ofString "__weakref__"), (.str (Str.ofString "__weakref__") 435), (.ref (nat_lit 173))⟩, ⟨PyData.keyHash P (Str.ofString "__doc__"), (.str (Str.ofString "__doc__") 436), .none⟩] 4), #[]⟩) ::
  (nat_lit 171, ⟨(.type "type"), none, (.cls ⟨(Str.ofString "FrameHead"), [(.type "object")], [(.ref (nat_lit 171)), (.type "object")], 170, (Str.ofString "FrameHead"), true, [], [], false, none, false⟩), #[none, none, (some (.str (Str.ofString "FrameHead") 402)), (some (.str (Str.ofString "FrameHead") 410)), (some (.builtin "object.__new__")), (some (.bool true))]⟩) ::
  (nat_lit 172, ⟨(.type "getset_descriptor"), none, (.fields #[(.str (Str.ofString "__dict__") 432), (.ref (nat_lit 171)), (.builtin "function.__dict__"), (.builtin "function.__dict__#set")]), #[]⟩) ::
  (nat_lit 173, ⟨(.type "getset_descriptor"), none, (.fields #[(.str (Str.ofString "__weakref__") 434), (.ref (nat_lit 171)), (.builtin "ExceptionGroup.__weakref__"), .none]), #[]⟩) ::
  (nat_lit 183, ⟨(.type "tuple"), none, (.seq #[] 0), #[]⟩) ::
  (nat_lit 185, ⟨(.type "tuple"), none, (.seq #[(.str (Str.ofString "self") 454), (.str (Str.ofString "idents") 455), (.str (Str.ofString "dc_slots") 456), (.str (Str.ofString "ac_slots") 457), (.str (Str.ofString "start") 458), (.str (Str.ofString "end") 459), (.str (Str.ofString "high") 460), (.str (Str.ofString "low") 461)] 0), #[]⟩) ::
  (nat_lit 186, ⟨(.type "tuple"), none, (.seq #[] 0), #[]⟩) ::
  (nat_lit 187, ⟨.none, none, (.func ⟨(Str.ofString "__init__"), (Str.ofString "ScanHead.__init__"), (by refine (?_ : Tw (argsAtM 23 0)) _ rfl; k_extra "T"), .stmts ((by refine (?_ : Tw (bodyAtM 23 0)) _ rfl; k_extra "T")), (by refine (?_ : Tw (scopeAtM 23 0)) _ rfl; k_extra "T"), 0, [], .none, .none, .none, .none, none, .none, .none, 0⟩), #[]⟩) ::
  (nat_lit 188, ⟨(.type "code"), none, (.fields #[(.str (Str.ofString "__init__") 451), (.str (Str.ofString "ScanHead.__init__") 452), (.str (Str.ofString "/claim/cut.py") 453), (.int (71) 0), (.int (8) 0), (.int (0) 0), (.int (0) 0), (.int (3) 0), (.ref (nat_lit 183)), (.bool true), (.int (181) 0), (.ref (nat_lit 184)), .none, (.ref (nat_lit 185)), (.ref (nat_lit 186)), (.ref (nat_lit 187)), (.int (462) 0), (.int (71) 0), (.str (Str.ofString "/claim/cut.py") 463)]), #[]⟩) ::
  (nat_lit 189, ⟨(.type "function"), none, (.func ⟨(Str.ofString "__init__"), (Str.ofString "ScanHead.__init__"), (by refine (?_ : Tw (argsAtM 23 0)) _ rfl; k_extra "T"), .stmts ((by refine (?_ : Tw (bodyAtM 23 0)) _ rfl; k_extra "T")), (by refine (?_ : Tw (scopeAtM 23 0)) _ rfl; k_extra "T"), 3, [], .none, .none, .none, (.str (Str.ofString "pixelpress.head_segments") 355), none, (.ref (nat_lit 188)), .none, 0⟩), #[]⟩) ::
  (nat_lit 190, ⟨(.type "tuple"), none, (.seq #[(.str (Str.ofString "ac_slots") 465), (.str (Str.ofString "dc_slots") 466), (.str (Str.ofString "end") 467), (.str (Str.ofString "high") 468), (.str (Str.ofString "idents") 469), (.str (Str.ofString "low") 470), (.str (Str.ofString "start") 471)] 0), #[]⟩) ::
  (nat_lit 191, ⟨(.type "dict"), none, (.dict #[⟨PyData.keyHash P (Str.ofString "__module__"), (.str (Str.ofString "__module__") 446), (.str (Str.ofString "pixelpress.head_segments") 355)⟩, ⟨PyData.keyHash P (Str.ofString "__firstlineno__"), (.str (Str.ofString "__firstlineno__") 450), (.int (69) 449)⟩, ⟨PyData.keyHash P (Str.ofString "__init__"), (.str (Str.ofString "__init__") 464), (.ref (nat_lit 189))⟩, ⟨PyData.keyHash P (Str.ofString "__static_attributes__"), (.str (Str.ofString "__static_attributes__") 472), (.ref (nat_lit 190))⟩, ⟨PyData.keyHash P (Str.ofString "__dict__"), (.str (Str.ofString "__dict__") 474), (.ref (nat_lit 193))⟩, ⟨PyData.keyHash P (Str.ofString "__weakref__"), (.str (Str.ofString "__weakref__") 476), (.ref (nat_lit 194))⟩, ⟨PyData.keyHash P (Str.ofString "__doc__"), (.str (Str.ofString "__doc__") 477), .none⟩] 4), #[]⟩) ::
  (nat_lit 192, ⟨(.type "type"), none, (.cls ⟨(Str.ofString "ScanHead"), [(.type "object")], [(.ref (nat_lit 192)), (.type "object")], 191, (Str.ofString "ScanHead"), true, [], [], false, none, false⟩), #[none, none, (some (.str (Str.ofString "ScanHead") 439)), (some (.str (Str.ofString "ScanHead") 447)), (some (.builtin "object.__new__")), (some (.bool true))]⟩) ::
  (nat_lit 193, ⟨(.type "getset_descriptor"), none, (.fields #[(.str (Str.ofString "__dict__") 473), (.ref (nat_lit 192)), (.builtin "function.__dict__"), (.builtin "function.__dict__#set")]), #[]⟩) ::
  (nat_lit 194, ⟨(.type "getset_descriptor"), none, (.fields #[(.str (Str.ofString "__weakref__") 475), (.ref (nat_lit 192)), (.builtin "ExceptionGroup.__weakref__"), .none]), #[]⟩) ::
  (nat_lit 197, ⟨(.type "tuple"), none, (.seq #[] 0), #[]⟩) ::
  (nat_lit 199, ⟨(.type "tuple"), none, (.seq #[(.str (Str.ofString "is_so") 483), (.str (Str.ofString "message") 484)] 0), #[]⟩) ::
  (nat_lit 200, ⟨(.type "tuple"), none, (.seq #[] 0), #[]⟩) ::
  (nat_lit 201, ⟨.none, none, (.func ⟨(Str.ofString "want"), (Str.ofString "want"), (by refine (?_ : Tw (argsAt 24)) _ rfl; k_extra "T"), .stmts ((by refine (?_ : Tw (bodyAt 24)) _ rfl; k_extra "T")), (by refine (?_ : Tw (scopeAt 24)) _ rfl; k_extra "T"), 0, [], .none, .none, .none, .none, none, .none, .none, 0⟩), #[]⟩) ::
  (nat_lit 202, ⟨(.type "code"), none, (.fields #[(.str (Str.ofString "want") 480), (.str (Str.ofString "want") 481), (.str (Str.ofString "/claim/cut.py") 482), (.int (79) 0), (.int (2) 0), (.int (0) 0), (.int (0) 0), (.int (3) 0), (.ref (nat_lit 197)), (.bool true), (.int (181) 0), (.ref (nat_lit 198)), .none, (.ref (nat_lit 199)), (.ref (nat_lit 200)), (.ref (nat_lit 201)), (.int (485) 0), (.int (79) 0), (.str (Str.ofString "/claim/cut.py") 486)]), #[]⟩) ::
  (nat_lit 203, ⟨(.type "function"), none, (.func ⟨(Str.ofString "want"), (Str.ofString "want"), (by refine (?_ : Tw (argsAt 24)) _ rfl; k_extra "T"), .stmts ((by refine (?_ : Tw (bodyAt 24)) _ rfl; k_extra "T")), (by refine (?_ : Tw (scopeAt 24)) _ rfl; k_extra "T"), 3, [], .none, .none, .none, (.str (Str.ofString "pixelpress.head_segments") 355), none, (.ref (nat_lit 202)), .none, 0⟩), #[]⟩) ::
  (nat_lit 204, ⟨(.type "tuple"), none, (.seq #[] 0), #[]⟩) ::
  (nat_lit 206, ⟨(.type "tuple"), none, (.seq #[(.str (Str.ofString "code") 491)] 0), #[]⟩) ::
  (nat_lit 207, ⟨(.type "tuple"), none, (.seq #[] 0), #[]⟩) ::
  (nat_lit 208, ⟨.none, none, (.func ⟨(Str.ofString "is_lossless"), (Str.ofString "is_lossless"), (by refine (?_ : Tw (argsAt 25)) _ rfl; k_extra "T"), .stmts ((by refine (?_ : Tw (bodyAt 25)) _ rfl; k_extra "T")), (by refine (?_ : Tw (scopeAt 25)) _ rfl; k_extra "T"), 0, [], .none, .none, .none, .none, none, .none, .none, 0⟩), #[]⟩) ::
  (nat_lit 209, ⟨(.type "code"), none, (.fields #[(.str (Str.ofString "is_lossless") 488), (.str (Str.ofString "is_lossless") 489), (.str (Str.ofString "/claim/cut.py") 490), (.int (82) 0), (.int (1) 0), (.int (0) 0), (.int (0) 0), (.int (3) 0), (.ref (nat_lit 204)), (.bool true), (.int (181) 0), (.ref (nat_lit 205)), .none, (.ref (nat_lit 206)), (.ref (nat_lit 207)), (.ref (nat_lit 208)), (.int (492) 0), (.int (82) 0), (.str (Str.ofString "/claim/cut.py") 493)]), #[]⟩) ::
  (nat_lit 210, ⟨(.type "function"), none, (.func ⟨(Str.ofString "is_lossless"), (Str.ofString "is_lossless"), (by refine (?_ : Tw (argsAt 25)) _ rfl; k_extra "T"), .stmts ((by refine (?_ : Tw (bodyAt 25)) _ rfl; k_extra "T")), (by refine (?_ : Tw (scopeAt 25)) _ rfl; k_extra "T"), 3, [], .none, .none, .none, (.str (Str.ofString "pixelpress.head_segments") 355), none, (.ref (nat_lit 209)), .none, 0⟩), #[]⟩) ::
  (nat_lit 211, ⟨(.type "tuple"), none, (.seq #[] 0), #[]⟩) ::
  (nat_lit 213, ⟨(.type "tuple"), none, (.seq #[(.str (Str.ofString "code") 498), (.str (Str.ofString "precision") 499)] 0), #[]⟩) ::
  (nat_lit 214, ⟨(.type "tuple"), none, (.seq #[] 0), #[]⟩) ::
  (nat_lit 215, ⟨.none, none, (.func ⟨(Str.ofString "is_precision"), (Str.ofString "is_precision"), (by refine (?_ : Tw (argsAt 26)) _ rfl; k_extra "T"), .stmts ((by refine (?_ : Tw (bodyAt 26)) _ rfl; k_extra "T")), (by refine (?_ : Tw (scopeAt 26)) _ rfl; k_extra "T"), 0, [], .none, .none, .none, .none, none, .none, .none, 0⟩), #[]⟩) ::
  (nat_lit 216, ⟨(.type "code"), none, (.fields #[(.str (Str.ofString "is_precision") 495), (.str (Str.ofString "is_precision") 496), (.str (Str.ofString "/claim/cut.py") 497), (.int (84) 0), (.int (2) 0), (.int (0) 0), (.int (0) 0), (.int (3) 0), (.ref (nat_lit 211)), (.bool true), (.int (181) 0), (.ref (nat_lit 212)), .none, (.ref (nat_lit 213)), (.ref (nat_lit 214)), (.ref (nat_lit 215)), (.int (500) 0), (.int (84) 0), (.str (Str.ofString "/claim/cut.py") 501)]), #[]⟩) ::
  (nat_lit 217, ⟨(.type "function"), none, (.func ⟨(Str.ofString "is_precision"), (Str.ofString "is_precision"), (by refine (?_ : Tw (argsAt 26)) _ rfl; k_extra "T"), .stmts ((by refine (?_ : Tw (bodyAt 26)) _ rfl; k_extra "T")), (by refine (?_ : Tw (scopeAt 26)) _ rfl; k_extra "T"), 3, [], .none, .none, .none, (.str (Str.ofString "pixelpress.head_segments") 355), none, (.ref (nat_lit 216)), .none, 0⟩), #[]⟩) ::
  (nat_lit 218, ⟨(.type "tuple"), none, (.seq #[] 0), #[]⟩) ::
  (nat_lit 220, ⟨(.type "tuple"), none, (.seq #[(.str (Str.ofString "idents") 506), (.str (Str.ofString "at") 507)] 0), #[]⟩) ::
  (nat_lit 221, ⟨(.type "tuple"), none, (.seq #[] 0), #[]⟩) ::
  (nat_lit 222, ⟨.none, none, (.func ⟨(Str.ofString "are_unlike"), (Str.ofString "are_unlike"), (by refine (?_ : Tw (argsAt 27)) _ rfl; k_extra "T"), .stmts ((by refine (?_ : Tw (bodyAt 27)) _ rfl; k_extra "T")), (by refine (?_ : Tw (scopeAt 27)) _ rfl; k_extra "T"), 0, [], .none, .none, .none, .none, none, .none, .none, 0⟩), #[]⟩) ::
  (nat_lit 223, ⟨(.type "code"), none, (.fields #[(.str (Str.ofString "are_unlike") 503), (.str (Str.ofString "are_unlike") 504), (.str (Str.ofString "/claim/cut.py") 505), (.int (88) 0), (.int (1) 0), (.int (0) 0), (.int (0) 0), (.int (3) 0), (.ref (nat_lit 218)), (.bool true), (.int (181) 0), (.ref (nat_lit 219)), .none, (.ref (nat_lit 220)), (.ref (nat_lit 221)), (.ref (nat_lit 222)), (.int (508) 0), (.int (88) 0), (.str (Str.ofString "/claim/cut.py") 509)]), #[]⟩) ::
  (nat_lit 224, ⟨(.type "function"), none, (.func ⟨(Str.ofString "are_unlike"), (Str.ofString "are_unlike"), (by refine (?_ : Tw (argsAt 27)) _ rfl; k_extra "T"), .stmts ((by refine (?_ : Tw (bodyAt 27)) _ rfl; k_extra "T")), (by refine (?_ : Tw (scopeAt 27)) _ rfl; k_extra "T"), 3, [], .none, .none, .none, (.str (Str.ofString "pixelpress.head_segments") 355), none, (.ref (nat_lit 223)), .none, 0⟩), #[]⟩) ::
  (nat_lit 225, ⟨(.type "tuple"), none, (.seq #[] 0), #[]⟩) ::
  (nat_lit 227, ⟨(.type "tuple"), none, (.seq #[(.str (Str.ofString "component") 514)] 0), #[]⟩) ::
  (nat_lit 228, ⟨(.type "tuple"), none, (.seq #[] 0), #[]⟩) ::
  (nat_lit 229, ⟨.none, none, (.func ⟨(Str.ofString "check_component"), (Str.ofString "check_component"), (by refine (?_ : Tw (argsAt 28)) _ rfl; k_extra "T"), .stmts ((by refine (?_ : Tw (bodyAt 28)) _ rfl; k_extra "T")), (by refine (?_ : Tw (scopeAt 28)) _ rfl; k_extra "T"), 0, [], .none, .none, .none, .none, none, .none, .none, 0⟩), #[]⟩) ::
  (nat_lit 230, ⟨(.type "code"), none, (.fields #[(.str (Str.ofString "check_component") 511), (.str (Str.ofString "check_component") 512), (.str (Str.ofString "/claim/cut.py") 513), (.int (93) 0), (.int (1) 0), (.int (0) 0), (.int (0) 0), (.int (3) 0), (.ref (nat_lit 225)), (.bool true), (.int (181) 0), (.ref (nat_lit 226)), .none, (.ref (nat_lit 227)), (.ref (nat_lit 228)), (.ref (nat_lit 229)), (.int (515) 0), (.int (93) 0), (.str (Str.ofString "/claim/cut.py") 516)]), #[]⟩) ::
  (nat_lit 231, ⟨(.type "function"), none, (.func ⟨(Str.ofString "check_component"), (Str.ofString "check_component"), (by refine (?_ : Tw (argsAt 28)) _ rfl; k_extra "T"), .stmts ((by refine (?_ : Tw (bodyAt 28)) _ rfl; k_extra "T")), (by refine (?_ : Tw (scopeAt 28)) _ rfl; k_extra "T"), 3, [], .none, .none, .none, (.str (Str.ofString "pixelpress.head_segments") 355), none, (.ref (nat_lit 230)), .none, 0⟩), #[]⟩) ::
  (nat_lit 232, ⟨(.type "tuple"), none, (.seq #[] 0), #[]⟩) ::
  (nat_lit 234, ⟨.none, none, (.func ⟨(Str.ofString "check_frame"), (Str.ofString "check_frame"), (by refine (?_ : Tw (argsAt 29)) _ rfl; k_extra "T"), .stmts ((by refine (?_ : Tw (bodyAt 29)) _ rfl; k_extra "T")), (by refine (?_ : Tw (scopeAt 29)) _ rfl; k_extra "T"), 0, [], .none, .none, .none, .none, none, .none, .none, 0⟩), #[]⟩) ::
  (nat_lit 235, ⟨(.type "code"), none, (.fields #[(.str (Str.ofString "check_frame") 518), (.str (Str.ofString "check_frame") 519), (.str (Str.ofString "/claim/cut.py") 520), (.int (98) 0), (.int (1) 0), (.int (0) 0), (.int (0) 0), (.int (3) 0), (.ref (nat_lit 232)), (.bool true), (.int (181) 0), (.ref (nat_lit 233)), .none, .none, .none, (.ref (nat_lit 234)), (.int (521) 0), (.int (98) 0), (.str (Str.ofString "/claim/cut.py") 522)]), #[]⟩) ::
  (nat_lit 236, ⟨(.type "function"), none, (.func ⟨(Str.ofString "check_frame"), (Str.ofString "check_frame"), (by refine (?_ : Tw (argsAt 29)) _ rfl; k_extra "T"), .stmts ((by refine (?_ : Tw (bodyAt 29)) _ rfl; k_extra "T")), (by refine (?_ : Tw (scopeAt 29)) _ rfl; k_extra "T"), 3, [], .none, .none, .none, (.str (Str.ofString "pixelpress.head_segments") 355), none, (.ref (nat_lit 235)), .none, 0⟩), #[]⟩) ::
  (nat_lit 237, ⟨(.type "tuple"), none, (.seq #[] 0), #[]⟩) ::
  (nat_lit 239, ⟨(.type "tuple"), none, (.seq #[(.str (Str.ofString "code") 527), (.str (Str.ofString "payload") 528), (.str (Str.ofString "reader") 529), (.str (Str.ofString "precision") 530), (.str (Str.ofString "height") 531), (.str (Str.ofString "width") 532), (.str (Str.ofString "components") 533), (.str (Str.ofString "turn") 534), (.str (Str.ofString "ident") 535), (.str (Str.ofString "both") 536), (.str (Str.ofString "head") 537)] 0), #[]⟩) ::
  (nat_lit 240, ⟨(.type "tuple"), none, (.seq #[] 0), #[]⟩) ::
  (nat_lit 241, ⟨.none, none, (.func ⟨(Str.ofString "read_frame"), (Str.ofString "read_frame"), (by refine (?_ : Tw (argsAt 30)) _ rfl; k_extra "T"), .stmts ((by refine (?_ : Tw (bodyAt 30)) _ rfl; k_extra "T")), (by refine (?_ : Tw (scopeAt 30)) _ rfl; k_extra "T"), 0, [], .none, .none, .none, .none, none, .none, .none, 0⟩), #[]⟩) ::
  (nat_lit 242, ⟨(.type "code"), none, (.fields #[(.str (Str.ofString "read_frame") 524), (.str (Str.ofString "read_frame") 525), (.str (Str.ofString "/claim/cut.py") 526), (.int (107) 0), (.int (2) 0), (.int (0) 0), (.int (0) 0), (.int (3) 0), (.ref (nat_lit 237)), (.bool true), (.int (181) 0), (.ref (nat_lit 238)), .none, (.ref (nat_lit 239)), (.ref (nat_lit 240)), (.ref (nat_lit 241)), (.int (538) 0), (.int (107) 0), (.str (Str.ofString "/claim/cut.py") 539)]), #[]⟩) ::
  (nat_lit 243, ⟨(.type "function"), none, (.func ⟨(Str.ofString "read_frame"), (Str.ofString "read_frame"), (by refine (?_ : Tw (argsAt 30)) _ rfl; k_extra "T"), .stmts ((by refine (?_ : Tw (bodyAt 30)) _ rfl; k_extra "T")), (by refine (?_ : Tw (scopeAt 30)) _ rfl; k_extra "T"), 3, [], .none, .none, .none, (.str (Str.ofString "pixelpress.head_segments") 355), none, (.ref (nat_lit 242)), .none, 0⟩), #[]⟩) ::
  (nat_lit 244, ⟨(.type "tuple"), none, (.seq #[] 0), #[]⟩) ::
  (nat_lit 246, ⟨(.type "tuple"), none, (.seq #[(.str (Str.ofString "head") 544), (.str (Str.ofString "found") 545), (.str (Str.ofString "component") 546)] 0), #[]⟩) ::
  (nat_lit 247, ⟨(.type "tuple"), none, (.seq #[] 0), #[]⟩) ::
  (nat_lit 248, ⟨.none, none, (.func ⟨(Str.ofString "write_frame"), (Str.ofString "write_frame"), (by refine (?_ : Tw (argsAt 31)) _ rfl; k_extra "T"), .stmts ((by refine (?_ : Tw (bodyAt 31)) _ rfl; k_extra "T")), (by refine (?_ : Tw (scopeAt 31)) _ rfl; k_extra "T"), 0, [], .none, .none, .none, .none, none, .none, .none, 0⟩), #[]⟩) ::
  (nat_lit 249, ⟨(.type "code"), none, (.fields #[(.str (Str.ofString "write_frame") 541), (.str (Str.ofString "write_frame") 542), (.str (Str.ofString "/claim/cut.py") 543), (.int (121) 0), (.int (1) 0), (.int (0) 0), (.int (0) 0), (.int (3) 0), (.ref (nat_lit 244)), (.bool true), (.int (181) 0), (.ref (nat_lit 245)), .none, (.ref (nat_lit 246)), (.ref (nat_lit 247)), (.ref (nat_lit 248)), (.int (547) 0), (.int (121) 0), (.str (Str.ofString "/claim/cut.py") 548)]), #[]⟩) ::
  (nat_lit 250, ⟨(.type "function"), none, (.func ⟨(Str.ofString "write_frame"), (Str.ofString "write_frame"), (by refine (?_ : Tw (argsAt 31)) _ rfl; k_extra "T"), .stmts ((by refine (?_ : Tw (bodyAt 31)) _ rfl; k_extra "T")), (by refine (?_ : Tw (scopeAt 31)) _ rfl; k_extra "T"), 3, [], .none, .none, .none, (.str (Str.ofString "pixelpress.head_segments") 355), none, (.ref (nat_lit 249)), .none, 0⟩), #[]⟩) ::
  (nat_lit 251, ⟨(.type "tuple"), none, (.seq #[] 0), #[]⟩) ::
  (nat_lit 253, ⟨(.type "tuple"), none, (.seq #[(.str (Str.ofString "head") 553), (.str (Str.ofString "many") 554), (.str (Str.ofString "ident") 555), (.str (Str.ofString "slot") 556)] 0), #[]⟩) ::
  (nat_lit 254, ⟨(.type "tuple"), none, (.seq #[] 0), #[]⟩) ::
  (nat_lit 255, ⟨.none, none, (.func ⟨(Str.ofString "check_scan"), (Str.ofString "check_scan"), (by refine (?_ : Tw (argsAt 32)) _ rfl; k_extra "T"), .stmts ((by refine (?_ : Tw (bodyAt 32)) _ rfl; k_extra "T")), (by refine (?_ : Tw (scopeAt 32)) _ rfl; k_extra "T"), 0, [], .none, .none, .none, .none, none, .none, .none, 0⟩), #[]⟩) ::
  (nat_lit 256, ⟨(.type "code"), none, (.fields #[(.str (Str.ofString "check_scan") 550), (.str (Str.ofString "check_scan") 551), (.str (Str.ofString "/claim/cut.py") 552), (.int (127) 0), (.int (1) 0), (.int (0) 0), (.int (0) 0), (.int (3) 0), (.ref (nat_lit 251)), (.bool true), (.int (181) 0), (.ref (nat_lit 252)), .none, (.ref (nat_lit 253)), (.ref (nat_lit 254)), (.ref (nat_lit 255)), (.int (557) 0), (.int (127) 0), (.str (Str.ofString "/claim/cut.py") 558)]), #[]⟩) ::
  (nat_lit 257, ⟨(.type "function"), none, (.func ⟨(Str.ofString "check_scan"), (Str.ofString "check_scan"), (by refine (?_ : Tw (argsAt 32)) _ rfl; k_extra "T"), .stmts ((by refine (?_ : Tw (bodyAt 32)) _ rfl; k_extra "T")), (by refine (?_ : Tw (scopeAt 32)) _ rfl; k_extra "T"), 3, [], .none, .none, .none, (.str (Str.ofString "pixelpress.head_segments") 355), none, (.ref (nat_lit 256)), .none, 0⟩), #[]⟩) ::
  (nat_lit 258, ⟨(.type "tuple"), none, (.seq #[] 0), #[]⟩) ::
  (nat_lit 260, ⟨(.type "tuple"), none, (.seq #[(.str (Str.ofString "payload") 563), (.str (Str.ofString "reader") 564), (.str (Str.ofString "idents") 565), (.str (Str.ofString "dc_slots") 566), (.str (Str.ofString "ac_slots") 567), (.str (Str.ofString "turn") 568), (.str (Str.ofString "both") 569), (.str (Str.ofString "start") 570), (.str (Str.ofString "end") 571), (.str (Str.ofString "head") 572)] 0), #[]⟩) ::
  (nat_lit 261, ⟨(.type "tuple"), none, (.seq #[] 0), #[]⟩) ::
  (nat_lit 262, ⟨.none, none, (.func ⟨(Str.ofString "read_scan"), (Str.ofString "read_scan"), (by refine (?_ : Tw (argsAt 33)) _ rfl; k_extra "T"), .stmts ((by refine (?_ : Tw (bodyAt 33)) _ rfl; k_extra "T")), (by refine (?_ : Tw (scopeAt 33)) _ rfl; k_extra "T"), 0, [], .none, .none, .none, .none, none, .none, .none, 0⟩), #[]⟩) ::
  (nat_lit 263, ⟨(.type "code"), none, (.fields #[(.str (Str.ofString "read_scan") 560), (.str (Str.ofString "read_scan") 561), (.str (Str.ofString "/claim/cut.py") 562), (.int (138) 0), (.int (1) 0), (.int (0) 0), (.int (0) 0), (.int (3) 0), (.ref (nat_lit 258)), (.bool true), (.int (181) 0), (.ref (nat_lit 259)), .none, (.ref (nat_lit 260)), (.ref (nat_lit 261)), (.ref (nat_lit 262)), (.int (573) 0), (.int (138) 0), (.str (Str.ofString "/claim/cut.py") 574)]), #[]⟩) ::
  (nat_lit 264, ⟨(.type "function"), none, (.func ⟨(Str.ofString "read_scan"), (Str.ofString "read_scan"), (by refine (?_ : Tw (argsAt 33)) _ rfl; k_extra "T"), .stmts ((by refine (?_ : Tw (bodyAt 33)) _ rfl; k_extra "T")), (by refine (?_ : Tw (scopeAt 33)) _ rfl; k_extra "T"), 3, [], .none, .none, .none, (.str (Str.ofString "pixelpress.head_segments") 355), none, (.ref (nat_lit 263)), .none, 0⟩), #[]⟩) ::
  (nat_lit 265, ⟨(.type "tuple"), none, (.seq #[] 0), #[]⟩) ::
  (nat_lit 267, ⟨(.type "tuple"), none, (.seq #[(.str (Str.ofString "head") 579), (.str (Str.ofString "found") 580), (.str (Str.ofString "at") 581)] 0), #[]⟩) ::
  (nat_lit 268, ⟨(.type "tuple"), none, (.seq #[] 0), #[]⟩) ::
  (nat_lit 269, ⟨.none, none, (.func ⟨(Str.ofString "write_scan"), (Str.ofString "write_scan"), (by refine (?_ : Tw (argsAt 34)) _ rfl; k_extra "T"), .stmts ((by refine (?_ : Tw (bodyAt 34)) _ rfl; k_extra "T")), (by refine (?_ : Tw (scopeAt 34)) _ rfl; k_extra "T"), 0, [], .none, .none, .none, .none, none, .none, .none, 0⟩), #[]⟩) ::
  (nat_lit 270, ⟨(.type "code"), none, (.fields #[(.str (Str.ofString "write_scan") 576), (.str (Str.ofString "write_scan") 577), (.str (Str.ofString "/claim/cut.py") 578), (.int (155) 0), (.int (1) 0), (.int (0) 0), (.int (0) 0), (.int (3) 0), (.ref (nat_lit 265)), (.bool true), (.int (181) 0), (.ref (nat_lit 266)), .none, (.ref (nat_lit 267)), (.ref (nat_lit 268)), (.ref (nat_lit 269)), (.int (582) 0), (.int (155) 0), (.str (Str.ofString "/claim/cut.py") 583)]), #[]⟩) ::
  (nat_lit 271, ⟨(.type "function"), none, (.func ⟨(Str.ofString "write_scan"), (Str.ofString "write_scan"), (by refine (?_ : Tw (argsAt 34)) _ rfl; k_extra "T"), .stmts ((by refine (?_ : Tw (bodyAt 34)) _ rfl; k_extra "T")), (by refine (?_ : Tw (scopeAt 34)) _ rfl; k_extra "T"), 3, [], .none, .none, .none, (.str (Str.ofString "pixelpress.head_segments") 355), none, (.ref (nat_lit 270)), .none, 0⟩), #[]⟩) ::
  (nat_lit 272, ⟨(.type "tuple"), none, (.seq #[] 0), #[]⟩) ::
  (nat_lit 274, ⟨(.type "tuple"), none, (.seq #[(.str (Str.ofString "payload") 588)] 0), #[]⟩) ::
  (nat_lit 275, ⟨(.type "tuple"), none, (.seq #[] 0), #[]⟩) ::
  (nat_lit 276, ⟨.none, none, (.func ⟨(Str.ofString "read_number"), (Str.ofString "read_number"), (by refine (?_ : Tw (argsAt 35)) _ rfl; k_extra "T"), .stmts ((by refine (?_ : Tw (bodyAt 35)) _ rfl; k_extra "T")), (by refine (?_ : Tw (scopeAt 35)) _ rfl; k_extra "T"), 0, [], .none, .none, .none, .none, none, .none, .none, 0⟩), #[]⟩) ::
  (nat_lit 277, ⟨(.type "code"), none, (.fields #[(.str (Str.ofString "read_number") 585), (.str (Str.ofString "read_number") 586), (.str (Str.ofString "/claim/cut.py") 587), (.int (161) 0), (.int (1) 0), (.int (0) 0), (.int (0) 0), (.int (3) 0), (.ref (nat_lit 272)), (.bool true), (.int (181) 0), (.ref (nat_lit 273)), .none, (.ref (nat_lit 274)), (.ref (nat_lit 275)), (.ref (nat_lit 276)), (.int (589) 0), (.int (161) 0), (.str (Str.ofString "/claim/cut.py") 590)]), #[]⟩) ::
  (nat_lit 278, ⟨(.type "function"), none, (.func ⟨(Str.ofString "read_number"), (Str.ofString "read_number"), (by refine (?_ : Tw (argsAt 35)) _ rfl; k_extra "T"), .stmts ((by refine (?_ : Tw (bodyAt 35)) _ rfl; k_extra "T")), (by refine (?_ : Tw (scopeAt 35)) _ rfl; k_extra "T"), 3, [], .none, .none, .none, (.str (Str.ofString "pixelpress.head_segments") 355), none, (.ref (nat_lit 277)), .none, 0⟩), #[]⟩) ::
  (nat_lit 279, ⟨(.type "tuple"), none, (.seq #[] 0), #[]⟩) ::
  (nat_lit 281, ⟨(.type "tuple"), none, (.seq #[(.str (Str.ofString "payload") 595)] 0), #[]⟩) ::
  (nat_lit 282, ⟨(.type "tuple"), none, (.seq #[] 0), #[]⟩) ::
  (nat_lit 283, ⟨.none, none, (.func ⟨(Str.ofString "read_interval"), (Str.ofString "read_interval"), (by refine (?_ : Tw (argsAt 36)) _ rfl; k_extra "T"), .stmts ((by refine (?_ : Tw (bodyAt 36)) _ rfl; k_extra "T")), (by refine (?_ : Tw (scopeAt 36)) _ rfl; k_extra "T"), 0, [], .none, .none, .none, .none, none, .none, .none, 0⟩), #[]⟩) ::
  (nat_lit 284, ⟨(.type "code"), none, (.fields #[(.str (Str.ofString "read_interval") 592), (.str (Str.ofString "read_interval") 593), (.str (Str.ofString "/claim/cut.py") 594), (.int (164) 0), (.int (1) 0), (.int (0) 0), (.int (0) 0), (.int (3) 0), (.ref (nat_lit 279)), (.bool true), (.int (181) 0), (.ref (nat_lit 280)), .none, (.ref (nat_lit 281)), (.ref (nat_lit 282)), (.ref (nat_lit 283)), (.int (596) 0), (.int (164) 0), (.str (Str.ofString "/claim/cut.py") 597)]), #[]⟩) ::
  (nat_lit 285, ⟨(.type "function"), none, (.func ⟨(Str.ofString "read_interval"), (Str.ofString "read_interval"), (by refine (?_ : Tw (argsAt 36)) _ rfl; k_extra "T"), .stmts ((by refine (?_ : Tw (bodyAt 36)) _ rfl; k_extra "T")), (by refine (?_ : Tw (scopeAt 36)) _ rfl; k_extra "T"), 3, [], .none, .none, .none, (.str (Str.ofString "pixelpress.head_segments") 355), none, (.ref (nat_lit 284)), .none, 0⟩), #[]⟩) ::
  (nat_lit 286, ⟨(.type "tuple"), none, (.seq #[] 0), #[]⟩) ::
  (nat_lit 288, ⟨(.type "tuple"), none, (.seq #[(.str (Str.ofString "interval") 602)] 0), #[]⟩) ::
  (nat_lit 289, ⟨(.type "tuple"), none, (.seq #[] 0), #[]⟩) ::
  (nat_lit 290, ⟨.none, none, (.func ⟨(Str.ofString "write_interval"), (Str.ofString "write_interval"), (by refine (?_ : Tw (argsAt 37)) _ rfl; k_extra "T"), .stmts ((by refine (?_ : Tw (bodyAt 37)) _ rfl; k_extra "T")), (by refine (?_ : Tw (scopeAt 37)) _ rfl; k_extra "T"), 0, [], .none, .none, .none, .none, none, .none, .none, 0⟩), #[]⟩) ::
  (nat_lit 291, ⟨(.type "code"), none, (.fields #[(.str (Str.ofString "write_interval") 599), (.str (Str.ofString "write_interval") 600), (.str (Str.ofString "/claim/cut.py") 601), (.int (166) 0), (.int (1) 0), (.int (0) 0), (.int (0) 0), (.int (3) 0), (.ref (nat_lit 286)), (.bool true), (.int (181) 0), (.ref (nat_lit 287)), .none, (.ref (nat_lit 288)), (.ref (nat_lit 289)), (.ref (nat_lit 290)), (.int (603) 0), (.int (166) 0), (.str (Str.ofString "/claim/cut.py") 604)]), #[]⟩) ::
  (nat_lit 292, ⟨(.type "function"), none, (.func ⟨(Str.ofString "write_interval"), (Str.ofString "write_interval"), (by refine (?_ : Tw (argsAt 37)) _ rfl; k_extra "T"), .stmts ((by refine (?_ : Tw (bodyAt 37)) _ rfl; k_extra "T")), (by refine (?_ : Tw (scopeAt 37)) _ rfl; k_extra "T"), 3, [], .none, .none, .none, (.str (Str.ofString "pixelpress.head_segments") 355), none, (.ref (nat_lit 291)), .none, 0⟩), #[]⟩) ::
  (nat_lit 293, ⟨(.type "tuple"), none, (.seq #[] 0), #[]⟩) ::
  (nat_lit 295, ⟨(.type "tuple"), none, (.seq #[(.str (Str.ofString "payload") 609), (.str (Str.ofString "lines") 610)] 0), #[]⟩) ::
  (nat_lit 296, ⟨(.type "tuple"), none, (.seq #[] 0), #[]⟩) ::
  (nat_lit 297, ⟨.none, none, (.func ⟨(Str.ofString "read_lines"), (Str.ofString "read_lines"), (by refine (?_ : Tw (argsAt 38)) _ rfl; k_extra "T"), .stmts ((by refine (?_ : Tw (bodyAt 38)) _ rfl; k_extra "T")), (by refine (?_ : Tw (scopeAt 38)) _ rfl; k_extra "T"), 0, [], .none, .none, .none, .none, none, .none, .none, 0⟩), #[]⟩) ::
  (nat_lit 298, ⟨(.type "code"), none, (.fields #[(.str (Str.ofString "read_lines") 606), (.str (Str.ofString "read_lines") 607), (.str (Str.ofString "/claim/cut.py") 608), (.int (168) 0), (.int (1) 0), (.int (0) 0), (.int (0) 0), (.int (3) 0), (.ref (nat_lit 293)), (.bool true), (.int (181) 0), (.ref (nat_lit 294)), .none, (.ref (nat_lit 295)), (.ref (nat_lit 296)), (.ref (nat_lit 297)), (.int (611) 0), (.int (168) 0), (.str (Str.ofString "/claim/cut.py") 612)]), #[]⟩) ::
  (nat_lit 299, ⟨(.type "function"), none, (.func ⟨(Str.ofString "read_lines"), (Str.ofString "read_lines"), (by refine (?_ : Tw (argsAt 38)) _ rfl; k_extra "T"), .stmts ((by refine (?_ : Tw (bodyAt 38)) _ rfl; k_extra "T")), (by refine (?_ : Tw (scopeAt 38)) _ rfl; k_extra "T"), 3, [], .none, .none, .none, (.str (Str.ofString "pixelpress.head_segments") 355), none, (.ref (nat_lit 298)), .none, 0⟩), #[]⟩) ::
  (nat_lit 300, ⟨(.type "tuple"), none, (.seq #[] 0), #[]⟩) ::
  (nat_lit 302, ⟨(.type "tuple"), none, (.seq #[(.str (Str.ofString "lines") 617)] 0), #[]⟩) ::
  (nat_lit 303, ⟨(.type "tuple"), none, (.seq #[] 0), #[]⟩) ::
  (nat_lit 304, ⟨.none, none, (.func ⟨(Str.ofString "write_lines"), (Str.ofString "write_lines"), (by refine (?_ : Tw (argsAt 39)) _ rfl; k_extra "T"), .stmts ((by refine (?_ : Tw (bodyAt 39)) _ rfl; k_extra "T")), (by refine (?_ : Tw (scopeAt 39)) _ rfl; k_extra "T"), 0, [], .none, .none, .none, .none, none, .none, .none, 0⟩), #[]⟩) ::
  (nat_lit 305, ⟨(.type "code"), none, (.fields #[(.str (Str.ofString "write_lines") 614), (.str (Str.ofString "write_lines") 615), (.str (Str.ofString "/claim/cut.py") 616), (.int (172) 0), (.int (1) 0), (.int (0) 0), (.int (0) 0), (.int (3) 0), (.ref (nat_lit 300)), (.bool true), (.int (181) 0), (.ref (nat_lit 301)), .none, (.ref (nat_lit 302)), (.ref (nat_lit 303)), (.ref (nat_lit 304)), (.int (618) 0), (.int (172) 0), (.str (Str.ofString "/claim/cut.py") 619)]), #[]⟩) ::
  (nat_lit 306, ⟨(.type "function"), none, (.func ⟨(Str.ofString "write_lines"), (Str.ofString "write_lines"), (by refine (?_ : Tw (argsAt 39)) _ rfl; k_extra "T"), .stmts ((by refine (?_ : Tw (bodyAt 39)) _ rfl; k_extra "T")), (by refine (?_ : Tw (scopeAt 39)) _ rfl; k_extra "T"), 3, [], .none, .none, .none, (.str (Str.ofString "pixelpress.head_segments") 355), none, (.ref (nat_lit 305)), .none, 0⟩), #[]⟩) ::
  (nat_lit 307, ⟨(.type "tuple"), none, (.seq #[] 0), #[]⟩) ::
  (nat_lit 309, ⟨(.type "tuple"), none, (.seq #[(.str (Str.ofString "script") 626), (.str (Str.ofString "turn") 627), (.str (Str.ofString "drop") 628), (.str (Str.ofString "deep") 629)] 0), #[]⟩) ::
  (nat_lit 310, ⟨(.type "tuple"), none, (.seq #[] 0), #[]⟩) ::
  (nat_lit 311, ⟨.none, none, (.func ⟨(Str.ofString "_law_well"), (Str.ofString "_law_well"), (by refine (?_ : Tw (argsAt 41)) _ rfl; k_extra "T"), .stmts ((by refine (?_ : Tw (bodyAt 41)) _ rfl; k_extra "T")), (by refine (?_ : Tw (scopeAt 41)) _ rfl; k_extra "T"), 0, [], .none, .none, .none, .none, none, .none, .none, 0⟩), #[]⟩) ::
  (nat_lit 312, ⟨(.type "code"), none, (.fields #[(.str (Str.ofString "_law_well") 623), (.str (Str.ofString "_law_well") 624), (.str (Str.ofString "/claim/cut.py") 625), (.int (176) 0), (.int (2) 0), (.int (0) 0), (.int (0) 0), (.int (3) 0), (.ref (nat_lit 307)), (.bool true), (.int (181) 0), (.ref (nat_lit 308)), .none, (.ref (nat_lit 309)), (.ref (nat_lit 310)), (.ref (nat_lit 311)), (.int (630) 0), (.int (176) 0), (.str (Str.ofString "/claim/cut.py") 631)]), #[]⟩) ::
  (nat_lit 313, ⟨(.type "function"), none, (.func ⟨(Str.ofString "_law_well"), (Str.ofString "_law_well"), (by refine (?_ : Tw (argsAt 41)) _ rfl; k_extra "T"), .stmts ((by refine (?_ : Tw (bodyAt 41)) _ rfl; k_extra "T")), (by refine (?_ : Tw (scopeAt 41)) _ rfl; k_extra "T"), 3, [], .none, .none, .none, (.str (Str.ofString "law_pf0239_01") 621), none, (.ref (nat_lit 312)), .none, 0⟩), #[]⟩) ::
  (nat_lit 314, ⟨(.type "tuple"), none, (.seq #[] 0), #[]⟩) ::
  (nat_lit 316, ⟨(.type "tuple"), none, (.seq #[(.str (Str.ofString "well") 636), (.str (Str.ofString "top") 637), (.str (Str.ofString "pail") 638)] 0), #[]⟩) ::
  (nat_lit 317, ⟨(.type "tuple"), none, (.seq #[] 0), #[]⟩) ::
  (nat_lit 318, ⟨.none, none, (.func ⟨(Str.ofString "_law_draw"), (Str.ofString "_law_draw"), (by refine (?_ : Tw (argsAt 42)) _ rfl; k_extra "T"), .stmts ((by refine (?_ : Tw (bodyAt 42)) _ rfl; k_extra "T")), (by refine (?_ : Tw (scopeAt 42)) _ rfl; k_extra "T"), 0, [], .none, .none, .none, .none, none, .none, .none, 0⟩), #[]⟩) ::
  (nat_lit 319, ⟨(.type "code"), none, (.fields #[(.str (Str.ofString "_law_draw") 633), (.str (Str.ofString "_law_draw") 634), (.str (Str.ofString "/claim/cut.py") 635), (.int (180) 0), (.int (2) 0), (.int (0) 0), (.int (0) 0), (.int (3) 0), (.ref (nat_lit 314)), (.bool true), (.int (181) 0), (.ref (nat_lit 315)), .none, (.ref (nat_lit 316)), (.ref (nat_lit 317)), (.ref (nat_lit 318)), (.int (639) 0), (.int (180) 0), (.str (Str.ofString "/claim/cut.py") 640)]), #[]⟩) ::
  (nat_lit 320, ⟨(.type "function"), none, (.func ⟨(Str.ofString "_law_draw"), (Str.ofString "_law_draw"), (by refine (?_ : Tw (argsAt 42)) _ rfl; k_extra "T"), .stmts ((by refine (?_ : Tw (bodyAt 42)) _ rfl; k_extra "T")), (by refine (?_ : Tw (scopeAt 42)) _ rfl; k_extra "T"), 3, [], .none, .none, .none, (.str (Str.ofString "law_pf0239_01") 621), none, (.ref (nat_lit 319)), .none, 0⟩), #[]⟩) ::
  (nat_lit 321, ⟨(.type "tuple"), none, (.seq #[] 0), #[]⟩) ::
  (nat_lit 323, ⟨(.type "tuple"), none, (.seq #[(.str (Str.ofString "well") 645)] 0), #[]⟩) ::
  (nat_lit 324, ⟨(.type "tuple"), none, (.seq #[] 0), #[]⟩) ::
  (nat_lit 325, ⟨.none, none, (.func ⟨(Str.ofString "_law_side"), (Str.ofString "_law_side"), (by refine (?_ : Tw (argsAt 43)) _ rfl; k_extra "T"), .stmts ((by refine (?_ : Tw (bodyAt 43)) _ rfl; k_extra "T")), (by refine (?_ : Tw (scopeAt 43)) _ rfl; k_extra "T"), 0, [], .none, .none, .none, .none, none, .none, .none, 0⟩), #[]⟩) ::
  (nat_lit 326, ⟨(.type "code"), none, (.fields #[(.str (Str.ofString "_law_side") 642), (.str (Str.ofString "_law_side") 643), (.str (Str.ofString "/claim/cut.py") 644), (.int (187) 0), (.int (1) 0), (.int (0) 0), (.int (0) 0), (.int (3) 0), (.ref (nat_lit 321)), (.bool true), (.int (181) 0), (.ref (nat_lit 322)), .none, (.ref (nat_lit 323)), (.ref (nat_lit 324)), (.ref (nat_lit 325)), (.int (646) 0), (.int (187) 0), (.str (Str.ofString "/claim/cut.py") 647)]), #[]⟩) ::
  (nat_lit 327, ⟨(.type "function"), none, (.func ⟨(Str.ofString "_law_side"), (Str.ofString "_law_side"), (by refine (?_ : Tw (argsAt 43)) _ rfl; k_extra "T"), .stmts ((by refine (?_ : Tw (bodyAt 43)) _ rfl; k_extra "T")), (by refine (?_ : Tw (scopeAt 43)) _ rfl; k_extra "T"), 3, [], .none, .none, .none, (.str (Str.ofString "law_pf0239_01") 621), none, (.ref (nat_lit 326)), .none, 0⟩), #[]⟩) ::
  (nat_lit 328, ⟨(.type "tuple"), none, (.seq #[] 0), #[]⟩) ::
  (nat_lit 330, ⟨(.type "tuple"), none, (.seq #[(.str (Str.ofString "well") 652), (.str (Str.ofString "most") 653), (.str (Str.ofString "way") 654)] 0), #[]⟩) ::
  (nat_lit 331, ⟨(.type "tuple"), none, (.seq #[] 0), #[]⟩) ::
  (nat_lit 332, ⟨.none, none, (.func ⟨(Str.ofString "_law_most"), (Str.ofString "_law_most"), (by refine (?_ : Tw (argsAt 44)) _ rfl; k_extra "T"), .stmts ((by refine (?_ : Tw (bodyAt 44)) _ rfl; k_extra "T")), (by refine (?_ : Tw (scopeAt 44)) _ rfl; k_extra "T"), 0, [], .none, .none, .none, .none, none, .none, .none, 0⟩), #[]⟩) ::
  (nat_lit 333, ⟨(.type "code"), none, (.fields #[(.str (Str.ofString "_law_most") 649), (.str (Str.ofString "_law_most") 650), (.str (Str.ofString "/claim/cut.py") 651), (.int (189) 0), (.int (2) 0), (.int (0) 0), (.int (0) 0), (.int (3) 0), (.ref (nat_lit 328)), (.bool true), (.int (181) 0), (.ref (nat_lit 329)), .none, (.ref (nat_lit 330)), (.ref (nat_lit 331)), (.ref (nat_lit 332)), (.int (655) 0), (.int (189) 0), (.str (Str.ofString "/claim/cut.py") 656)]), #[]⟩) ::
  (nat_lit 334, ⟨(.type "function"), none, (.func ⟨(Str.ofString "_law_most"), (Str.ofString "_law_most"), (by refine (?_ : Tw (argsAt 44)) _ rfl; k_extra "T"), .stmts ((by refine (?_ : Tw (bodyAt 44)) _ rfl; k_extra "T")), (by refine (?_ : Tw (scopeAt 44)) _ rfl; k_extra "T"), 3, [], .none, .none, .none, (.str (Str.ofString "law_pf0239_01") 621), none, (.ref (nat_lit 333)), .none, 0⟩), #[]⟩) ::
  (nat_lit 335, ⟨(.type "tuple"), none, (.seq #[] 0), #[]⟩) ::
  (nat_lit 337, ⟨(.type "tuple"), none, (.seq #[(.str (Str.ofString "deed") 661)] 0), #[]⟩) ::
  (nat_lit 338, ⟨(.type "tuple"), none, (.seq #[] 0), #[]⟩) ::
  (nat_lit 339, ⟨.none, none, (.func ⟨(Str.ofString "_law_heard"), (Str.ofString "_law_heard"), (by refine (?_ : Tw (argsAt 45)) _ rfl; k_extra "T"), .stmts ((by refine (?_ : Tw (bodyAt 45)) _ rfl; k_extra "T")), (by refine (?_ : Tw (scopeAt 45)) _ rfl; k_extra "T"), 0, [], .none, .none, .none, .none, none, .none, .none, 0⟩), #[]⟩) ::
  (nat_lit 340, ⟨(.type "code"), none, (.fields #[(.str (Str.ofString "_law_heard") 658), (.str (Str.ofString "_law_heard") 659), (.str (Str.ofString "/claim/cut.py") 660), (.int (192) 0), (.int (1) 0), (.int (0) 0), (.int (0) 0), (.int (3) 0), (.ref (nat_lit 335)), (.bool true), (.int (181) 0), (.ref (nat_lit 336)), .none, (.ref (nat_lit 337)), (.ref (nat_lit 338)), (.ref (nat_lit 339)), (.int (662) 0), (.int (192) 0), (.str (Str.ofString "/claim/cut.py") 663)]), #[]⟩) ::
  (nat_lit 341, ⟨(.type "function"), none, (.func ⟨(Str.ofString "_law_heard"), (Str.ofString "_law_heard"), (by refine (?_ : Tw (argsAt 45)) _ rfl; k_extra "T"), .stmts ((by refine (?_ : Tw (bodyAt 45)) _ rfl; k_extra "T")), (by refine (?_ : Tw (scopeAt 45)) _ rfl; k_extra "T"), 3, [], .none, .none, .none, (.str (Str.ofString "law_pf0239_01") 621), none, (.ref (nat_lit 340)), .none, 0⟩), #[]⟩) ::
  (nat_lit 342, ⟨(.type "tuple"), none, (.seq #[] 0), #[]⟩) ::
  (nat_lit 344, ⟨(.type "tuple"), none, (.seq #[] 0), #[]⟩) ::
  (nat_lit 345, ⟨(.type "tuple"), none, (.seq #[] 0), #[]⟩) ::
  (nat_lit 346, ⟨.none, none, (.func ⟨(Str.ofString "_law_codes"), (Str.ofString "_law_codes"), (by refine (?_ : Tw (argsAt 46)) _ rfl; k_extra "T"), .stmts ((by refine (?_ : Tw (bodyAt 46)) _ rfl; k_extra "T")), (by refine (?_ : Tw (scopeAt 46)) _ rfl; k_extra "T"), 0, [], .none, .none, .none, .none, none, .none, .none, 0⟩), #[]⟩) ::
  (nat_lit 347, ⟨(.type "code"), none, (.fields #[(.str (Str.ofString "_law_codes") 665), (.str (Str.ofString "_law_codes") 666), (.str (Str.ofString "/claim/cut.py") 667), (.int (197) 0), (.int (0) 0), (.int (0) 0), (.int (0) 0), (.int (3) 0), (.ref (nat_lit 342)), (.bool true), (.int (181) 0), (.ref (nat_lit 343)), .none, (.ref (nat_lit 344)), (.ref (nat_lit 345)), (.ref (nat_lit 346)), (.int (668) 0), (.int (197) 0), (.str (Str.ofString "/claim/cut.py") 669)]), #[]⟩) ::
  (nat_lit 348, ⟨(.type "function"), none, (.func ⟨(Str.ofString "_law_codes"), (Str.ofString "_law_codes"), (by refine (?_ : Tw (argsAt 46)) _ rfl; k_extra "T"), .stmts ((by refine (?_ : Tw (bodyAt 46)) _ rfl; k_extra "T")), (by refine (?_ : Tw (scopeAt 46)) _ rfl; k_extra "T"), 3, [], .none, .none, .none, (.str (Str.ofString "law_pf0239_01") 621), none, (.ref (nat_lit 347)), .none, 0⟩), #[]⟩) ::
  (nat_lit 349, ⟨(.type "tuple"), none, (.seq #[] 0), #[]⟩) ::
  (nat_lit 351, ⟨(.type "tuple"), none, (.seq #[(.str (Str.ofString "code") 674), (.str (Str.ofString "precision") 675)] 0), #[]⟩) ::
  (nat_lit 352, ⟨(.type "tuple"), none, (.seq #[] 0), #[]⟩) ::
  (nat_lit 353, ⟨.none, none, (.func ⟨(Str.ofString "_law_lets_bits"), (Str.ofString "_law_lets_bits"), (by refine (?_ : Tw (argsAt 47)) _ rfl; k_extra "T"), .stmts ((by refine (?_ : Tw (bodyAt 47)) _ rfl; k_extra "T")), (by refine (?_ : Tw (scopeAt 47)) _ rfl; k_extra "T"), 0, [], .none, .none, .none, .none, none, .none, .none, 0⟩), #[]⟩) ::
  (nat_lit 354, ⟨(.type "code"), none, (.fields #[(.str (Str.ofString "_law_lets_bits") 671), (.str (Str.ofString "_law_lets_bits") 672), (.str (Str.ofString "/claim/cut.py") 673), (.int (199) 0), (.int (2) 0), (.int (0) 0), (.int (0) 0), (.int (3) 0), (.ref (nat_lit 349)), (.bool true), (.int (181) 0), (.ref (nat_lit 350)), .none, (.ref (nat_lit 351)), (.ref (nat_lit 352)), (.ref (nat_lit 353)), (.int (676) 0), (.int (199) 0), (.str (Str.ofString "/claim/cut.py") 677)]), #[]⟩) ::
  (nat_lit 355, ⟨(.type "function"), none, (.func ⟨(Str.ofString "_law_lets_bits"), (Str.ofString "_law_lets_bits"), (by refine (?_ : Tw (argsAt 47)) _ rfl; k_extra "T"), .stmts ((by refine (?_ : Tw (bodyAt 47)) _ rfl; k_extra "T")), (by refine (?_ : Tw (scopeAt 47)) _ rfl; k_extra "T"), 3, [], .none, .none, .none, (.str (Str.ofString "law_pf0239_01") 621), none, (.ref (nat_lit 354)), .none, 0⟩), #[]⟩) ::
  (nat_lit 356, ⟨(.type "tuple"), none, (.seq #[] 0), #[]⟩) ::
  (nat_lit 358, ⟨(.type "tuple"), none, (.seq #[(.str (Str.ofString "well") 682), (.str (Str.ofString "code") 683), (.str (Str.ofString "precision") 684), (.str (Str.ofString "rows") 685), (.str (Str.ofString "turn") 686), (.str (Str.ofString "sampling") 687)] 0), #[]⟩) ::
  (nat_lit 359, ⟨(.type "tuple"), none, (.seq #[] 0), #[]⟩) ::
  (nat_lit 360, ⟨.none, none, (.func ⟨(Str.ofString "_law_frame"), (Str.ofString "_law_frame"), (by refine (?_ : Tw (argsAt 48)) _ rfl; k_extra "T"), .stmts ((by refine (?_ : Tw (bodyAt 48)) _ rfl; k_extra "T")), (by refine (?_ : Tw (scopeAt 48)) _ rfl; k_extra "T"), 0, [], .none, .none, .none, .none, none, .none, .none, 0⟩), #[]⟩) ::
  (nat_lit 361, ⟨(.type "code"), none, (.fields #[(.str (Str.ofString "_law_frame") 679), (.str (Str.ofString "_law_frame") 680), (.str (Str.ofString "/claim/cut.py") 681), (.int (203) 0), (.int (1) 0), (.int (0) 0), (.int (0) 0), (.int (3) 0), (.ref (nat_lit 356)), (.bool true), (.int (181) 0), (.ref (nat_lit 357)), .none, (.ref (nat_lit 358)), (.ref (nat_lit 359)), (.ref (nat_lit 360)), (.int (688) 0), (.int (203) 0), (.str (Str.ofString "/claim/cut.py") 689)]), #[]⟩) ::
  (nat_lit 362, ⟨(.type "function"), none, (.func ⟨(Str.ofString "_law_frame"), (Str.ofString "_law_frame"), (by refine (?_ : Tw (argsAt 48)) _ rfl; k_extra "T"), .stmts ((by refine (?_ : Tw (bodyAt 48)) _ rfl; k_extra "T")), (by refine (?_ : Tw (scopeAt 48)) _ rfl; k_extra "T"), 3, [], .none, .none, .none, (.str (Str.ofString "law_pf0239_01") 621), none, (.ref (nat_lit 361)), .none, 0⟩), #[]⟩) ::
  (nat_lit 363, ⟨(.type "tuple"), none, (.seq #[] 0), #[]⟩) ::
  (nat_lit 365, ⟨.none, none, (.func ⟨(Str.ofString "_law_lets_frame"), (Str.ofString "_law_lets_frame"), (by refine (?_ : Tw (argsAt 49)) _ rfl; k_extra "T"), .stmts ((by refine (?_ : Tw (bodyAt 49)) _ rfl; k_extra "T")), (by refine (?_ : Tw (scopeAt 49)) _ rfl; k_extra "T"), 0, [], .none, .none, .none, .none, none, .none, .none, 0⟩), #[]⟩) ::
  (nat_lit 366, ⟨(.type "code"), none, (.fields #[(.str (Str.ofString "_law_lets_frame") 691), (.str (Str.ofString "_law_lets_frame") 692), (.str (Str.ofString "/claim/cut.py") 693), (.int (213) 0), (.int (1) 0), (.int (0) 0), (.int (0) 0), (.int (3) 0), (.ref (nat_lit 363)), (.bool true), (.int (181) 0), (.ref (nat_lit 364)), .none, .none, .none, (.ref (nat_lit 365)), (.int (694) 0), (.int (213) 0), (.str (Str.ofString "/claim/cut.py") 695)]), #[]⟩) ::
  (nat_lit 367, ⟨(.type "function"), none, (.func ⟨(Str.ofString "_law_lets_frame"), (Str.ofString "_law_lets_frame"), (by refine (?_ : Tw (argsAt 49)) _ rfl; k_extra "T"), .stmts ((by refine (?_ : Tw (bodyAt 49)) _ rfl; k_extra "T")), (by refine (?_ : Tw (scopeAt 49)) _ rfl; k_extra "T"), 3, [], .none, .none, .none, (.str (Str.ofString "law_pf0239_01") 621), none, (.ref (nat_lit 366)), .none, 0⟩), #[]⟩) ::
  (nat_lit 368, ⟨(.type "tuple"), none, (.seq #[] 0), #[]⟩) ::
  (nat_lit 370, ⟨.none, none, (.func ⟨(Str.ofString "_law_row_of"), (Str.ofString "_law_row_of"), (by refine (?_ : Tw (argsAt 50)) _ rfl; k_extra "T"), .stmts ((by refine (?_ : Tw (bodyAt 50)) _ rfl; k_extra "T")), (by refine (?_ : Tw (scopeAt 50)) _ rfl; k_extra "T"), 0, [], .none, .none, .none, .none, none, .none, .none, 0⟩), #[]⟩) ::
  (nat_lit 371, ⟨(.type "code"), none, (.fields #[(.str (Str.ofString "_law_row_of") 697), (.str (Str.ofString "_law_row_of") 698), (.str (Str.ofString "/claim/cut.py") 699), (.int (221) 0), (.int (1) 0), (.int (0) 0), (.int (0) 0), (.int (3) 0), (.ref (nat_lit 368)), (.bool true), (.int (181) 0), (.ref (nat_lit 369)), .none, .none, .none, (.ref (nat_lit 370)), (.int (700) 0), (.int (221) 0), (.str (Str.ofString "/claim/cut.py") 701)]), #[]⟩) ::
  (nat_lit 372, ⟨(.type "function"), none, (.func ⟨(Str.ofString "_law_row_of"), (Str.ofString "_law_row_of"), (by refine (?_ : Tw (argsAt 50)) _ rfl; k_extra "T"), .stmts ((by refine (?_ : Tw (bodyAt 50)) _ rfl; k_extra "T")), (by refine (?_ : Tw (scopeAt 50)) _ rfl; k_extra "T"), 3, [], .none, .none, .none, (.str (Str.ofString "law_pf0239_01") 621), none, (.ref (nat_lit 371)), .none, 0⟩), #[]⟩) ::
  (nat_lit 373, ⟨(.type "tuple"), none, (.seq #[] 0), #[]⟩) ::
  (nat_lit 375, ⟨.none, none, (.func ⟨(Str.ofString "_law_frame_right"), (Str.ofString "_law_frame_right"), (by refine (?_ : Tw (argsAt 51)) _ rfl; k_extra "T"), .stmts ((by refine (?_ : Tw (bodyAt 51)) _ rfl; k_extra "T")), (by refine (?_ : Tw (scopeAt 51)) _ rfl; k_extra "T"), 0, [], .none, .none, .none, .none, none, .none, .none, 0⟩), #[]⟩) ::
  (nat_lit 376, ⟨(.type "code"), none, (.fields #[(.str (Str.ofString "_law_frame_right") 703), (.str (Str.ofString "_law_frame_right") 704), (.str (Str.ofString "/claim/cut.py") 705), (.int (223) 0), (.int (1) 0), (.int (0) 0), (.int (0) 0), (.int (3) 0), (.ref (nat_lit 373)), (.bool true), (.int (181) 0), (.ref (nat_lit 374)), .none, .none, .none, (.ref (nat_lit 375)), (.int (706) 0), (.int (223) 0), (.str (Str.ofString "/claim/cut.py") 707)]), #[]⟩) ::
  (nat_lit 377, ⟨(.type "function"), none, (.func ⟨(Str.ofString "_law_frame_right"), (Str.ofString "_law_frame_right"), (by refine (?_ : Tw (argsAt 51)) _ rfl; k_extra "T"), .stmts ((by refine (?_ : Tw (bodyAt 51)) _ rfl; k_extra "T")), (by refine (?_ : Tw (scopeAt 51)) _ rfl; k_extra "T"), 3, [], .none, .none, .none, (.str (Str.ofString "law_pf0239_01") 621), none, (.ref (nat_lit 376)), .none, 0⟩), #[]⟩) ::
  (nat_lit 378, ⟨(.type "tuple"), none, (.seq #[] 0), #[]⟩) ::
  (nat_lit 380, ⟨(.type "tuple"), none, (.seq #[(.str (Str.ofString "well") 712), (.str (Str.ofString "many") 713), (.str (Str.ofString "rows") 714), (.str (Str.ofString "turn") 715), (.str (Str.ofString "row") 716), (.str (Str.ofString "frame") 717), (.str (Str.ofString "head") 718)] 0), #[]⟩) ::
  (nat_lit 381, ⟨(.type "tuple"), none, (.seq #[(.str (Str.ofString "code") 719), (.str (Str.ofString "octets") 720)] 0), #[]⟩) ::
  (nat_lit 382, ⟨.none, none, (.func ⟨(Str.ofString "_law_octets_right"), (Str.ofString "_law_octets_right"), (by refine (?_ : Tw (argsAt 52)) _ rfl; k_extra "T"), .stmts ((by refine (?_ : Tw (bodyAt 52)) _ rfl; k_extra "T")), (by refine (?_ : Tw (scopeAt 52)) _ rfl; k_extra "T"), 0, [], .none, .none, .none, .none, none, .none, .none, 0⟩), #[]⟩) ::
  (nat_lit 383, ⟨(.type "code"), none, (.fields #[(.str (Str.ofString "_law_octets_right") 709), (.str (Str.ofString "_law_octets_right") 710), (.str (Str.ofString "/claim/cut.py") 711), (.int (233) 0), (.int (1) 0), (.int (0) 0), (.int (0) 0), (.int (3) 0), (.ref (nat_lit 378)), (.bool true), (.int (181) 0), (.ref (nat_lit 379)), .none, (.ref (nat_lit 380)), (.ref (nat_lit 381)), (.ref (nat_lit 382)), (.int (721) 0), (.int (233) 0), (.str (Str.ofString "/claim/cut.py") 722)]), #[]⟩) ::
  (nat_lit 384, ⟨(.type "function"), none, (.func ⟨(Str.ofString "_law_octets_right"), (Str.ofString "_law_octets_right"), (by refine (?_ : Tw (argsAt 52)) _ rfl; k_extra "T"), .stmts ((by refine (?_ : Tw (bodyAt 52)) _ rfl; k_extra "T")), (by refine (?_ : Tw (scopeAt 52)) _ rfl; k_extra "T"), 3, [], .none, .none, .none, (.str (Str.ofString "law_pf0239_01") 621), none, (.ref (nat_lit 383)), .none, 0⟩), #[]⟩) ::
  (nat_lit 385, ⟨(.type "tuple"), none, (.seq #[] 0), #[]⟩) ::
  (nat_lit 387, ⟨.none, none, (.func ⟨(Str.ofString "_law_scan"), (Str.ofString "_law_scan"), (by refine (?_ : Tw (argsAt 53)) _ rfl; k_extra "T"), .stmts ((by refine (?_ : Tw (bodyAt 53)) _ rfl; k_extra "T")), (by refine (?_ : Tw (scopeAt 53)) _ rfl; k_extra "T"), 0, [], .none, .none, .none, .none, none, .none, .none, 0⟩), #[]⟩) ::
  (nat_lit 388, ⟨(.type "code"), none, (.fields #[(.str (Str.ofString "_law_scan") 724), (.str (Str.ofString "_law_scan") 725), (.str (Str.ofString "/claim/cut.py") 726), (.int (243) 0), (.int (1) 0), (.int (0) 0), (.int (0) 0), (.int (3) 0), (.ref (nat_lit 385)), (.bool true), (.int (181) 0), (.ref (nat_lit 386)), .none, .none, .none, (.ref (nat_lit 387)), (.int (727) 0), (.int (243) 0), (.str (Str.ofString "/claim/cut.py") 728)]), #[]⟩) ::
  (nat_lit 389, ⟨(.type "function"), none, (.func ⟨(Str.ofString "_law_scan"), (Str.ofString "_law_scan"), (by refine (?_ : Tw (argsAt 53)) _ rfl; k_extra "T"), .stmts ((by refine (?_ : Tw (bodyAt 53)) _ rfl; k_extra "T")), (by refine (?_ : Tw (scopeAt 53)) _ rfl; k_extra "T"), 3, [], .none, .none, .none, (.str (Str.ofString "law_pf0239_01") 621), none, (.ref (nat_lit 388)), .none, 0⟩), #[]⟩) ::
  (nat_lit 390, ⟨(.type "tuple"), none, (.seq #[] 0), #[]⟩) ::
  (nat_lit 392, ⟨.none, none, (.func ⟨(Str.ofString "_law_lets_scan"), (Str.ofString "_law_lets_scan"), (by refine (?_ : Tw (argsAt 54)) _ rfl; k_extra "T"), .stmts ((by refine (?_ : Tw (bodyAt 54)) _ rfl; k_extra "T")), (by refine (?_ : Tw (scopeAt 54)) _ rfl; k_extra "T"), 0, [], .none, .none, .none, .none, none, .none, .none, 0⟩), #[]⟩) ::
  (nat_lit 393, ⟨(.type "code"), none, (.fields #[(.str (Str.ofString "_law_lets_scan") 730), (.str (Str.ofString "_law_lets_scan") 731), (.str (Str.ofString "/claim/cut.py") 732), (.int (248) 0), (.int (1) 0), (.int (0) 0), (.int (0) 0), (.int (3) 0), (.ref (nat_lit 390)), (.bool true), (.int (181) 0), (.ref (nat_lit 391)), .none, .none, .none, (.ref (nat_lit 392)), (.int (733) 0), (.int (248) 0), (.str (Str.ofString "/claim/cut.py") 734)]), #[]⟩) ::
  (nat_lit 394, ⟨(.type "function"), none, (.func ⟨(Str.ofString "_law_lets_scan"), (Str.ofString "_law_lets_scan"), (by refine (?_ : Tw (argsAt 54)) _ rfl; k_extra "T"), .stmts ((by refine (?_ : Tw (bodyAt 54)) _ rfl; k_extra "T")), (by refine (?_ : Tw (scopeAt 54)) _ rfl; k_extra "T"), 3, [], .none, .none, .none, (.str (Str.ofString "law_pf0239_01") 621), none, (.ref (nat_lit 393)), .none, 0⟩), #[]⟩) ::
  (nat_lit 395, ⟨(.type "tuple"), none, (.seq #[] 0), #[]⟩) ::
  (nat_lit 397, ⟨(.type "tuple"), none, (.seq #[(.str (Str.ofString "scan") 739), (.str (Str.ofString "told") 740), (.str (Str.ofString "due") 741), (.str (Str.ofString "at") 742), (.str (Str.ofString "head") 743)] 0), #[]⟩) ::
  (nat_lit 398, ⟨(.type "tuple"), none, (.seq #[(.str (Str.ofString "ac_slots") 744), (.str (Str.ofString "dc_slots") 745), (.str (Str.ofString "end") 746), (.str (Str.ofString "high") 747), (.str (Str.ofString "idents") 748), (.str (Str.ofString "low") 749), (.str (Str.ofString "start") 750)] 0), #[]⟩) ::
  (nat_lit 399, ⟨.none, none, (.func ⟨(Str.ofString "_law_scan_right"), (Str.ofString "_law_scan_right"), (by refine (?_ : Tw (argsAt 55)) _ rfl; k_extra "T"), .stmts ((by refine (?_ : Tw (bodyAt 55)) _ rfl; k_extra "T")), (by refine (?_ : Tw (scopeAt 55)) _ rfl; k_extra "T"), 0, [], .none, .none, .none, .none, none, .none, .none, 0⟩), #[]⟩) ::
  (nat_lit 400, ⟨(.type "code"), none, (.fields #[(.str (Str.ofString "_law_scan_right") 736), (.str (Str.ofString "_law_scan_right") 737), (.str (Str.ofString "/claim/cut.py") 738), (.int (257) 0), (.int (1) 0), (.int (0) 0), (.int (0) 0), (.int (3) 0), (.ref (nat_lit 395)), (.bool true), (.int (181) 0), (.ref (nat_lit 396)), .none, (.ref (nat_lit 397)), (.ref (nat_lit 398)), (.ref (nat_lit 399)), (.int (751) 0), (.int (257) 0), (.str (Str.ofString "/claim/cut.py") 752)]), #[]⟩) ::
  (nat_lit 401, ⟨(.type "function"), none, (.func ⟨(Str.ofString "_law_scan_right"), (Str.ofString "_law_scan_right"), (by refine (?_ : Tw (argsAt 55)) _ rfl; k_extra "T"), .stmts ((by refine (?_ : Tw (bodyAt 55)) _ rfl; k_extra "T")), (by refine (?_ : Tw (scopeAt 55)) _ rfl; k_extra "T"), 3, [], .none, .none, .none, (.str (Str.ofString "law_pf0239_01") 621), none, (.ref (nat_lit 400)), .none, 0⟩), #[]⟩) ::
  (nat_lit 402, ⟨(.type "tuple"), none, (.seq #[] 0), #[]⟩) ::
  (nat_lit 404, ⟨(.type "tuple"), none, (.seq #[(.str (Str.ofString "number") 757)] 0), #[]⟩) ::
  (nat_lit 405, ⟨(.type "tuple"), none, (.seq #[(.str (Str.ofString "octets") 758)] 0), #[]⟩) ::
  (nat_lit 406, ⟨.none, none, (.func ⟨(Str.ofString "_law_rims_right"), (Str.ofString "_law_rims_right"), (by refine (?_ : Tw (argsAt 56)) _ rfl; k_extra "T"), .stmts ((by refine (?_ : Tw (bodyAt 56)) _ rfl; k_extra "T")), (by refine (?_ : Tw (scopeAt 56)) _ rfl; k_extra "T"), 0, [], .none, .none, .none, .none, none, .none, .none, 0⟩), #[]⟩) ::
  (nat_lit 407, ⟨(.type "code"), none, (.fields #[(.str (Str.ofString "_law_rims_right") 754), (.str (Str.ofString "_law_rims_right") 755), (.str (Str.ofString "/claim/cut.py") 756), (.int (268) 0), (.int (1) 0), (.int (0) 0), (.int (0) 0), (.int (3) 0), (.ref (nat_lit 402)), (.bool true), (.int (181) 0), (.ref (nat_lit 403)), .none, (.ref (nat_lit 404)), (.ref (nat_lit 405)), (.ref (nat_lit 406)), (.int (759) 0), (.int (268) 0), (.str (Str.ofString "/claim/cut.py") 760)]), #[]⟩) ::
  (nat_lit 408, ⟨(.type "function"), none, (.func ⟨(Str.ofString "_law_rims_right"), (Str.ofString "_law_rims_right"), (by refine (?_ : Tw (argsAt 56)) _ rfl; k_extra "T"), .stmts ((by refine (?_ : Tw (bodyAt 56)) _ rfl; k_extra "T")), (by refine (?_ : Tw (scopeAt 56)) _ rfl; k_extra "T"), 3, [], .none, .none, .none, (.str (Str.ofString "law_pf0239_01") 621), none, (.ref (nat_lit 407)), .none, 0⟩), #[]⟩) ::
  (nat_lit 409, ⟨(.type "tuple"), none, (.seq #[] 0), #[]⟩) ::
  (nat_lit 411, ⟨.none, none, (.func ⟨(Str.ofString "law"), (Str.ofString "law"), (by refine (?_ : Tw (argsAt 57)) _ rfl; k_extra "T"), .stmts ((by refine (?_ : Tw (bodyAt 57)) _ rfl; k_extra "T")), (by refine (?_ : Tw (scopeAt 57)) _ rfl; k_extra "T"), 0, [], .none, .none, .none, .none, none, .none, .none, 0⟩), #[]⟩) ::
  (nat_lit 412, ⟨(.type "code"), none, (.fields #[(.str (Str.ofString "law") 762), (.str (Str.ofString "law") 763), (.str (Str.ofString "/claim/cut.py") 764), (.int (280) 0), (.int (1) 0), (.int (0) 0), (.int (0) 0), (.int (3) 0), (.ref (nat_lit 409)), (.bool true), (.int (181) 0), (.ref (nat_lit 410)), .none, .none, .none, (.ref (nat_lit 411)), (.int (765) 0), (.int (280) 0), (.str (Str.ofString "/claim/cut.py") 766)]), #[]⟩) ::
  (nat_lit 413, ⟨(.type "function"), none, (.func ⟨(Str.ofString "law"), (Str.ofString "law"), (by refine (?_ : Tw (argsAt 57)) _ rfl; k_extra "T"), .stmts ((by refine (?_ : Tw (bodyAt 57)) _ rfl; k_extra "T")), (by refine (?_ : Tw (scopeAt 57)) _ rfl; k_extra "T"), 3, [], .none, .none, .none, (.str (Str.ofString "law_pf0239_01") 621), none, (.ref (nat_lit 412)), .none, 0⟩), #[]⟩) :: []
end
theorem hide (G : Prop) (h : ∀ P : Prop, (G → P) → P) : G := h G id
noncomputable def keep : List Nat := [1, 2, 3, 4, 6, 7, 8, 9, 10, 11, 13, 14, 16, 17, 18, 19, 20, 21, 22, 23, 24, 25, 26, 27, 28, 29, 30, 31, 32, 33, 34, 35, 36, 37, 38, 39, 41, 42, 43, 44, 45, 46, 47, 48, 49, 50, 51, 52, 53, 54, 55, 56, 57]
noncomputable def q : Program := view PySem.Challenge.pw_pf0239_01 keep
/-- for k_fill -/
noncomputable abbrev Fill (w : World) : Prop := K w.params = K w.params ∧ PySem.Challenge.rw_pf0239_01 = PySem.Challenge.rw_pf0239_01
noncomputable abbrev Cn (w : World) (D : Nat) (f : Addr) (vs : List Value) (news : List (Addr × Obj)) (R : Value → List (Addr × Obj) → Prop) (X : Addr → Prop) : Prop :=
  ∀ (loose : List Str) (mean : ExcName → Option Value) (mg mb : Str → Option Value) (dp un : Nat) (gd : Option (List Code)) (cn : Str) (cs : Scope) (a : Addr) (ccd : Value) (cl : List (Str × Addr)) (outer : List Env) (A₀ : Around) (base h₀ : Heap) (L : Addr) (m : Str → Option Value) (s : Shared) (Q E : Value → Shared → Prop),
    Below A₀ base outer h₀ → Fr h₀ L s.heap m → (K w.params).In h₀ → News h₀ L s.heap news → Top topProg loose mean mg mb h₀ → cs.kind = .function → dp + D < 500 → un + 8 * D < 2000 →
    (∀ v news' h' tk', R v news' → Fr h₀ L h' m → News h₀ L h' news' → Q v { s with heap := h', toks := tk' }) →
    (∀ C e t vs' h' tk' g₂, X C → Fr h₀ L g₂ m → RaisedS base g₂ (envX cn cs L a ccd cl :: outer) e (.ref C) t vs' news h' → g₂.UpToSlots h' → E (.ref e) { s with heap := h', toks := tk' }) →
    Fill w →
    wpAny (model PySem.Challenge.rw_pf0239_01.prog w) (ktrTop dp un gd cn cs L a ccd cl outer) (call (.ref f) vs) Q E s
noncomputable abbrev CnP (w : World) (D : Nat) (f : Addr) (vs : List Value) (news : List (Addr × Obj)) (P : (Value → List (Addr × Obj) → Prop) → Prop) (XP : (Addr → Prop) → Prop) : Prop :=
  ∀ (loose : List Str) (mean : ExcName → Option Value) (mg mb : Str → Option Value) (dp un : Nat) (gd : Option (List Code)) (cn : Str) (cs : Scope) (a : Addr) (ccd : Value) (cl : List (Str × Addr)) (outer : List Env) (A₀ : Around) (base h₀ : Heap) (L : Addr) (m : Str → Option Value) (s : Shared) (Q E : Value → Shared → Prop),
    Below A₀ base outer h₀ → Fr h₀ L s.heap m → (K w.params).In h₀ → News h₀ L s.heap news → Top topProg loose mean mg mb h₀ → cs.kind = .function → dp + D < 500 → un + 8 * D < 2000 →
    P (fun v news' => ∀ h' tk', Fr h₀ L h' m → News h₀ L h' news' → Q v { s with heap := h', toks := tk' }) →
    XP (fun C => ∀ e t vs' h' tk' g₂, Fr h₀ L g₂ m → RaisedS base g₂ (envX cn cs L a ccd cl :: outer) e (.ref C) t vs' news h' → g₂.UpToSlots h' → E (.ref e) { s with heap := h', toks := tk' }) →
    Fill w →
    wpAny (model PySem.Challenge.rw_pf0239_01.prog w) (ktrTop dp un gd cn cs L a ccd cl outer) (call (.ref f) vs) Q E s
theorem Cn.toP {w : World} {D : Nat} {f : Addr} {vs : List Value} {news : List (Addr × Obj)} {R : Value → List (Addr × Obj) → Prop} {X : Addr → Prop} {P : (Value → List (Addr × Obj) → Prop) → Prop} {XP : (Addr → Prop) → Prop} (c : Cn w D f vs news R X)
    (hP : ∀ K, P K → ∀ v n', R v n' → K v n') (hX : ∀ K, XP K → ∀ C, X C → K C) : CnP w D f vs news P XP := by
  intro loose mean mg mb dp un gd cn cs a ccd cl outer A₀ base h₀ L m s Q E B F X' N T hk hd hu r x fl
  exact c loose mean mg mb dp un gd cn cs a ccd cl outer A₀ base h₀ L m s Q E B F X' N T hk hd hu (fun v n' h' tk' hr F' N' => hP _ r v n' hr h' tk' F' N') (fun C e t vs' h' tk' g₂ hc F' R' U' => hX _ x C hc e t vs' h' tk' g₂ F' R' U') fl
theorem weaken {α : Type} {M : Model} {A : Around} {t : Sem α} {Q : α → Shared → Prop} {E : Value → Shared → Prop} {s : Shared} (d u : Nat) (hd : A.depth ≤ d) (hu : A.units ≤ u)
    (h : wpAny M { A with depth := d, units := u } t Q E s) : wpAny M A t Q E s := by
  intro Γ p hΓ
  exact h Γ p ⟨hΓ.1, Nat.le_trans hΓ.2.1 hd, hΓ.2.2.1, hΓ.2.2.2.1, Nat.le_trans hΓ.2.2.2.2 hu⟩
section
open PySem.W.X
noncomputable def asL : List Addr := [nat_lit 0, nat_lit 1, nat_lit 2, nat_lit 3, nat_lit 4, nat_lit 5, nat_lit 6, nat_lit 7, nat_lit 9, nat_lit 10, nat_lit 11, nat_lit 13, nat_lit 14, nat_lit 15, nat_lit 22, nat_lit 24, nat_lit 25, nat_lit 26, nat_lit 27, nat_lit 28, nat_lit 29, nat_lit 30, nat_lit 31, nat_lit 32, nat_lit 35, nat_lit 42, nat_lit 43, nat_lit 44, nat_lit 47, nat_lit 54, nat_lit 55, nat_lit 56, nat_lit 59, nat_lit 66, nat_lit 67, nat_lit 68, nat_lit 71, nat_lit 73, nat_lit 74, nat_lit 75, nat_lit 76, nat_lit 77, nat_lit 78, nat_lit 80, nat_lit 81, nat_lit 82, nat_lit 83, nat_lit 84, nat_lit 92, nat_lit 94, nat_lit 95, nat_lit 96, nat_lit 97, nat_lit 98, nat_lit 99, nat_lit 101, nat_lit 102, nat_lit 103, nat_lit 104, nat_lit 105, nat_lit 106, nat_lit 108, nat_lit 109, nat_lit 110, nat_lit 111, nat_lit 112, nat_lit 113, nat_lit 115, nat_lit 116, nat_lit 117, nat_lit 118, nat_lit 119, nat_lit 120, nat_lit 122, nat_lit 123, nat_lit 124, nat_lit 125, nat_lit 126, nat_lit 127, nat_lit 128, nat_lit 129, nat_lit 130, nat_lit 131, nat_lit 141, nat_lit 143, nat_lit 144, nat_lit 145, nat_lit 146, nat_lit 147, nat_lit 148, nat_lit 149, nat_lit 150, nat_lit 151, nat_lit 152, nat_lit 162, nat_lit 164, nat_lit 165, nat_lit 166, nat_lit 167, nat_lit 168, nat_lit 169, nat_lit 170, nat_lit 171, nat_lit 172, nat_lit 173, nat_lit 183, nat_lit 185, nat_lit 186, nat_lit 187, nat_lit 188, nat_lit 189, nat_lit 190, nat_lit 191, nat_lit 192, nat_lit 193, nat_lit 194, nat_lit 197, nat_lit 199, nat_lit 200, nat_lit 201, nat_lit 202, nat_lit 203, nat_lit 204, nat_lit 206, nat_lit 207, nat_lit 208, nat_lit 209, nat_lit 210, nat_lit 211, nat_lit 213, nat_lit 214, nat_lit 215, nat_lit 216, nat_lit 217, nat_lit 218, nat_lit 220, nat_lit 221, nat_lit 222, nat_lit 223, nat_lit 224, nat_lit 225, nat_lit 227, nat_lit 228, nat_lit 229, nat_lit 230, nat_lit 231, nat_lit 232, nat_lit 234, nat_lit 235, nat_lit 236, nat_lit 237, nat_lit 239, nat_lit 240, nat_lit 241, nat_lit 242, nat_lit 243, nat_lit 244, nat_lit 246, nat_lit 247, nat_lit 248, nat_lit 249, nat_lit 250, nat_lit 251, nat_lit 253, nat_lit 254, nat_lit 255, nat_lit 256, nat_lit 257, nat_lit 258, nat_lit 260, nat_lit 261, nat_lit 262, nat_lit 263, nat_lit 264, nat_lit 265, nat_lit 267, nat_lit 268, nat_lit 269, nat_lit 270, nat_lit 271, nat_lit 272, nat_lit 274, nat_lit 275, nat_lit 276, nat_lit 277, nat_lit 278, nat_lit 279, nat_lit 281, nat_lit 282, nat_lit 283, nat_lit 284, nat_lit 285, nat_lit 286, nat_lit 288, nat_lit 289, nat_lit 290, nat_lit 291, nat_lit 292, nat_lit 293, nat_lit 295, nat_lit 296, nat_lit 297, nat_lit 298, nat_lit 299, nat_lit 300, nat_lit 302, nat_lit 303, nat_lit 304, nat_lit 305, nat_lit 306, nat_lit 307, nat_lit 309, nat_lit 310, nat_lit 311, nat_lit 312, nat_lit 313, nat_lit 314, nat_lit 316, nat_lit 317, nat_lit 318, nat_lit 319, nat_lit 320, nat_lit 321, nat_lit 323, nat_lit 324, nat_lit 325, nat_lit 326, nat_lit 327, nat_lit 328, nat_lit 330, nat_lit 331, nat_lit 332, nat_lit 333, nat_lit 334, nat_lit 335, nat_lit 337, nat_lit 338, nat_lit 339, nat_lit 340, nat_lit 341, nat_lit 342, nat_lit 344, nat_lit 345, nat_lit 346, nat_lit 347, nat_lit 348, nat_lit 349, nat_lit 351, nat_lit 352, nat_lit 353, nat_lit 354, nat_lit 355, nat_lit 356, nat_lit 358, nat_lit 359, nat_lit 360, nat_lit 361, nat_lit 362, nat_lit 363, nat_lit 365, nat_lit 366, nat_lit 367, nat_lit 368, nat_lit 370, nat_lit 371, nat_lit 372, nat_lit 373, nat_lit 375, nat_lit 376, nat_lit 377, nat_lit 378, nat_lit 380, nat_lit 381, nat_lit 382, nat_lit 383, nat_lit 384, nat_lit 385, nat_lit 387, nat_lit 388, nat_lit 389, nat_lit 390, nat_lit 392, nat_lit 393, nat_lit 394, nat_lit 395, nat_lit 397, nat_lit 398, nat_lit 399, nat_lit 400, nat_lit 401, nat_lit 402, nat_lit 404, nat_lit 405, nat_lit 406, nat_lit 407, nat_lit 408, nat_lit 409, nat_lit 411, nat_lit 412, nat_lit 413]
theorem HKp : ∀ P, asL = (K P).map (·.1) := fun _ => by kernel_rfl
theorem look1 : ∀ w, (openEnds treeTable PySem.Challenge.pw_pf0239_01 w 6326).map (fun s => ((openSeen q [] (importedModules PySem.Challenge.pw_pf0239_01.main.body) (fun s => xlAt q [] s && recOk (RowW.records PySem.Challenge.rw_pf0239_01.row.toRowW) s) true s).1, (openSeen q [] (importedModules PySem.Challenge.pw_pf0239_01.main.body) (fun s => xlAt q [] s && recOk (RowW.records PySem.Challenge.rw_pf0239_01.row.toRowW) s) true s).2.1, (openSeen q [] (importedModules PySem.Challenge.pw_pf0239_01.main.body) (fun s => xlAt q [] s && recOk (RowW.records PySem.Challenge.rw_pf0239_01.row.toRowW) s) true s).2.2.1)) = some ((openGood q []).1, (openGood q []).2.1, (openGood q []).2.2.1) := by
  intro w
  unfold openEnds fencedOpening topFrom
  rw [PySem.W.Fast.te14364793385576792824, PySem.W.Fast.te4187177175401517315, PySem.W.Fast.te5923862056798008813, PySem.W.Fast.te14082659384304107361, PySem.W.Fast.te10274390034422433532]
  kernel_rfl
theorem look2 : ∀ w, (openEnds treeTable PySem.Challenge.pw_pf0239_01 w 6326).map (fun s => (openSeen q [] (importedModules PySem.Challenge.pw_pf0239_01.main.body) (fun s => xlAt q [] s && recOk (RowW.records PySem.Challenge.rw_pf0239_01.row.toRowW) s) true s).2.2.2) = some ((openGood q []).2.2.2) := by
  intro w
  unfold openEnds fencedOpening topFrom
  rw [PySem.W.Fast.te14364793385576792824, PySem.W.Fast.te4187177175401517315, PySem.W.Fast.te5923862056798008813, PySem.W.Fast.te14082659384304107361, PySem.W.Fast.te10274390034422433532]
  kernel_rfl
theorem look3 : ∀ w, (openEnds treeTable PySem.Challenge.pw_pf0239_01 w 6326).map (fun s => Hook.obs (kmHook K asL HKp [403, 396, 379, 374]) s) = some (Hook.val (kmHook K asL HKp [403, 396, 379, 374]) w) := by
  intro w
  unfold openEnds fencedOpening topFrom
  rw [PySem.W.Fast.te14364793385576792824, PySem.W.Fast.te14082659384304107361, PySem.W.Fast.te10274390034422433532]
  kernel_rfl
theorem opt4 {σ α β γ δ : Type} {o : Option σ} {f : σ → α × β × γ × δ} {g : σ → ε} {a : α × β × γ × δ} {b : ε} (h1 : o.map (fun s => ((f s).1, (f s).2.1, (f s).2.2.1)) = some (a.1, a.2.1, a.2.2.1)) (h2 : o.map (fun s => (f s).2.2.2) = some a.2.2.2) (h3 : o.map g = some b) : o.map (fun s => (f s, g s)) = some (a, b) := by
  cases o with
  | none => cases h1
  | some s =>
    simp only [Option.map_some, Option.some.injEq, Prod.mk.injEq] at h1 h2 h3 ⊢
    exact ⟨Prod.ext h1.1 (Prod.ext h1.2.1 (Prod.ext h1.2.2 h2)), h3⟩
theorem left : LeftO PySem.Challenge.pw_pf0239_01 q [] (fun s => xlAt q [] s && recOk (RowW.records PySem.Challenge.rw_pf0239_01.row.toRowW) s) (Hook.obs (kmHook K asL HKp [403, 396, 379, 374])) (Hook.val (kmHook K asL HKp [403, 396, 379, 374])) 6326 := fun w => opt4 (look1 w) (look2 w) (look3 w)
end
noncomputable abbrev Led := List (Addr × Obj)
noncomputable abbrev Sl := List (Option Value)
noncomputable abbrev MM (w : World) : Model := model PySem.Challenge.rw_pf0239_01.prog w
/-- where a walk stands -/
structure Cx (w : World) (cs : Scope) where
  loose : List Str
  mean : ExcName → Option Value
  mg : Str → Option Value
  mb : Str → Option Value
  dp : Nat
  un : Nat
  gd : Option (List Code)
  cn : Str
  a : Addr
  ccd : Value
  cl : List (Str × Addr)
  outer : List Env
  A₀ : Around
  base : Heap
  turn : Heap → Prop
  L : Addr
  g : Array GenState
  d : Drawn
  o : OsState
  n₀ : Led
  ke : Addr → Prop
  E : Value → Shared → Prop
section
variable {w : World} {cs : Scope}
noncomputable abbrev Cx.env (c : Cx w cs) : Env := envX c.cn cs c.L c.a c.ccd c.cl
noncomputable abbrev Cx.A (c : Cx w cs) : Around := ktrTop c.dp c.un c.gd c.cn cs c.L c.a c.ccd c.cl c.outer
noncomputable abbrev Cx.sh (c : Cx w cs) (h : Heap) (t : Nat) : Shared := ⟨h, c.g, c.d, t, c.o⟩
/-- what a raise leaves -/
inductive Er (c : Cx w cs) (v : Value) (s : Shared) : Prop
  | mk (C : _) (e : _) (t : _) (vs : _) (h : _) (tk : _) (b : _) (g₂ : _) (m' : _) (z0 : v = .ref e) (z1 : s = c.sh h tk) (z2 : c.turn b) (z3 : Fr b c.L g₂ m') (z4 : RaisedS c.base g₂ (c.env :: c.outer) e (.ref C) t vs c.n₀ h) (z5 : g₂.UpToSlots h) (z6 : c.ke C) : Er c v s
theorem er_no {c : Cx w cs} (h : ∀ C, c.ke C → False) {v : Value} {s : Shared} (e : Er c v s) : False := by
  refine hide _ fun hidP hidH => ?_
  obtain ⟨C, e, t, vs, h', tk, b, g₂, m', _, _, _, _, _, _, hk⟩ := e
  refine hidH ?_
  clear hidH
  exact h C hk
structure Cx.Ok (c : Cx w cs) (D : Nat) : Prop where
  B : ∀ b, c.turn b → Below c.A₀ c.base c.outer b
  X : ∀ b, c.turn b → (K w.params).In b
  T : ∀ b, c.turn b → Top topProg c.loose c.mean c.mg c.mb b
  hk : cs.kind = .function
  hd : c.dp + D < 500
  hu : c.un + 8 * D < 2000
  fl : Fill w
  raise : ∀ v s, Er c v s → c.E v s
  own : PassesOwn (MM w) c.A c.env c.E
noncomputable def Cx.One (c : Cx w cs) : Prop := ∀ b b', c.turn b → c.turn b' → b = b'
noncomputable def getAt : Sl → Nat → Option Value
  | [], _ => none
  | x :: _, 0 => x
  | _ :: r, i + 1 => getAt r i
noncomputable def setAt : Nat → Option Value → Sl → Sl
  | 0, v, [] => [v]
  | 0, v, _ :: r => v :: r
  | i + 1, v, [] => none :: setAt i v []
  | i + 1, v, x :: r => x :: setAt i v r
theorem getAt_set : ∀ (i : Nat) (v : Option Value) (sl : Sl) (j : Nat), getAt (setAt i v sl) j = if j = i then v else getAt sl j
  | 0, v, [], 0 => rfl
  | 0, v, [], j + 1 => by simp [setAt, getAt]
  | 0, v, x :: r, 0 => rfl
  | 0, v, x :: r, j + 1 => by simp [setAt, getAt]
  | i + 1, v, [], 0 => by simp [setAt, getAt]
  | i + 1, v, x :: r, 0 => by simp [setAt, getAt]
  | i + 1, v, [], j + 1 => by simp [setAt, getAt, getAt_set i v [] j]
  | i + 1, v, x :: r, j + 1 => by simp [setAt, getAt, getAt_set i v r j]
noncomputable def ixOf (x : Str) : List (Str × NameKind) → Option Nat
  | [] => none
  | p :: r => if p.1 = x then some 0 else (ixOf x r).map (· + 1)
theorem ixOf_inj : ∀ {ns : List (Str × NameKind)} {x y : Str} {i : Nat}, ixOf x ns = some i → ixOf y ns = some i → x = y
  | [], _, _, _, h, _ => nomatch h
  | p :: r, x, y, i, h, h' => by
    unfold ixOf at h h'
    split at h
    · rename_i e
      cases h
      split at h'
      · rename_i e'; exact e.symm.trans e'
      · cases hq : ixOf y r with
        | none => rw [hq] at h'; cases h'
        | some j => rw [hq] at h'; cases h'
    · split at h'
      · cases h'
        cases hq : ixOf x r with
        | none => rw [hq] at h; cases h
        | some j => rw [hq] at h; cases h
      · cases hq : ixOf x r with
        | none => rw [hq] at h; cases h
        | some j =>
          cases hq' : ixOf y r with
          | none => rw [hq'] at h'; cases h'
          | some j' =>
            rw [hq] at h; rw [hq'] at h'
            simp only [Option.map_some, Option.some.injEq] at h h'
            have : j = j' := by omega
            subst this
            exact ixOf_inj hq hq'
noncomputable def menuOf (ns : List (Str × NameKind)) (sl : Sl) : Str → Option Value := fun y => match ixOf y ns with
  | some i => getAt sl i
  | none => none
theorem menuOf_set {ns : List (Str × NameKind)} {sl : Sl} {x : Str} {i : Nat} {v : Option Value} (h : ixOf x ns = some i) : menuOf ns (setAt i v sl) = fun y => if y = x then v else menuOf ns sl y := by
  funext y
  unfold menuOf
  by_cases e : y = x
  · subst e; rw [h, if_pos rfl]; simp only [getAt_set, if_true]
  · rw [if_neg e]
    cases hq : ixOf y ns with
    | none => rfl
    | some j =>
      have : j ≠ i := fun z => e (ixOf_inj (z ▸ hq) h)
      simp only [getAt_set, if_neg this]
theorem menuOf_get {ns : List (Str × NameKind)} {sl : Sl} {x : Str} {i : Nat} (h : ixOf x ns = some i) : menuOf ns sl x = getAt sl i := by
  unfold menuOf; rw [h]
theorem getAt_none : ∀ (z i : Nat), getAt (List.replicate z none) i = none
  | 0, _ => rfl
  | z + 1, 0 => rfl
  | z + 1, i + 1 => getAt_none z i
theorem getAt_pad : ∀ (l : Sl) (z i : Nat), getAt (l ++ List.replicate z none) i = getAt l i
  | [], z, i => getAt_none z i
  | _ :: _, _, 0 => rfl
  | _ :: r, z, i + 1 => getAt_pad r z i
theorem menuOf_start {ns : List (Str × NameKind)} {b : List (Str × Value)} (hb : ∀ y ∈ b, ns.lookup y.1 = some .local) {sl : Sl} {z : Nat} (hs : ns.map (fun p => b.reverse.lookup p.1) = sl ++ List.replicate z none) :
    (fun y => b.reverse.lookup y) = menuOf ns sl := by
  have hz : menuOf ns sl = menuOf ns (sl ++ List.replicate z none) := by
    funext y
    unfold menuOf
    cases ixOf y ns with
    | none => rfl
    | some i => exact (getAt_pad sl z i).symm
  rw [hz, ← hs]
  funext y
  unfold menuOf
  have key : ∀ (m : List (Str × NameKind)), match ixOf y m with | some i => getAt (m.map (fun p => b.reverse.lookup p.1)) i = b.reverse.lookup y | none => m.lookup y = none := by
    intro m
    induction m with
    | nil => rfl
    | cons p r ih =>
      unfold ixOf
      by_cases e : p.1 = y
      · simp only [e, if_true, List.map_cons, getAt]
      · simp only [if_neg e]
        cases hq : ixOf y r with
        | none =>
          rw [hq] at ih
          simp only [Option.map_none]
          have e' : (y == p.1) = false := by simpa using fun z => e z.symm
          rw [List.lookup_cons, e']; exact ih
        | some j =>
          rw [hq] at ih
          simp only [Option.map_some, List.map_cons, getAt]; exact ih
  have k := key ns
  cases hq : ixOf y ns with
  | some j => rw [hq] at k; exact k.symm
  | none =>
    rw [hq] at k
    show b.reverse.lookup y = none
    cases hl : b.reverse.lookup y with
    | none => rfl
    | some v =>
      exfalso
      have mem : ∀ (l : List (Str × Value)), l.lookup y = some v → (y, v) ∈ l := by
        intro l
        induction l with
        | nil => intro h; cases h
        | cons q r ih =>
          intro h
          rw [List.lookup_cons] at h
          cases hb : y == q.1 with
          | true =>
            rw [hb] at h
            simp only [Option.some.injEq] at h
            have e1 := eq_of_beq hb
            rw [← h, e1]
            exact List.mem_cons_self
          | false => rw [hb] at h; exact List.mem_cons_of_mem _ (ih h)
      have := hb _ (List.mem_reverse.mp (mem _ hl))
      rw [k] at this
      cases this
/-- the names and the ledger in a heap -/
inductive At (c : Cx w cs) (sl : Sl) (n : Led) (h : Heap) : Prop
  | mk (b : Heap) (z0 : c.turn b) (z1 : Fr b c.L h (menuOf cs.names sl)) (z2 : News b c.L h n) : At c sl n h
/-- what a step leaves -/
noncomputable def Post {α : Type} (c : Cx w cs) (k : α → Sl → Led → Nat → Prop) (v : α) (s : Shared) : Prop :=
  ∃ h sl n t, s = c.sh h t ∧ At c sl n h ∧ k v sl n t
/-- a tree from a state -/
noncomputable def Tri {α : Type} (c : Cx w cs) (sl : Sl) (n : Led) (t : Nat) (x : Sem α) (k : α → Sl → Led → Nat → Prop) : Prop :=
  ∀ h, At c sl n h → wpAny (MM w) c.A x (Post c k) c.E (c.sh h t)
theorem raised_drop {base G : Heap} {l : List Env} {e : Addr} {cls : Value} {t : Addr} {vs : List Value} {news news' : List (Addr × Obj)} {h : Heap} (R : RaisedS base G l e cls t vs news' h) (hs : ∀ p ∈ news, p ∈ news') : RaisedS base G l e cls t vs news h := by
  refine hide _ fun hidP hidH => ?_
  obtain ⟨⟨B, h1, h0, h2, h3, h4⟩, h5⟩ := R
  refine hidH ?_
  clear hidH
  exact ⟨⟨B, h1, h0, fun q hq => h2 q (hs q hq), h3, h4⟩, h5⟩
theorem Tri.seq {α : Type} {c : Cx w cs} {sl : Sl} {n : Led} {t : Nat} {x : Sem α} {k : α → Sl → Led → Nat → Prop} {Q : α → Shared → Prop} (T : Tri c sl n t x k)
    (q : ∀ v sl' n' t', k v sl' n' t' → ∀ h, At c sl' n' h → Q v (c.sh h t')) {h : Heap} (H : At c sl n h) :
    wpAny (MM w) c.A x Q c.E (c.sh h t) := by
  refine wpAny_mono (T h H) ?_ fun _ _ e => e
  intro v s hz1
  refine hide _ fun hidP hidH => ?_
  obtain ⟨h', sl', n', t', rfl, H', hk⟩ := hz1
  refine hidH ?_
  clear hidH
  exact q v sl' n' t' hk h' H'
theorem Tri.mono {α : Type} {c : Cx w cs} {sl : Sl} {n : Led} {t : Nat} {x : Sem α} {k k' : α → Sl → Led → Nat → Prop} (T : Tri c sl n t x k) (q : ∀ v sl' n' t', k v sl' n' t' → k' v sl' n' t') : Tri c sl n t x k' :=
  fun _ H => T.seq (fun v sl' n' t' hk h H => ⟨h, sl', n', t', rfl, H, q v sl' n' t' hk⟩) H
theorem Cn.tri {D D' : Nat} {f : Addr} {vs : List Value} {news : List (Addr × Obj)} {R : Value → List (Addr × Obj) → Prop} {X : Addr → Prop} (cn : Cn w D f vs news R X)
    {c : Cx w cs} (ok : c.Ok D') (hD : Nat.ble D D' = true) {sl : Sl} {t : Nat} {k : Value → Sl → Led → Nat → Prop} (hR : ∀ v n', R v n' → ∀ t, k v sl n' t) (hX : ∀ C, X C → (∀ p ∈ c.n₀, p ∈ news) ∧ c.ke C) :
    Tri c sl news t (call (.ref f) vs) k := by
  have hD := Nat.le_of_ble_eq_true hD
  intro h hz2
  refine hide _ fun hidP hidH => ?_
  obtain ⟨b, W, F, N⟩ := hz2
  refine hidH ?_
  clear hidH
  exact cn c.loose c.mean c.mg c.mb c.dp c.un c.gd c.cn cs c.a c.ccd c.cl c.outer c.A₀ c.base b c.L _ _ _ _ (ok.B b W) F (ok.X b W) N (ok.T b W) ok.hk (Nat.lt_of_le_of_lt (Nat.add_le_add_left hD _) ok.hd) (Nat.lt_of_le_of_lt (Nat.add_le_add_left (Nat.mul_le_mul_left 8 hD) _) ok.hu)
    (fun v n' h' tk' r F' N' => ⟨h', sl, n', tk', rfl, ⟨b, W, F', N'⟩, hR v n' r tk'⟩)
    (fun C e t vs' h' tk' g₂ x F' R' U' => ok.raise _ _ ⟨C, e, t, vs', h', tk', b, g₂, _, rfl, rfl, W, F', raised_drop R' (hX C x).1, U', (hX C x).2⟩) ok.fl
noncomputable def flowVal : Flow → Value
  | .ret v => v
  | _ => .none
end
noncomputable def retK (S : Value → Led → Prop) : Flow → Sl → Led → Nat → Prop := fun fl _ n _ => ∃ n', (∀ p ∈ n', p ∈ n) ∧ S (flowVal fl) n'
/-- a function's contract, of its code -/
noncomputable abbrev CnA (w : World) (D : Nat) (f : Addr) (vs : List Value) (news : List (Addr × Obj)) (R : Value → List (Addr × Obj) → Prop) (X : Addr → Prop) : Prop :=
  ∀ (loose : List Str) (mean : ExcName → Option Value) (mg mb : Str → Option Value) (dp un : Nat) (gd : Option (List Code)) (cn : Str) (cs : Scope) (a : Addr) (ccd : Value) (cl : List (Str × Addr)) (outer : List Env) (A₀ : Around) (base h₀ : Heap) (L : Addr) (m : Str → Option Value) (s : Shared) (Rr : Result → Shared → Prop),
    Below A₀ base outer h₀ → Fr h₀ L s.heap m → (K w.params).In h₀ → News h₀ L s.heap news → Top topProg loose mean mg mb h₀ → cs.kind = .function → dp + D < 500 → un + 8 * D < 2000 →
    (∀ v news' h' tk', R v news' → Fr h₀ L h' m → News h₀ L h' news' → Rr (.ok (.ret v)) { s with heap := h', toks := tk' }) →
    (∀ C e t vs' h' tk' g₂, X C → Fr h₀ L g₂ m → RaisedS base g₂ (envX cn cs L a ccd cl :: outer) e (.ref C) t vs' news h' → g₂.UpToSlots h' → Rr (.error (.ref e)) { s with heap := h', toks := tk' }) →
    Fill w →
    codeAny (model PySem.Challenge.rw_pf0239_01.prog w) (ktrTop dp un gd cn cs L a ccd cl outer) (.call (.ref f) ⟨vs, []⟩) Rr s
theorem CnA.cn {w : World} {D : Nat} {f : Addr} {vs : List Value} {news : Led} {R : Value → Led → Prop} {X : Addr → Prop} (h : CnA w D f vs news R X) : Cn w D f vs news R X := by
  intro loose mean mg mb dp un gd cn cs a ccd cl outer A₀ base h₀ L m s Q E B F X' N T hk hdp hun hret herr hfl
  exact wpAny_call (h _ _ _ _ _ _ _ _ _ _ _ _ _ _ _ _ _ _ _ _ B F X' N T hk hdp hun hret herr hfl)
theorem CnA.of {w : World} {D : Nat} {f : Addr} {vs : List Value} {news : Led} {R : Value → Led → Prop} {X : Addr → Prop} {name qual : Str} {params : Arguments} {body : List Stmt} {scope : Scope} {dV kV doc pm cdv ct oc : Value} {an od : Option Addr} {osl : Array (Option Value)} {binds : List (Str × Value)} {sl₀ : Sl}
    (hf : (K w.params).lookup f = some { cls := oc, dict := od, data := .func (fnOf name qual params body scope dV kV doc pm an cdv ct), slots := osl }) (hc : codeIn (K w.params) cdv qual = true)
    (hb : ∀ s, BindsTo s (fnOf name qual params body scope dV kV doc pm an cdv ct) ⟨vs, []⟩ binds) (hl : ∀ y ∈ binds, scope.names.lookup y.1 = some .local)
    (c2 : scope.isCoroutine = false) (c3 : scope.isGenerator = false) (c4 : scope.kind = .function) (c5 : ∀ x ∈ scope.names, x.2 ≠ .cell)
    {z : Nat} (hs : scope.names.map (fun p => binds.reverse.lookup p.1) = sl₀ ++ List.replicate z none)
    (run : ∀ (c : Cx w scope) (S : Value → Led → Prop), c.Ok D → c.One → (∀ p ∈ c.n₀, p ∈ news) → (∀ C, X C → c.ke C) → (∀ v n, R v n → S v n) → ∀ t, Tri c sl₀ news t (execs body c.env) (retK S)) : CnA w (D + 1) f vs news R X := by
  intro loose mean mg mb dp un gd cn cs a ccd cl outer A₀ base h₀ L m s Rr B F X' N T hk hdp hun hret herr hfl
  refine code_def (K := K w.params) B F X' N T rfl rfl hk hf hc (Nat.lt_of_le_of_lt (Nat.le_of_lt_succ (Nat.lt_succ_of_lt (Nat.lt_of_le_of_lt (Nat.le_add_right dp (D + 1)) hdp))) (by decide)) (hb s) hl ?_ c2 c3 c4 c5
  intro g L' h₁ FG F' N' B' X'' T'
  rw [menuOf_start hl hs] at F'
  let c : Cx w scope := { loose, mean, mg, mb, dp := dp + 1, un := un + 3, gd, cn := qual, a := f, ccd := cdv, cl := [], outer := envX cn cs L a ccd cl :: outer, A₀ := ktrTop dp un gd cn cs L a ccd cl outer, base, turn := fun b => b = g, L := L', g := s.gens, d := s.drawn, o := s.os, n₀ := news, ke := X, E := fun e s' => wpAny (MM w) ((ktrTop dp un gd cn cs L a ccd cl outer).deeper (envOf qual scope L' f cdv)) (leaving (envOf qual scope L' f cdv) e) (fun _ s'' => Rr (.error e) s'') (fun e' s'' => Rr (.error e') s'') s' }
  have ok : c.Ok D := ⟨fun b e => e ▸ B', fun b e => e ▸ X'', fun b e => e ▸ T', c4, by show dp + 1 + D < 500; omega, by show un + 3 + 8 * D < 2000; omega, hfl, by
    intro v s' hz3
    refine hide _ fun hidP hidH => ?_
    obtain ⟨C, e, t, vs', h, tk, b, g₂, m', rfl, rfl, eb, F'', R', U', hx⟩ := hz3
    refine hidH ?_
    clear hidH
    obtain rfl : b = g := eb
    exact leave_onS B' F'' R' U' fun h' R2 _ U2 => herr C e t vs' h' tk _ hx FG R2 U2, by show PassesOwn _ _ _ _; passes_own⟩
  have key := run c R ok (fun _ _ e e' => e.trans e'.symm) (fun _ hp => hp) (fun _ hx => hx) (fun _ _ h => h) (s.toks + binds.length) h₁ ⟨g, rfl, F', N'⟩
  refine wpAny_mono key ?_ fun _ _ e => e
  intro fl s' hz4
  refine hide _ fun hidP hidH => ?_
  obtain ⟨h', sl, n, t, rfl, ⟨b, eb, F'', N''⟩, n', hs', hr⟩ := hz4
  refine hidH ?_
  clear hidH
  obtain rfl : b = g := eb
  cases fl <;> exact leaveK_ F'' (fun p hp => N'' p (hs' p hp)) fun F3 N3 => hret _ _ _ _ hr F3 N3
theorem Cn.of {w : World} {D : Nat} {f : Addr} {vs : List Value} {news : Led} {R : Value → Led → Prop} {X : Addr → Prop} {name qual : Str} {params : Arguments} {body : List Stmt} {scope : Scope} {dV kV doc pm cdv ct oc : Value} {an od : Option Addr} {osl : Array (Option Value)} {binds : List (Str × Value)} {sl₀ : Sl}
    (hf : (K w.params).lookup f = some { cls := oc, dict := od, data := .func (fnOf name qual params body scope dV kV doc pm an cdv ct), slots := osl }) (hc : codeIn (K w.params) cdv qual = true)
    (hb : ∀ s, BindsTo s (fnOf name qual params body scope dV kV doc pm an cdv ct) ⟨vs, []⟩ binds) (hl : ∀ y ∈ binds, scope.names.lookup y.1 = some .local)
    (c2 : scope.isCoroutine = false) (c3 : scope.isGenerator = false) (c4 : scope.kind = .function) (c5 : ∀ x ∈ scope.names, x.2 ≠ .cell)
    {z : Nat} (hs : scope.names.map (fun p => binds.reverse.lookup p.1) = sl₀ ++ List.replicate z none)
    (run : ∀ (c : Cx w scope) (S : Value → Led → Prop), c.Ok D → c.One → (∀ p ∈ c.n₀, p ∈ news) → (∀ C, X C → c.ke C) → (∀ v n, R v n → S v n) → ∀ t, Tri c sl₀ news t (execs body c.env) (retK S)) : Cn w (D + 1) f vs news R X :=
  (CnA.of hf hc hb hl c2 c3 c4 c5 hs run).cn
theorem under_eq (dp un : Nat) (gd : Option (List Code)) (cn : Str) (cs : Scope) (L a : Addr) (ccd : Value) (cl : List (Str × Addr)) (outer : List Env) (C : Addr) (pos : List Value) :
    ((ktrTop dp un gd cn cs L a ccd cl outer).under (.builtin "type.__call__" ⟨.ref C :: pos, []⟩)) = ktrTop (dp + 1) (un + (Code.builtin "type.__call__" ⟨.ref C :: pos, []⟩).cUnits) (pushGuards (Code.builtin "type.__call__" ⟨.ref C :: pos, []⟩).guards gd) cn cs L a ccd cl outer := by rfl
theorem class_t {w : World} {cs : Scope} {c : Cx w cs} {D D' : Nat} {sl : Sl} {n : Led} {t : Nat} {k : Value → Sl → Led → Nat → Prop} {C fI : Addr} {vs : List Value} {R : Addr → Addr → Led → Prop} (ok : c.Ok D') (hD : Nat.ble (D + 2) D' = true)
    (hm : makesIn (K w.params) C = true) (hi : findIn (K w.params) (.ref C) (Str.ofString "__init__") = some (some (.ref fI))) (hf : isFn (K w.params) (.ref fI) = true)
    (ca : ∀ x dx, (∀ p ∈ n, p.1 < dx) → dx < x → CnA w D fI (.ref x :: vs) ((x, instObj C dx) :: (dx, dictOf [] 0) :: n) (fun v n' => v = .none ∧ R x dx n') (fun _ => False))
    (h : ∀ x dx n' t, (∀ p ∈ n, p.1 < dx) → dx < x → R x dx n' → k (.ref x) sl n' t) : Tri c sl n t (call (.ref C) vs) k := by
  have hD := Nat.le_of_ble_eq_true hD
  have hu := ok.hu
  have hd := ok.hd
  intro hp hz5
  refine hide _ fun hidP hidH => ?_
  obtain ⟨b, W, F, N⟩ := hz5
  refine hidH ?_
  clear hidH
  refine call_cls (s := c.sh hp t) F (ok.X b W) N hm hi hf fun x dx h' F' N' l1 l2 => ?_
  rw [under_eq]
  have e : (Code.builtin "type.__call__" ⟨.ref C :: vs, []⟩).cUnits ≤ 4 := Nat.le_of_ble_eq_true rfl
  refine ca x dx l1 l2 _ _ _ _ _ _ _ _ _ _ _ _ _ _ _ _ _ _ _ _ (ok.B b W) F' (ok.X b W) N' (ok.T b W) ok.hk (by omega) (by omega) ?_ (fun _ _ _ _ _ _ _ z => z.elim) ok.fl
  rintro v n' h2 tk' ⟨rfl, hr⟩ F2 N2
  exact ⟨rfl, h2, sl, n', tk', rfl, ⟨b, W, F2, N2⟩, h x dx n' tk' l1 l2 hr⟩
theorem Tri.drop {w : World} {cs : Scope} {c : Cx w cs} {α : Type} {sl : Sl} {n n' : Led} {t : Nat} {x : Sem α} {k : α → Sl → Led → Nat → Prop} (hs : ∀ p ∈ n', p ∈ n) (T : Tri c sl n' t x k) : Tri c sl n t x k :=
  fun h ⟨b, W, F, N⟩ => T h ⟨b, W, F, fun p hp => N p (hs p hp)⟩
/-- a name of the function's own -/
noncomputable def locIn (cs : Scope) (x : Str) : Bool := cs.names.lookup x == some .local && (!(x == ("__debug__" : Str)) && cs.kind == .function)
noncomputable def globIn (cs : Scope) (x : Str) : Bool := cs.names.lookup x == some .globalImplicit && (!(x == ("__debug__" : Str)) && cs.kind == .function)
theorem locIn_of {cn : Str} {cs : Scope} {L a : Addr} {ccd : Value} {cl : List (Str × Addr)} {x : Str} (h : locIn cs x = true) : (envX cn cs L a ccd cl).kindOf x = some .local ∧ (x == ("__debug__" : Str)) = false ∧ cs.kind = .function := by
  unfold locIn at h
  rw [Bool.and_eq_true, Bool.and_eq_true] at h
  obtain ⟨h1, h2, h3⟩ := h
  exact ⟨eq_of_beq h1, by simpa using h2, eq_of_beq h3⟩
theorem globIn_of {cn : Str} {cs : Scope} {L a : Addr} {ccd : Value} {cl : List (Str × Addr)} {x : Str} (h : globIn cs x = true) : (envX cn cs L a ccd cl).kindOf x = some .globalImplicit ∧ (x == ("__debug__" : Str)) = false ∧ cs.kind = .function := by
  unfold globIn at h
  rw [Bool.and_eq_true, Bool.and_eq_true] at h
  obtain ⟨h1, h2, h3⟩ := h
  exact ⟨eq_of_beq h1, by simpa using h2, eq_of_beq h3⟩
noncomputable def locIx (cs : Scope) (x : Str) : Option Nat := if locIn cs x = true then ixOf x cs.names else none
theorem locIx_of {cs : Scope} {x : Str} {i : Nat} (h : locIx cs x = some i) : locIn cs x = true ∧ ixOf x cs.names = some i := by
  unfold locIx at h
  split at h
  · exact ⟨by assumption, h⟩
  · cases h
noncomputable def gtabF : List (Str × Value) := (Str.ofString "PressError", Value.ref 31) :: (Str.ofString "SegmentError", Value.ref 44) :: (Str.ofString "CutError", Value.ref 56) :: (Str.ofString "RangeError", Value.ref 68) :: (Str.ofString "is_frame", Value.ref 77) :: (Str.ofString "word", Value.ref 84) :: (Str.ofString "OctetReader", Value.ref 129) :: (Str.ofString "ComponentHead", Value.ref 150) :: (Str.ofString "FrameHead", Value.ref 171) :: (Str.ofString "ScanHead", Value.ref 192) :: (Str.ofString "want", Value.ref 203) :: (Str.ofString "is_lossless", Value.ref 210) :: (Str.ofString "is_precision", Value.ref 217) :: (Str.ofString "are_unlike", Value.ref 224) :: (Str.ofString "check_component", Value.ref 231) :: (Str.ofString "check_frame", Value.ref 236) :: (Str.ofString "read_frame", Value.ref 243) :: (Str.ofString "write_frame", Value.ref 250) :: (Str.ofString "check_scan", Value.ref 257) :: (Str.ofString "read_scan", Value.ref 264) :: (Str.ofString "write_scan", Value.ref 271) :: (Str.ofString "read_number", Value.ref 278) :: (Str.ofString "read_interval", Value.ref 285) :: (Str.ofString "write_interval", Value.ref 292) :: (Str.ofString "read_lines", Value.ref 299) :: (Str.ofString "write_lines", Value.ref 306) :: (Str.ofString "_law_well", Value.ref 313) :: (Str.ofString "_law_draw", Value.ref 320) :: (Str.ofString "_law_side", Value.ref 327) :: (Str.ofString "_law_most", Value.ref 334) :: (Str.ofString "_law_heard", Value.ref 341) :: (Str.ofString "_law_codes", Value.ref 348) :: (Str.ofString "_law_lets_bits", Value.ref 355) :: (Str.ofString "_law_frame", Value.ref 362) :: (Str.ofString "_law_lets_frame", Value.ref 367) :: (Str.ofString "_law_row_of", Value.ref 372) :: (Str.ofString "_law_frame_right", Value.ref 377) :: (Str.ofString "_law_octets_right", Value.ref 384) :: (Str.ofString "_law_scan", Value.ref 389) :: (Str.ofString "_law_lets_scan", Value.ref 394) :: (Str.ofString "_law_scan_right", Value.ref 401) :: (Str.ofString "_law_rims_right", Value.ref 408) :: []
noncomputable def gtabN : List (Str × Value) := (Str.ofString "SOF0", Value.int 192 268) :: (Str.ofString "DHT", Value.int 196 270) :: (Str.ofString "JPG", Value.int 200 272) :: (Str.ofString "DAC", Value.int 204 274) :: (Str.ofString "SOF15", Value.int 207 276) :: (Str.ofString "MOST_SAMPLING", Value.int 4 357) :: (Str.ofString "MOST_SLOT", Value.int 3 359) :: (Str.ofString "MOST_IN_SCAN", Value.int 4 361) :: (Str.ofString "MOST_PLACE", Value.int 63 363) :: (Str.ofString "MOST_POINT", Value.int 15 365) :: []
noncomputable def gtabB : List (Str × Value) := (Str.ofString "len", Value.builtin "len") :: (Str.ofString "min", Value.builtin "min") :: (Str.ofString "max", Value.builtin "max") :: (Str.ofString "bytes", Value.type "bytes") :: (Str.ofString "list", Value.type "list") :: (Str.ofString "dict", Value.type "dict") :: (Str.ofString "range", Value.type "range") :: []
noncomputable def GlobF (w : World) (x : Str) (v : Value) : Prop := nsIn (K w.params) mainGlobals x = some (some v) ∧ keepIn (K w.params) v = true
noncomputable def GlobN (w : World) (x : Str) (v : Value) : Prop := nsIn (K w.params) mainGlobals x = some (some v)
noncomputable def GlobB (w : World) (x : Str) (v : Value) : Prop := nsIn (K w.params) mainGlobals x = some none ∧ bootBuiltins x = some v ∧ x ≠ ("__name__" : Str) ∧ ((∃ i, v = .builtin i) ∨ (∃ i, v = .type i))
theorem lookup_all {P : Str → Value → Prop} : ∀ {l : List (Str × Value)}, (∀ p ∈ l, P p.1 p.2) → ∀ {x : Str} {v : Value}, l.lookup x = some v → P x v
  | [], _, _, _, h => nomatch h
  | p :: r, a, x, v, h => by
    rw [List.lookup_cons] at h
    cases hb : x == p.1 with
    | true =>
      rw [hb] at h
      have e1 := eq_of_beq hb
      simp only [Option.some.injEq] at h
      rw [e1, ← h]; exact a p List.mem_cons_self
    | false => rw [hb] at h; exact lookup_all (fun q hq => a q (List.mem_cons_of_mem _ hq)) h
theorem gtabF_all (P : Params) : (gtabF.all fun p => (nsIn (K P) mainGlobals p.1 == some (some p.2)) && keepIn (K P) p.2) = true := by kernel_rfl
theorem gtabN_all (P : Params) : (gtabN.all fun p => nsIn (K P) mainGlobals p.1 == some (some p.2)) = true := by kernel_rfl
theorem gtabB_all (P : Params) : (gtabB.all fun p => (nsIn (K P) mainGlobals p.1 == some none) && ((bootBuiltins p.1 == some p.2) && (!(p.1 == ("__name__" : Str))))) = true := by kernel_rfl
/-- an expression, its names looked up -/
inductive RE where
  | loc (i : Nat)
  | glob (v : Value)
  | int (i : Int)
  | str (s : Str)
  | bool (b : Bool)
  | non
  | attr (i : Nat) (name : Str)
  | bin (l : RE) (op : Operator) (r : RE)
  | cmp (l : RE) (op : CmpOp) (r : RE)
  | cmp2 (l : RE) (op : CmpOp) (r : RE) (op' : CmpOp) (r' : RE)
  | and (l r : RE)
  | or (l r : RE)
  | not (e : RE)
  | un (op : UnaryOp) (e : RE)
  | ife (t a b : RE)
  | call (f : Value) (args : RE)
  | meth (i : Nat) (name : Str) (args : RE)
  | appd (i : Nat) (e : RE)
  | list (es : RE)
  | tup (es : RE)
  | sub (v i : RE) (ve ie : Expr)
  | raw (e : Expr)
  | tst (e : RE)
  | nil
  | cons (e r : RE)
noncomputable def isStar : Expr → Bool
  | .Starred _ _ => true
  | _ => false
noncomputable def isSlice : Expr → Bool
  | .Slice _ _ _ _ => true
  | _ => false
noncomputable def trName (cs : Scope) (x : Str) (e : Expr) : RE :=
  match locIx cs x with
  | some i => .loc i
  | none => if globIn cs x = true then (match gtabF.lookup x with
    | some v => .glob v
    | none => match gtabN.lookup x with
      | some v => .glob v
      | none => match gtabB.lookup x with
        | some v => .glob v
        | none => .raw e) else .raw e
/-- a name that may be called -/
noncomputable def trFun (cs : Scope) (x : Str) : Option Value :=
  if globIn cs x = true then (match gtabF.lookup x with
    | some v => some v
    | none => gtabB.lookup x) else none
noncomputable def trL (g : Expr → RE) : List Expr → RE
  | [] => .nil
  | e :: r => .cons (g e) (trL g r)
noncomputable def noStar (es : List Expr) : Bool := es.all fun e => !isStar e
/-- a test -/
noncomputable def trBool (g : Expr → RE) (op : BoolOp) : List Expr → Option RE
  | [] => none
  | x :: r => match r with
    | [] => some (g x)
    | _ :: _ => match trBool g op r with
      | some q => some (match op with | .And => .and (g x) q | .Or => .or (g x) q)
      | none => none
noncomputable def trCmp (g : Expr → RE) (l : Expr) (ops : List CmpOp) (rs : List Expr) : Option RE := match ops with
  | [] => none
  | op :: ops' => match rs with
    | [] => none
    | r :: rs' => match ops' with
      | [] => (match rs' with
        | [] => if behindInMarks op r = true then none else some (.cmp (g l) op (g r))
        | _ :: _ => none)
      | op' :: ops'' => match rs' with
        | [] => none
        | r' :: rs'' => match ops'' with
          | [] => (match rs'' with
            | [] => if lastMarks [op, op'] [r, r'] = true then none else some (.cmp2 (g l) op (g r) op' (g r'))
            | _ :: _ => none)
          | _ :: _ => none
noncomputable def tstOf : RE → RE
  | .cmp2 l op r op' r' => .cmp2 l op r op' r'
  | q => .tst q
noncomputable def trTest (g : Expr → RE) (e : Expr) : RE := match e with
  | .Compare l ops rs _ => (match trCmp g l ops rs with
    | some q => tstOf q
    | none => .raw e)
  | .Name _ _ => .tst (g e)
  | .Call _ _ _ _ => .tst (g e)
  | .Attribute _ _ _ => .tst (g e)
  | _ => .raw e
/-- a test; what is no known test is raw -/
noncomputable def trT (g : Expr → RE) : Nat → Expr → RE
  | 0, e => trTest g e
  | f + 1, e => match e with
    | .BoolOp op es _ => (match trBool (trT g f) op es with
      | some q => q
      | none => .raw e)
    | .UnaryOp op x _ => (match op with
      | .Not => .not (trT g f x)
      | _ => .raw e)
    | e => trTest g e
noncomputable def trConst (k : Const) (e : Expr) : RE := match k with
  | .int i => .int i
  | .str s => .str s
  | .bool b => .bool b
  | .none => .non
  | _ => .raw e
noncomputable def trAttr (cs : Scope) (o : Expr) (name : Str) (e : Expr) : RE := match o with
  | .Name x _ => (match locIx cs x with
    | some i => .attr i name
    | none => .raw e)
  | _ => .raw e
noncomputable def trMeth (g : Expr → RE) (i : Nat) (name : Str) (args : List Expr) (e : Expr) : RE := if noStar args = true then (match args with
  | [] => .meth i name .nil
  | a :: r => (match r with
    | [] => if name = Str.ofString "append" then .appd i (g a) else .meth i name (.cons (g a) .nil)
    | _ :: _ => .raw e)) else .raw e
noncomputable def trCall (cs : Scope) (g : Expr → RE) (fn : Expr) (args : List Expr) (kws : List Keyword) (pos : Pos) (e : Expr) : RE := match kws with
  | [] => (match fn with
    | .Name x _ => (match trFun cs x with
      | some v => if noStar args = true then .call v (trL g args) else .raw e
      | none => .raw e)
    | .Attribute o name ap => (match o with
      | .Name x _ => (match locIx cs x with
        | some i => if (ap.endLine == pos.line) = true then trMeth g i name args e else .raw e
        | none => .raw e)
      | _ => .raw e)
    | _ => .raw e)
  | _ :: _ => .raw e
noncomputable def tr (cs : Scope) : Nat → Expr → RE
  | 0, e => .raw e
  | f + 1, e => match e with
    | .Constant k _ _ => trConst k e
    | .Name x _ => trName cs x e
    | .Attribute o name _ => trAttr cs o name e
    | .BinOp l op r _ => .bin (tr cs f l) op (tr cs f r)
    | .Compare l ops rs _ => (match trCmp (tr cs f) l ops rs with
      | some q => q
      | none => .raw e)
    | .BoolOp op es _ => (match trBool (tr cs f) op es with
      | some q => q
      | none => .raw e)
    | .UnaryOp op x _ => (match op with
      | .Not => .not (tr cs f x)
      | op => .un op (tr cs f x))
    | .IfExp t a b _ => .ife (trT (tr cs f) f t) (tr cs f a) (tr cs f b)
    | .Call fn args kws pos => trCall cs (tr cs f) fn args kws pos e
    | .List es _ => if noStar es = true then .list (trL (tr cs f) es) else .raw e
    | .Tuple es _ _ => if noStar es = true then .tup (trL (tr cs f) es) else .raw e
    | .Subscript v i _ => if isSlice i = true then .raw e else .sub (tr cs f v) (tr cs f i) v i
    | e => .raw e
/-- the object x of an own class, its dict -/
structure ObjAt (n : Led) (x C dx : Addr) (es : List DictEntry) (k : Nat) (sl : Array (Option Value)) : Prop where
  o : (x, ({ cls := .ref C, dict := some dx, slots := sl } : Obj)) ∈ n
  d : (dx, dictOf es k) ∈ n
/-- a class' own attribute is read plainly -/
noncomputable def readOk (K : Frag) (C : Addr) (name : Str) : Bool := plainGet K C name && (hasDictIn K C && match findIn K (.ref C) name with | some at_ => noGet K at_ | none => false)
noncomputable def methOk (K : Frag) (C : Addr) (name : Str) (f : Addr) : Bool := plainGet K C name && (isFn K (.ref f) && (keepIn K (.ref f) && match findIn K (.ref C) name with | some (some (.ref f')) => f == f' | _ => false))
inductive AttrAt (w : World) (n : Led) (x : Addr) (name : Str) (v : Value) : Prop
  | mk (C : _) (dx : _) (es : _) (k : _) (sl : _) (z0 : ObjAt n x C dx es k sl) (z1 : readOk (K w.params) C name = true) (z2 : getL name es = some (some v)) (z3 : handedIn v = true) : AttrAt w n x name v
inductive MethAt (w : World) (n : Led) (x : Addr) (name : Str) (f : Addr) : Prop
  | mk (C : _) (dx : _) (es : _) (k : _) (sl : _) (z0 : ObjAt n x C dx es k sl) (z1 : methOk (K w.params) C name f = true) (z2 : getL name es = some none) : MethAt w n x name f
/-- an attribute's value, handed on -/
noncomputable def AttrK (w : World) (n : Led) (x : Addr) (name : Str) (P : Value → Prop) : Prop := ∃ v, AttrAt w n x name v ∧ P v
noncomputable def MethK (w : World) (n : Led) (x : Addr) (name : Str) (P : Addr → Prop) : Prop := ∃ f, MethAt w n x name f ∧ P f
theorem attrK {w : World} {n : Led} {x : Addr} {name : Str} {P : Value → Prop} {v : Value} (h : AttrAt w n x name v) (k : P v) : AttrK w n x name P := ⟨v, h, k⟩
theorem methK {w : World} {n : Led} {x : Addr} {name : Str} {P : Addr → Prop} {f : Addr} (h : MethAt w n x name f) (k : P f) : MethK w n x name P := ⟨f, h, k⟩
noncomputable abbrev tupOf (vs : List Value) : Obj := { cls := .type "tuple", data := .seq vs.toArray }
/-- two ints compared -/
noncomputable def cI : CmpOp → Option (Int → Int → Bool)
  | .LtE => some fun a b => decide (a ≤ b)
  | .Lt => some fun a b => decide (a < b)
  | .GtE => some fun a b => decide (b ≤ a)
  | .Gt => some fun a b => decide (b < a)
  | .Eq => some fun a b => a == b
  | .NotEq => some fun a b => a != b
  | _ => none
noncomputable def pvI (sl : Sl) : RE → Option Int
  | .int i => some i
  | .loc i => match getAt sl i with
    | some (.int x _) => some x
    | _ => none
  | .glob v => match v with
    | .int x _ => some x
    | _ => none
  | .bin l op r => match pvI sl l with
    | none => none
    | some a => match pvI sl r with
      | none => none
      | some b => (match op with
        | .Add => some (a + b)
        | .Sub => some (a - b)
        | _ => none)
  | _ => none
noncomputable def pb (sl : Sl) : RE → Option Bool
  | .bool b => some b
  | .cmp l op r => match cI op with
    | none => none
    | some f => match pvI sl l with
      | none => none
      | some a => match pvI sl r with
        | none => none
        | some b => some (f a b)
  | .cmp2 l op r op' r' => match cI op with
    | none => none
    | some f => match cI op' with
      | none => none
      | some f' => match pvI sl l with
        | none => none
        | some a => match pvI sl r with
          | none => none
          | some b => match pvI sl r' with
            | none => none
            | some d => some (f a b && f' b d)
  | .and l r => match pb sl l with
    | none => none
    | some a => match pb sl r with
      | none => none
      | some b => some (a && b)
  | .or l r => match pb sl l with
    | none => none
    | some a => match pb sl r with
      | none => none
      | some b => some (a || b)
  | .not e => match pb sl e with
    | some a => some (!a)
    | none => none
  | _ => none
section
variable {w : World} {cs : Scope} (c : Cx w cs)
noncomputable abbrev KV := Value → Sl → Led → Nat → Prop
noncomputable def vcBin (op : Operator) (a b : Value) (sl : Sl) (n : Led) (t : Nat) (k : KV) : Prop := match op, a, b with
  | .Add, .int x _, .int y _ => k (.int (x + y) t) sl n (t + 1)
  | .Sub, .int x _, .int y _ => k (.int (x - y) t) sl n (t + 1)
  | op, a, b => Tri c sl n t (binaryOp op a b) k
noncomputable def vcCmp (op : CmpOp) (a b : Value) (sl : Sl) (n : Led) (t : Nat) (k : KV) : Prop := match cI op, a, b with
  | some f, .int x _, .int y _ => k (.bool (f x y)) sl n t
  | _, a, b => Tri c sl n t (compareOp op a b) k
noncomputable def vcTruth (v : Value) (sl : Sl) (n : Led) (t : Nat) (k : Bool → Sl → Led → Nat → Prop) : Prop := match v with
  | .bool b => k b sl n t
  | v => Tri c sl n t (truthy v) k
noncomputable def mid (op op' : CmpOp) (a b : Value) (z : Option Int) : Option Bool := match z with
  | none => none
  | some z => match cI op with
    | none => none
    | some f => match cI op' with
      | none => none
      | some f' => match a with
        | .int x _ => (match b with
          | .int y _ => some (f x y && f' y z)
          | _ => none)
        | _ => none
/-- a way by a bool -/
noncomputable def Way (b : Bool) (P Q : Prop) : Prop := (b = true → P) ∧ (b = false → Q)
noncomputable abbrev KB := Bool → Sl → Led → Nat → Prop
noncomputable def vcLink (op op' : CmpOp) (a b : Value) (z : Option Int) (F : Sl → Led → Nat → KV → Prop) (sl : Sl) (n : Led) (t : Nat) (k : KV) : Prop := match mid op op' a b z with
  | some q => ∀ t, k (.bool q) sl n t
  | none => vcCmp c op a b sl n t fun q sl n t => vcTruth c q sl n t fun z sl n t => Way z (F sl n t fun d sl n t => vcCmp c op' b d sl n t k) (k q sl n t)
noncomputable def vcLinkT (op op' : CmpOp) (a b : Value) (z : Option Int) (F : Sl → Led → Nat → KV → Prop) (sl : Sl) (n : Led) (t : Nat) (k : KB) : Prop := match mid op op' a b z with
  | some q => ∀ t, k q sl n t
  | none => vcCmp c op a b sl n t fun q sl n t => vcTruth c q sl n t fun z sl n t => Way z (F sl n t fun d sl n t => vcCmp c op' b d sl n t fun v sl n t => vcTruth c v sl n t k) (k false sl n t)
noncomputable def vcAnd (b : Bool) (a : Value) (F : Sl → Led → Nat → KV → Prop) (sl : Sl) (n : Led) (t : Nat) (k : KV) : Prop := Way b (F sl n t k) (k a sl n t)
noncomputable def vcOr (b : Bool) (a : Value) (F : Sl → Led → Nat → KV → Prop) (sl : Sl) (n : Led) (t : Nat) (k : KV) : Prop := Way b (k a sl n t) (F sl n t k)
noncomputable def vcAndT (b : Bool) (F : Sl → Led → Nat → KB → Prop) (sl : Sl) (n : Led) (t : Nat) (k : KB) : Prop := Way b (F sl n t k) (k false sl n t)
noncomputable def vcOrT (b : Bool) (F : Sl → Led → Nat → KB → Prop) (sl : Sl) (n : Led) (t : Nat) (k : KB) : Prop := Way b (k true sl n t) (F sl n t k)
noncomputable def vcIf (b : Bool) (F G : Sl → Led → Nat → KV → Prop) (sl : Sl) (n : Led) (t : Nat) (k : KV) : Prop := Way b (F sl n t k) (G sl n t k)
mutual
noncomputable def vcE : RE → Sl → Led → Nat → KV → Prop
  | .loc i, sl, n, t, k => match getAt sl i with
    | some v => k v sl n t
    | none => False
  | .glob v, sl, n, t, k => k v sl n t
  | .int i, sl, n, t, k => k (.int i t) sl n (t + 1)
  | .str s, sl, n, t, k => k (.str s t) sl n (t + 1)
  | .bool b, sl, n, t, k => k (.bool b) sl n t
  | .non, sl, n, t, k => k .none sl n t
  | .attr i name, sl, n, t, k => match getAt sl i with
    | some (.ref x) => AttrK w n x name fun v => k v sl n (t + 1)
    | _ => False
  | .bin l op r, sl, n, t, k => vcE l sl n t fun a sl n t => vcE r sl n t fun b sl n t => vcBin c op a b sl n t k
  | .cmp l op r, sl, n, t, k => match pb sl (.cmp l op r) with
    | some b => ∀ t, k (.bool b) sl n t
    | none => vcE l sl n t fun a sl n t => vcE r sl n t fun b sl n t => vcCmp c op a b sl n t k
  | .cmp2 l op r op' r', sl, n, t, k => match pb sl (.cmp2 l op r op' r') with
    | some b => ∀ t, k (.bool b) sl n t
    | none => vcE l sl n t fun a sl n t => vcE r sl n t fun b sl n t => vcLink c op op' a b (pvI sl r') (vcE r') sl n t k
  | .and l r, sl, n, t, k => match pb sl (.and l r) with
    | some b => ∀ t, k (.bool b) sl n t
    | none => vcE l sl n t fun a sl n t => vcTruth c a sl n t fun b sl n t => vcAnd b a (vcE r) sl n t k
  | .or l r, sl, n, t, k => match pb sl (.or l r) with
    | some b => ∀ t, k (.bool b) sl n t
    | none => vcE l sl n t fun a sl n t => vcTruth c a sl n t fun b sl n t => vcOr b a (vcE r) sl n t k
  | .not e, sl, n, t, k => match pb sl (.not e) with
    | some b => ∀ t, k (.bool b) sl n t
    | none => vcE e sl n t fun a sl n t => vcTruth c a sl n t fun b sl n t => k (.bool (!b)) sl n t
  | .un op e, sl, n, t, k => vcE e sl n t fun a sl n t => Tri c sl n t (unaryOp op a) k
  | .ife e a b, sl, n, t, k => vcT e sl n t fun z sl n t => vcIf z (vcE a) (vcE b) sl n t k
  | .call f args, sl, n, t, k => vcL args sl n t fun vs sl n t => Tri c sl n t (call f vs) k
  | .meth i name args, sl, n, t, k => match getAt sl i with
    | some (.ref x) => MethK w n x name fun f => vcL args sl n t fun vs sl n t => Tri c sl n t (call (.ref f) (.ref x :: vs)) k
    | _ => False
  | .appd i e, sl, n, t, k => match getAt sl i with
    | some (.ref l) => (∃ vs m, (l, listOf vs m) ∈ n) ∧ vcE e sl n t fun v sl n t => Tri c sl n t (call (.builtin "list.append") [.ref l, v]) k
    | _ => False
  | .list es, sl, n, t, k => vcL es sl n t fun vs sl n t => vs.length ≤ 64 ∧ ∀ l, (∀ p ∈ n, p.1 < l) → k (.ref l) sl ((l, listOf vs.toArray 0) :: n) t
  | .tup es, sl, n, t, k => vcL es sl n t fun vs sl n t => vs.length ≤ 64 ∧ ∀ l, (∀ p ∈ n, p.1 < l) → k (.ref l) sl ((l, tupOf vs) :: n) t
  | .sub v i ve ie, sl, n, t, k => vcE v sl n t fun a sl n t => vcE i sl n t fun b sl n t => Tri c sl n t (subscriptTail ve ie a b) k
  | .raw e, sl, n, t, k => Tri c sl n t (eval e c.env) k
  | _, _, _, _, _ => False
termination_by structural e => e
noncomputable def vcT : RE → Sl → Led → Nat → (Bool → Sl → Led → Nat → Prop) → Prop
  | .and l r, sl, n, t, k => vcT l sl n t fun b sl n t => vcAndT b (vcT r) sl n t k
  | .or l r, sl, n, t, k => vcT l sl n t fun b sl n t => vcOrT b (vcT r) sl n t k
  | .not e, sl, n, t, k => vcT e sl n t fun b sl n t => k (!b) sl n t
  | .raw e, sl, n, t, k => Tri c sl n t (isTrue e c.env (eval e c.env)) k
  | .tst e, sl, n, t, k => match pb sl e with
    | some b => ∀ t, k b sl n t
    | none => vcE e sl n t fun v sl n t => vcTruth c v sl n t k
  | .cmp2 l op r op' r', sl, n, t, k => match pb sl (.cmp2 l op r op' r') with
    | some b => ∀ t, k b sl n t
    | none => vcE l sl n t fun a sl n t => vcE r sl n t fun b sl n t => vcLinkT c op op' a b (pvI sl r') (vcE r') sl n t k
  | _, _, _, _, _ => False
termination_by structural e => e
noncomputable def vcL : RE → Sl → Led → Nat → (List Value → Sl → Led → Nat → Prop) → Prop
  | .nil, sl, n, t, k => k [] sl n t
  | .cons e r, sl, n, t, k => vcE e sl n t fun v sl n t => vcL r sl n t fun vs sl n t => k (v :: vs) sl n t
  | _, _, _, _, _ => False
termination_by structural e => e
end
end
theorem none_ne {α : Type} {a : α} {P : Prop} (h : none = some a) : P := nomatch h
section
variable {w : World} {cs : Scope} {c : Cx w cs} {D : Nat} {sl : Sl} {n : Led} {t : Nat}
theorem Tri.name {x : Str} {pos : Pos} {i : Nat} {v : Value} {k : KV} (h : locIx cs x = some i) (hv : getAt sl i = some v) (hk : k v sl n t) : Tri c sl n t (eval (.Name x pos) c.env) k := by
  intro hp H
  refine hide _ fun hidP hidH => ?_
  obtain ⟨b, W, F, N⟩ := id H
  refine hidH ?_
  clear hidH
  obtain ⟨h1, h2⟩ := locIx_of h
  obtain ⟨a1, a2, a3⟩ := locIn_of (cn := c.cn) (L := c.L) (a := c.a) (ccd := c.ccd) (cl := c.cl) h1
  exact nameX_L (s := c.sh hp t) F ((menuOf_get h2).trans hv) ⟨hp, sl, n, t, rfl, H, hk⟩ a3 a1 a2
theorem globF_of {x : Str} {v : Value} (h : gtabF.lookup x = some v) : GlobF w x v :=
  lookup_all (P := GlobF w) (fun p hp => by
    have := List.all_eq_true.mp (gtabF_all w.params) p hp
    rw [Bool.and_eq_true] at this
    exact ⟨eq_of_beq this.1, this.2⟩) h
theorem globN_of {x : Str} {v : Value} (h : gtabN.lookup x = some v) : GlobN w x v :=
  lookup_all (P := GlobN w) (fun p hp => eq_of_beq (List.all_eq_true.mp (gtabN_all w.params) p hp)) h
theorem gtabB_kind : (gtabB.all fun p => match p.2 with | .builtin _ => true | .type _ => true | _ => false) = true := by decide
theorem globB_of {x : Str} {v : Value} (h : gtabB.lookup x = some v) : GlobB w x v :=
  lookup_all (P := GlobB w) (fun p hp => by
    have := List.all_eq_true.mp (gtabB_all w.params) p hp
    rw [Bool.and_eq_true, Bool.and_eq_true] at this
    have e2 := List.all_eq_true.mp gtabB_kind p hp
    refine ⟨eq_of_beq this.1, eq_of_beq this.2.1, by simpa using this.2.2, ?_⟩
    cases hv : p.2 with
    | builtin i => exact .inl ⟨i, rfl⟩
    | type i => exact .inr ⟨i, rfl⟩
    | _ => rw [hv] at e2; cases e2) h
theorem Tri.globN {x : Str} {pos : Pos} {v : Value} {k : KV} (ok : c.Ok D) (hg : globIn cs x = true) (h : GlobN w x v) (hk : k v sl n t) : Tri c sl n t (eval (.Name x pos) c.env) k := by
  intro hp H
  refine hide _ fun hidP hidH => ?_
  obtain ⟨b, W, F, N⟩ := id H
  refine hidH ?_
  clear hidH
  obtain ⟨a1, a2, a3⟩ := globIn_of (cn := c.cn) (L := c.L) (a := c.a) (ccd := c.ccd) (cl := c.cl) hg
  exact nameX_K (s := c.sh hp t) F (ok.X b W) (topRead_of (ok.T b W)) h ⟨hp, sl, n, t, rfl, H, hk⟩ a3 a1 a2
theorem Tri.globB {x : Str} {pos : Pos} {v : Value} {k : KV} (ok : c.Ok D) (hg : globIn cs x = true) (h : GlobB w x v) (hk : k v sl n t) : Tri c sl n t (eval (.Name x pos) c.env) k := by
  intro hp H
  refine hide _ fun hidP hidH => ?_
  obtain ⟨b, W, F, N⟩ := id H
  refine hidH ?_
  clear hidH
  obtain ⟨a1, a2, a3⟩ := globIn_of (cn := c.cn) (L := c.L) (a := c.a) (ccd := c.ccd) (cl := c.cl) hg
  exact nameX_B (s := c.sh hp t) F (ok.X b W) (topRead_of (ok.T b W)) h.1 h.2.1 h.2.2.1 ⟨hp, sl, n, t, rfl, H, hk⟩ a3 a1 a2
theorem Tri.trName (ok : c.Ok D) {x : Str} {pos : Pos} {k : KV} (h : vcE c (trName cs x (.Name x pos)) sl n t k) : Tri c sl n t (eval (.Name x pos) c.env) k := by
  unfold Mine.trName at h
  split at h
  · rename_i i hi
    replace h : (match getAt sl i with | some v => k v sl n t | none => False) := h
    cases hv : getAt sl i with
    | some v => rw [hv] at h; exact Tri.name hi hv h
    | none => rw [hv] at h; exact h.elim
  · split at h
    · rename_i hg
      split at h
      · rename_i v hv
        exact Tri.globN ok hg (globF_of (w := w) hv).1 h
      · split at h
        · rename_i v hv
          exact Tri.globN ok hg (globN_of (w := w) hv) h
        · split at h
          · rename_i v hv
            exact Tri.globB ok hg (globB_of (w := w) hv) h
          · exact h
    · exact h
theorem star_cons {e : Expr} {es : List Expr} {env : Env} (h : isStar e = false) : starEach (e :: es) env = (false, eval e env) :: starEach es env := by
  cases e <;> first | rfl | cases h
theorem plain_args {env : Env} {pos : Pos} : ∀ {es : List Expr}, noStar es = true → ((backTo pos (starEach es env)).any (·.1)) = false
  | [], _ => rfl
  | e :: r, h => by
    unfold noStar at h
    rw [List.all_cons, Bool.and_eq_true] at h
    rw [star_cons (by simpa using h.1)]
    exact plain_args h.2
theorem Tri.int {i : Int} {m : Nat} {pos : Pos} {k : KV} (hk : k (.int i t) sl n (t + 1)) : Tri c sl n t (eval (.Constant (.int i) m pos) c.env) k :=
  fun hp H => wpAny_Constant_int (s := c.sh hp t) ⟨hp, sl, n, t + 1, rfl, H, hk⟩
theorem Tri.str {i : Str} {m : Nat} {pos : Pos} {k : KV} (hk : k (.str i t) sl n (t + 1)) : Tri c sl n t (eval (.Constant (.str i) m pos) c.env) k :=
  fun hp H => wpAny_Constant_str (s := c.sh hp t) ⟨hp, sl, n, t + 1, rfl, H, hk⟩
theorem Tri.bool {i : Bool} {m : Nat} {pos : Pos} {k : KV} (hk : k (.bool i) sl n t) : Tri c sl n t (eval (.Constant (.bool i) m pos) c.env) k :=
  fun hp H => Constant_bool (s := c.sh hp t) ⟨hp, sl, n, t, rfl, H, hk⟩
theorem Tri.non {m : Nat} {pos : Pos} {k : KV} (hk : k .none sl n t) : Tri c sl n t (eval (.Constant .none m pos) c.env) k :=
  fun hp H => Constant_none (s := c.sh hp t) ⟨hp, sl, n, t, rfl, H, hk⟩
theorem Tri.attr (ok : c.Ok D) {y name : Str} {yp pos : Pos} {i : Nat} {x : Addr} {v : Value} {k : KV} (h : locIx cs y = some i) (hx : getAt sl i = some (.ref x)) (ha : AttrAt w n x name v) (hk : k v sl n (t + 1)) :
    Tri c sl n t (eval (.Attribute (.Name y yp) name pos) c.env) k := by
  intro hp H
  refine hide _ fun hidP hidH => ?_
  obtain ⟨C, dx, es, m, slots, ho, hr, hl, hh⟩ := ha
  refine hidH ?_
  clear hidH
  unfold readOk at hr
  rw [Bool.and_eq_true, Bool.and_eq_true] at hr
  obtain ⟨o1, o2, o3⟩ := hr
  split at o3
  · rename_i at_ e3
    refine Attribute_Name_ ((Tri.name (pos := yp) h hx (k := fun v' sl' n' t' => v' = .ref x ∧ sl' = sl ∧ n' = n ∧ t' = t) ⟨rfl, rfl, rfl, rfl⟩).seq ?_ H)
    intro v' sl' n' t' hz1 h' H'
    refine hide _ fun hidP hidH => ?_
    obtain ⟨rfl, rfl, rfl, rfl⟩ := hz1
    refine hidH ?_
    clear hidH
    refine hide _ fun hidP hidH => ?_
    obtain ⟨b, W, F', N'⟩ := id H'
    refine hidH ?_
    clear hidH
    exact get_own (s := c.sh h' t') F' (ok.X b W) (InstAt.of_news N' ho.o ho.d) o1 o2 e3 o3 hl hh ⟨h', sl', n', t' + 1, rfl, H', hk⟩
  · cases o3
theorem Tri.bin_ {env : Env} {l r : Expr} {op : Operator} {pos : Pos} {k : KV} (h : Tri c sl n t (eval l env) fun a sl n t => Tri c sl n t (eval r env) fun b sl n t => Tri c sl n t (binaryOp op a b) k) : Tri c sl n t (eval (.BinOp l op r pos) env) k :=
  fun _ H => wpAny_BinOp (h.seq (fun _ _ _ _ h1 _ H1 => h1.seq (fun _ _ _ _ h2 _ H2 => h2 _ H2) H1) H)
theorem Tri.cmp_ {env : Env} {l r : Expr} {op : CmpOp} {pos : Pos} {k : KV} (hm : behindInMarks op r = false) (h : Tri c sl n t (eval l env) fun a sl n t => Tri c sl n t (eval r env) fun b sl n t => Tri c sl n t (compareOp op a b) k) : Tri c sl n t (eval (.Compare l [op] [r] pos) env) k :=
  fun _ H => wpAny_Compare1 (h.seq (fun _ _ _ _ h1 _ H1 => h1.seq (fun _ _ _ _ h2 _ H2 => h2 _ H2) H1) H) hm
theorem Tri.cmp2_ {env : Env} {l r r' : Expr} {op op' : CmpOp} {pos : Pos} {k : KV} (hm : lastMarks [op, op'] [r, r'] = false)
    (h : Tri c sl n t (eval l env) fun a sl n t => Tri c sl n t (eval r env) fun b sl n t => Tri c sl n t (compareOp op a b) fun q sl n t => Tri c sl n t (truthy q) fun z sl n t =>
      Way z (Tri c sl n t (eval r' env) fun d sl n t => Tri c sl n t (compareOp op' b d) k) (k q sl n t)) : Tri c sl n t (eval (.Compare l [op, op'] [r, r'] pos) env) k := by
  intro _ H
  refine Compare_chain (h.seq (fun a _ _ _ h1 _ H1 => ?_) H) hm
  refine chain_link (h1.seq (fun b _ _ _ h2 _ H2 => h2.seq (fun q _ _ _ h3 _ H3 => h3.seq (fun z sl' n' t' h4 h' H4 => ?_) H3) H2) H1)
  cases z with
  | true => exact chain_last ((h4.1 rfl).seq (fun _ _ _ _ h5 _ H5 => h5 _ H5) H4)
  | false => exact ⟨h', sl', n', t', rfl, H4, h4.2 rfl⟩
theorem Tri.and_ {e₁ e₂ : Expr} {rest : List Expr} {pos : Pos} {k : KV} (h : Tri c sl n t (eval e₁ c.env) fun a sl n t => Tri c sl n t (truthy a) fun b sl n t => Way b (Tri c sl n t (eval (.BoolOp .And (e₂ :: rest) pos) c.env) k) (k a sl n t)) :
    Tri c sl n t (eval (.BoolOp .And (e₁ :: e₂ :: rest) pos) c.env) k := by
  intro _ H
  refine BoolOp_and (h.seq (fun a _ _ _ h1 _ H1 => h1.seq (fun b sl' n' t' h2 h' H2 => ?_) H1) H)
  cases b with
  | true => exact h2.1 rfl _ H2
  | false => exact ⟨h', sl', n', t', rfl, H2, h2.2 rfl⟩
theorem Tri.or_ {e₁ e₂ : Expr} {rest : List Expr} {pos : Pos} {k : KV} (h : Tri c sl n t (eval e₁ c.env) fun a sl n t => Tri c sl n t (truthy a) fun b sl n t => Way b (k a sl n t) (Tri c sl n t (eval (.BoolOp .Or (e₂ :: rest) pos) c.env) k)) :
    Tri c sl n t (eval (.BoolOp .Or (e₁ :: e₂ :: rest) pos) c.env) k := by
  intro _ H
  refine BoolOp_or (h.seq (fun a _ _ _ h1 _ H1 => h1.seq (fun b sl' n' t' h2 h' H2 => ?_) H1) H)
  cases b with
  | false => exact h2.2 rfl _ H2
  | true => exact ⟨h', sl', n', t', rfl, H2, h2.1 rfl⟩
theorem Tri.un_ {env : Env} {op : UnaryOp} {x : Expr} {pos : Pos} {k : KV} (h : Tri c sl n t (eval x env) fun a sl n t => Tri c sl n t (unaryOp op a) k) : Tri c sl n t (eval (.UnaryOp op x pos) env) k :=
  fun _ H => wpAny_UnaryOp (h.seq (fun _ _ _ _ h1 _ H1 => h1 _ H1) H)
theorem Tri.ife_ {e a b : Expr} {pos : Pos} {k : KV} (h : Tri c sl n t (isTrue e c.env (eval e c.env)) fun z sl n t => Way z (Tri c sl n t (eval a c.env) k) (Tri c sl n t (eval b c.env) k)) : Tri c sl n t (eval (.IfExp e a b pos) c.env) k := by
  intro _ H
  refine wpAny_IfExp (h.seq (fun z _ _ _ h1 _ H1 => ?_) H)
  cases z with
  | true => exact h1.1 rfl _ H1
  | false => exact h1.2 rfl _ H1
theorem Tri.sub_ {env : Env} {v i : Expr} {pos : Pos} {k : KV} (h : Tri c sl n t (eval v env) fun a sl n t => Tri c sl n t (eval i env) fun b sl n t => Tri c sl n t (subscriptTail v i a b) k) : Tri c sl n t (eval (.Subscript v i pos) env) k :=
  fun _ H => Subscript_ (h.seq (fun _ _ _ _ h1 _ H1 => h1.seq (fun _ _ _ _ h2 _ H2 => h2 _ H2) H1) H)
theorem Tri.list_ {env : Env} {es : List Expr} {pos : Pos} {k : KV} (h : Tri c sl n t (spliced (backTo pos (starEach es env))) fun vs sl n t => vs.length ≤ 64 ∧ ∀ l, (∀ p ∈ n, p.1 < l) → k (.ref l) sl ((l, listOf vs.toArray 0) :: n) t) : Tri c sl n t (eval (.List es pos) env) k :=
  fun _ H => List_ (h.seq (fun _ sl' _ t' h1 h' ⟨b, W, F1, N1⟩ => newList_K (s := c.sh h' t') F1 N1 (fun l h2 F2 N2 hl => ⟨h2, sl', _, t', rfl, ⟨b, W, F2, N2⟩, h1.2 l hl⟩) (Nat.le_trans h1.1 (by decide))) H)
theorem Tri.tup_ {env : Env} {es : List Expr} {m : Nat} {pos : Pos} {k : KV} (h : Tri c sl n t (spliced (backTo pos (starEach es env))) fun vs sl n t => vs.length ≤ 64 ∧ ∀ l, (∀ p ∈ n, p.1 < l) → k (.ref l) sl ((l, tupOf vs) :: n) t) : Tri c sl n t (eval (.Tuple es m pos) env) k :=
  fun _ H => Tuple_ (h.seq (fun _ sl' _ t' h1 h' ⟨b, W, F1, N1⟩ => kup_newTuple (s := c.sh h' t') F1 N1 (fun l h2 F2 N2 hl => ⟨h2, sl', _, t', rfl, ⟨b, W, F2, N2⟩, h1.2 l hl⟩) (Nat.le_trans h1.1 (by decide))) H)
theorem Tri.args_nil {env : Env} {pos : Pos} {k : List Value → Sl → Led → Nat → Prop} (hk : k [] sl n t) : Tri c sl n t (spliced (backTo pos (starEach [] env))) k :=
  fun h H => PyProof.Rows.args_nil ⟨h, sl, n, t, rfl, H, hk⟩
theorem Tri.args_cons {env : Env} {e : Expr} {r : List Expr} {pos : Pos} {k : List Value → Sl → Led → Nat → Prop} (hs : isStar e = false)
    (h : Tri c sl n t (eval e env) fun v sl n t => Tri c sl n t (spliced (backTo pos (starEach r env))) fun vs sl n t => k (v :: vs) sl n t) : Tri c sl n t (spliced (backTo pos (starEach (e :: r) env))) k :=
  fun _ H => PyProof.Rows.args_cons (h.seq (fun _ _ _ _ h1 _ H1 => h1 _ H1) H) (star_cons hs)
theorem Tri.evalArgs_ {env : Env} {es : List Expr} {f : Value} {pos : Pos} {k : List Value → Sl → Led → Nat → Prop} (hs : noStar es = true) (h : match es with | [] => k [] sl n t | e :: r => Tri c sl n t (spliced (backTo pos (starEach (e :: r) env))) k) :
    Tri c sl n t (evalArgs f true (backTo pos (starEach es env)) []) (fun a sl n t => a.kw = [] ∧ k a.pos sl n t) := by
  intro hp H
  cases es with
  | nil => exact evalArgs_nil3 ⟨hp, sl, n, t, rfl, H, rfl, h⟩
  | cons e r =>
    unfold noStar at hs
    rw [List.all_cons, Bool.and_eq_true] at hs
    have e1 : isStar e = false := by simpa using hs.1
    have q := h hp H
    rw [star_cons e1] at q ⊢
    refine evalArgs_plain (wpAny_mono q ?_ fun _ _ e => e)
    intro vs s hz2
    refine hide _ fun hidP hidH => ?_
    obtain ⟨h', sl', n', t', rfl, H', hk⟩ := hz2
    refine hidH ?_
    clear hidH
    exact ⟨h', sl', n', t', rfl, H', rfl, hk⟩
theorem pvI_vc : ∀ (re : RE) (x : Int), pvI sl re = some x → ∀ {n t} {k : KV}, (∀ tk t, k (.int x tk) sl n t) → vcE c re sl n t k := by
  intro re
  induction re with
  | int i => intro x h n t k hk; cases h; exact hk _ _
  | loc i =>
    intro x h n t k hk
    replace h : (match getAt sl i with | some (.int x _) => some x | _ => none) = some x := h
    show (match getAt sl i with | some v => k v sl n t | none => False)
    cases hv : getAt sl i with
    | none => rw [hv] at h; exact none_ne h
    | some v =>
      rw [hv] at h
      induction v using PySem.Value.casesOn with
      | int y tk => cases h; exact hk _ _
      | _ => exact none_ne h
  | glob v =>
    intro x h n t k hk
    induction v using PySem.Value.casesOn with
    | int y tk => cases h; exact hk _ _
    | _ => exact none_ne h
  | bin l op r il ir =>
    intro x h n t k hk
    replace h : (match pvI sl l with
      | none => none
      | some a => match pvI sl r with
        | none => none
        | some b => @Operator.casesOn (fun _ => Option Int) op (some (a + b)) (some (a - b)) none none none none none none none none none none none) = some x := by
      rw [← h]
      show _ = (match pvI sl l with
      | none => none
      | some a => match pvI sl r with
        | none => none
        | some b => _)
      cases pvI sl l with
      | none => rfl
      | some a =>
        cases pvI sl r with
        | none => rfl
        | some b => induction op using PySem.Operator.casesOn <;> rfl
    cases hl : pvI sl l with
    | none => rw [hl] at h; exact none_ne h
    | some a =>
      cases hr : pvI sl r with
      | none => rw [hl, hr] at h; exact none_ne h
      | some b =>
        rw [hl, hr] at h
        refine il a hl fun ta t => ir b hr fun tb t => ?_
        induction op using PySem.Operator.casesOn <;> first | exact none_ne h | (cases h; exact hk _ _)
  | _ => exact fun x h => none_ne h
theorem vcTruth_b {b : Bool} {k : Bool → Sl → Led → Nat → Prop} (h : k b sl n t) : vcTruth c (.bool b) sl n t k := h
theorem cmp_gen {l r : RE} {op : CmpOp} {k : KV} (h : vcE c (.cmp l op r) sl n t k) : vcE c l sl n t fun a sl n t => vcE c r sl n t fun b sl n t => vcCmp c op a b sl n t k := by
  replace h : (match pb sl (.cmp l op r) with
    | some b => ∀ t, k (.bool b) sl n t
    | none => vcE c l sl n t fun a sl n t => vcE c r sl n t fun b sl n t => vcCmp c op a b sl n t k) := h
  cases hq : pb sl (.cmp l op r) with
  | none => rw [hq] at h; exact h
  | some q =>
    rw [hq] at h
    replace hq : (match cI op with
      | none => none
      | some f => match pvI sl l with
        | none => none
        | some a => match pvI sl r with
          | none => none
          | some b => some (f a b)) = some q := hq
    cases hc : cI op with
    | none => rw [hc] at hq; cases hq
    | some f =>
    cases hl : pvI sl l with
    | none => rw [hc, hl] at hq; cases hq
    | some a =>
    cases hr : pvI sl r with
    | none => rw [hc, hl, hr] at hq; cases hq
    | some b =>
      rw [hc, hl, hr] at hq
      cases hq
      refine pvI_vc l a hl fun ta t => pvI_vc r b hr fun tb t => ?_
      unfold vcCmp
      rw [hc]
      exact h t
theorem mid_gen {op op' : CmpOp} {a b : Value} {r' : RE} {q : Bool} (hq : mid op op' a b (pvI sl r') = some q) :
    ∃ f f' x y z ta tb, cI op = some f ∧ cI op' = some f' ∧ a = .int x ta ∧ b = .int y tb ∧ pvI sl r' = some z ∧ q = (f x y && f' y z) := by
  cases hz : pvI sl r' with
  | none => rw [hz] at hq; cases hq
  | some z =>
    rw [hz] at hq
    cases hc : cI op with
    | none => unfold mid at hq; rw [hc] at hq; cases hq
    | some f =>
    cases hc' : cI op' with
    | none => unfold mid at hq; rw [hc, hc'] at hq; cases hq
    | some f' =>
    unfold mid at hq
    rw [hc, hc'] at hq
    cases a with
    | int x ta =>
      cases b with
      | int y tb => cases hq; exact ⟨f, f', x, y, z, ta, tb, rfl, rfl, rfl, rfl, rfl, rfl⟩
      | _ => cases hq
    | _ => cases hq
/-- the second link, by ints -/
theorem link_gen {op op' : CmpOp} {r' : RE} {k : KV} {f f' : Int → Int → Bool} {x y z : Int} {ta tb : Tok} (hc : cI op = some f) (hc' : cI op' = some f') (hz : pvI sl r' = some z) (h : ∀ t, k (.bool (f x y && f' y z)) sl n t) :
    vcCmp c op (.int x ta) (.int y tb) sl n t fun q sl n t => vcTruth c q sl n t fun b sl n t => Way b (vcE c r' sl n t fun d sl n t => vcCmp c op' (.int y tb) d sl n t k) (k q sl n t) := by
  unfold vcCmp
  rw [hc]
  refine ⟨fun e => ?_, fun e => ?_⟩
  · refine pvI_vc r' z hz fun td t => ?_
    rw [hc']
    have := h t
    rw [e] at this
    exact this
  · have := h t
    rw [e] at this
    rw [e]
    exact this
theorem linkT_gen {op op' : CmpOp} {r' : RE} {k : Bool → Sl → Led → Nat → Prop} {f f' : Int → Int → Bool} {x y z : Int} {ta tb : Tok} (hc : cI op = some f) (hc' : cI op' = some f') (hz : pvI sl r' = some z) (h : ∀ t, k (f x y && f' y z) sl n t) :
    vcCmp c op (.int x ta) (.int y tb) sl n t fun q sl n t => vcTruth c q sl n t fun b sl n t => Way b (vcE c r' sl n t fun d sl n t => vcCmp c op' (.int y tb) d sl n t fun v sl n t => vcTruth c v sl n t k) (k false sl n t) := by
  unfold vcCmp
  rw [hc]
  refine ⟨fun e => ?_, fun e => ?_⟩
  · refine pvI_vc r' z hz fun td t => ?_
    rw [hc']
    have := h t
    rw [e] at this
    exact this
  · have := h t
    rw [e] at this
    exact this
theorem pb_cmp2 {l r r' : RE} {op op' : CmpOp} {q : Bool} (hq : pb sl (.cmp2 l op r op' r') = some q) :
    ∃ f f' x y z, cI op = some f ∧ cI op' = some f' ∧ pvI sl l = some x ∧ pvI sl r = some y ∧ pvI sl r' = some z ∧ q = (f x y && f' y z) := by
  replace hq : (match cI op with
      | none => none
      | some f => match cI op' with
        | none => none
        | some f' => match pvI sl l with
          | none => none
          | some a => match pvI sl r with
            | none => none
            | some b => match pvI sl r' with
              | none => none
              | some d => some (f a b && f' b d)) = some q := hq
  cases hc : cI op with
  | none => rw [hc] at hq; cases hq
  | some f =>
  cases hc' : cI op' with
  | none => rw [hc, hc'] at hq; cases hq
  | some f' =>
  cases hl : pvI sl l with
  | none => rw [hc, hc', hl] at hq; cases hq
  | some a =>
  cases hr : pvI sl r with
  | none => rw [hc, hc', hl, hr] at hq; cases hq
  | some b =>
  cases hd : pvI sl r' with
  | none => rw [hc, hc', hl, hr, hd] at hq; cases hq
  | some d =>
    rw [hc, hc', hl, hr, hd] at hq
    cases hq
    exact ⟨f, f', a, b, d, rfl, rfl, rfl, rfl, rfl, rfl⟩
theorem cmp2_gen {l r r' : RE} {op op' : CmpOp} {k : KV} (h : vcE c (.cmp2 l op r op' r') sl n t k) : vcE c l sl n t fun a sl n t => vcE c r sl n t fun b sl n t => vcLink c op op' a b (pvI sl r') (vcE c r') sl n t k := by
  replace h : (match pb sl (.cmp2 l op r op' r') with
    | some b => ∀ t, k (.bool b) sl n t
    | none => vcE c l sl n t fun a sl n t => vcE c r sl n t fun b sl n t => vcLink c op op' a b (pvI sl r') (vcE c r') sl n t k) := h
  cases hq : pb sl (.cmp2 l op r op' r') with
  | none => rw [hq] at h; exact h
  | some q =>
    rw [hq] at h
    refine hide _ fun hidP hidH => ?_
    obtain ⟨f, f', x, y, z, hc, hc', hl, hr, hz, rfl⟩ := pb_cmp2 hq
    refine hidH ?_
    clear hidH
    refine pvI_vc l x hl fun ta t => pvI_vc r y hr fun tb t => ?_
    show (match mid op op' (.int x ta) (.int y tb) (pvI sl r') with | some q => _ | none => _)
    unfold mid
    rw [hz, hc, hc']
    exact h
theorem cmp2T_gen {l r r' : RE} {op op' : CmpOp} {k : Bool → Sl → Led → Nat → Prop} (h : vcT c (.cmp2 l op r op' r') sl n t k) : vcE c l sl n t fun a sl n t => vcE c r sl n t fun b sl n t => vcLinkT c op op' a b (pvI sl r') (vcE c r') sl n t k := by
  replace h : (match pb sl (.cmp2 l op r op' r') with
    | some b => ∀ t, k b sl n t
    | none => vcE c l sl n t fun a sl n t => vcE c r sl n t fun b sl n t => vcLinkT c op op' a b (pvI sl r') (vcE c r') sl n t k) := h
  cases hq : pb sl (.cmp2 l op r op' r') with
  | none => rw [hq] at h; exact h
  | some q =>
    rw [hq] at h
    refine hide _ fun hidP hidH => ?_
    obtain ⟨f, f', x, y, z, hc, hc', hl, hr, hz, rfl⟩ := pb_cmp2 hq
    refine hidH ?_
    clear hidH
    refine pvI_vc l x hl fun ta t => pvI_vc r y hr fun tb t => ?_
    show (match mid op op' (.int x ta) (.int y tb) (pvI sl r') with | some q => _ | none => _)
    unfold mid
    rw [hz, hc, hc']
    exact h
theorem pb_vc : ∀ {re : RE} {q : Bool}, pb sl re = some q → ∀ {n t} {k : KV}, (∀ t, k (.bool q) sl n t) → vcE c re sl n t k := by
  intro re q hq n t k hk
  cases re with
  | bool b => cases hq; exact hk t
  | cmp l op r => show (match pb sl (.cmp l op r) with | some b => ∀ t, k (.bool b) sl n t | none => _); rw [hq]; exact hk
  | cmp2 l op r op' r' => show (match pb sl (.cmp2 l op r op' r') with | some b => ∀ t, k (.bool b) sl n t | none => _); rw [hq]; exact hk
  | and l r => show (match pb sl (.and l r) with | some b => ∀ t, k (.bool b) sl n t | none => _); rw [hq]; exact hk
  | or l r => show (match pb sl (.or l r) with | some b => ∀ t, k (.bool b) sl n t | none => _); rw [hq]; exact hk
  | not l => show (match pb sl (.not l) with | some b => ∀ t, k (.bool b) sl n t | none => _); rw [hq]; exact hk
  | _ => cases hq
theorem and_gen {l r : RE} {k : KV} (h : vcE c (.and l r) sl n t k) : vcE c l sl n t fun a sl n t => vcTruth c a sl n t fun b sl n t => Way b (vcE c r sl n t k) (k a sl n t) := by
  replace h : (match pb sl (.and l r) with
    | some b => ∀ t, k (.bool b) sl n t
    | none => vcE c l sl n t fun a sl n t => vcTruth c a sl n t fun b sl n t => Way b (vcE c r sl n t k) (k a sl n t)) := h
  cases hq : pb sl (.and l r) with
  | none => rw [hq] at h; exact h
  | some q =>
    rw [hq] at h
    replace hq : (match pb sl l with
      | none => none
      | some a => match pb sl r with
        | none => none
        | some b => some (a && b)) = some q := hq
    cases hl : pb sl l with
    | none => rw [hl] at hq; cases hq
    | some a =>
    cases hr : pb sl r with
    | none => rw [hl, hr] at hq; cases hq
    | some b =>
      rw [hl, hr] at hq
      cases hq
      refine pb_vc hl fun t => vcTruth_b ⟨fun e => pb_vc hr fun t => ?_, fun e => ?_⟩
      · have := h t; rw [e] at this; exact this
      · have := h t; rw [e] at this ⊢; exact this
theorem or_gen {l r : RE} {k : KV} (h : vcE c (.or l r) sl n t k) : vcE c l sl n t fun a sl n t => vcTruth c a sl n t fun b sl n t => Way b (k a sl n t) (vcE c r sl n t k) := by
  replace h : (match pb sl (.or l r) with
    | some b => ∀ t, k (.bool b) sl n t
    | none => vcE c l sl n t fun a sl n t => vcTruth c a sl n t fun b sl n t => Way b (k a sl n t) (vcE c r sl n t k)) := h
  cases hq : pb sl (.or l r) with
  | none => rw [hq] at h; exact h
  | some q =>
    rw [hq] at h
    replace hq : (match pb sl l with
      | none => none
      | some a => match pb sl r with
        | none => none
        | some b => some (a || b)) = some q := hq
    cases hl : pb sl l with
    | none => rw [hl] at hq; cases hq
    | some a =>
    cases hr : pb sl r with
    | none => rw [hl, hr] at hq; cases hq
    | some b =>
      rw [hl, hr] at hq
      cases hq
      refine pb_vc hl fun t => vcTruth_b ⟨fun e => ?_, fun e => pb_vc hr fun t => ?_⟩
      · have := h t; rw [e] at this ⊢; exact this
      · have := h t; rw [e] at this; exact this
theorem not_gen {e : RE} {k : KV} (h : vcE c (.not e) sl n t k) : vcE c e sl n t fun a sl n t => vcTruth c a sl n t fun b sl n t => k (.bool (!b)) sl n t := by
  replace h : (match pb sl (.not e) with
    | some b => ∀ t, k (.bool b) sl n t
    | none => vcE c e sl n t fun a sl n t => vcTruth c a sl n t fun b sl n t => k (.bool (!b)) sl n t) := h
  cases hq : pb sl (.not e) with
  | none => rw [hq] at h; exact h
  | some q =>
    rw [hq] at h
    replace hq : (match pb sl e with
      | some a => some (!a)
      | none => none) = some q := hq
    cases hl : pb sl e with
    | none => rw [hl] at hq; cases hq
    | some a =>
      rw [hl] at hq
      cases hq
      exact pb_vc hl fun t => vcTruth_b (h t)
theorem tst_gen {e : RE} {k : Bool → Sl → Led → Nat → Prop} (h : vcT c (.tst e) sl n t k) : vcE c e sl n t fun v sl n t => vcTruth c v sl n t k := by
  replace h : (match pb sl e with
    | some b => ∀ t, k b sl n t
    | none => vcE c e sl n t fun v sl n t => vcTruth c v sl n t k) := h
  cases hq : pb sl e with
  | none => rw [hq] at h; exact h
  | some q => rw [hq] at h; exact pb_vc hq fun t => vcTruth_b (h t)
end
section
variable {w : World} {cs : Scope} {c : Cx w cs} {D : Nat}
theorem cI_ok {sl : Sl} {n : Led} {t : Nat} {op : CmpOp} {f : Int → Int → Bool} (h : cI op = some f) {a b : Int} {ta tb : Tok} {k : KV} (hk : k (.bool (f a b)) sl n t) : Tri c sl n t (compareOp op (.int a ta) (.int b tb)) k := by
  intro hp H
  have p : Post c k (.bool (f a b)) (c.sh hp t) := ⟨hp, sl, n, t, rfl, H, hk⟩
  cases op <;> simp only [cI, Option.some.injEq, reduceCtorEq] at h <;> subst h
  · exact eq_int p
  · exact ne_int p
  · exact lt_int p
  · exact le_int p
  · exact gt_int p
  · exact ge_int p
theorem Tri.truthy_b {sl : Sl} {n : Led} {t : Nat} {b : Bool} {k : Bool → Sl → Led → Nat → Prop} (hk : k b sl n t) : Tri c sl n t (truthy (.bool b)) k :=
  fun hp H => wpAny_truthy_bool ⟨hp, sl, n, t, rfl, H, hk⟩
theorem vcTruth_ok {sl : Sl} {n : Led} {t : Nat} {v : Value} {k : Bool → Sl → Led → Nat → Prop} (h : vcTruth c v sl n t k) : Tri c sl n t (truthy v) k := by
  unfold vcTruth at h
  split at h
  · exact Tri.truthy_b h
  · exact h
theorem vcCmp_ok {sl : Sl} {n : Led} {t : Nat} {op : CmpOp} {a b : Value} {k : KV} (h : vcCmp c op a b sl n t k) : Tri c sl n t (compareOp op a b) k := by
  unfold vcCmp at h
  split at h
  · rename_i e; exact cI_ok e h
  · exact h
theorem vcBin_ok {sl : Sl} {n : Led} {t : Nat} {op : Operator} {a b : Value} {k : KV} (h : vcBin c op a b sl n t k) : Tri c sl n t (binaryOp op a b) k := by
  unfold vcBin at h
  split at h
  · exact fun hp H => add_int (s := c.sh hp t) ⟨hp, sl, n, t + 1, rfl, H, h⟩
  · exact fun hp H => sub_int (s := c.sh hp t) ⟨hp, sl, n, t + 1, rfl, H, h⟩
  · exact h
theorem Tri.isTrue_tst {env : Env} {e : Expr} {sl : Sl} {n : Led} {t : Nat} {k : Bool → Sl → Led → Nat → Prop}
    (he : isTrue e env (eval e env) = (do
      let v ← eval e env
      standAt e.pos
      holding [v] (truthy v))) (h : Tri c sl n t (eval e env) fun v sl n t => Tri c sl n t (truthy v) k) : Tri c sl n t (isTrue e env (eval e env)) k :=
  fun _ H => isTrue_plain (h.seq (fun _ _ _ _ h1 _ H1 => h1 _ H1) H) he
section
variable {g : Expr → RE} (hg : ∀ e sl n t k, vcE c (g e) sl n t k → Tri c sl n t (eval e c.env) k)
include hg
theorem trL_ok : ∀ (es : List Expr), noStar es = true → ∀ (pos : Pos) sl n t (k : List Value → Sl → Led → Nat → Prop), vcL c (trL g es) sl n t k → Tri c sl n t (spliced (backTo pos (starEach es c.env))) k
  | [], _, pos, sl, n, t, k, h => Tri.args_nil h
  | e :: r, hs, pos, sl, n, t, k, h => by
    unfold noStar at hs
    rw [List.all_cons, Bool.and_eq_true] at hs
    refine Tri.args_cons (by simpa using hs.1) ((hg e sl n t _ h).mono fun v sl' n' t' h' => trL_ok r hs.2 pos sl' n' t' _ h')
theorem trL_ok2 {es : List Expr} (hs : noStar es = true) {f : Value} {pos : Pos} {sl : Sl} {n : Led} {t : Nat} {k : List Value → Sl → Led → Nat → Prop} (h : vcL c (trL g es) sl n t k) :
    Tri c sl n t (evalArgs f true (backTo pos (starEach es c.env)) []) (fun a sl n t => a.kw = [] ∧ k a.pos sl n t) := by
  refine Tri.evalArgs_ hs ?_
  cases es with
  | nil => exact h
  | cons e r => exact trL_ok hg (e :: r) hs pos sl n t k h
theorem trBool_and : ∀ (es : List Expr) (q : RE) (pos : Pos), trBool g .And es = some q → ∀ sl n t k, vcE c q sl n t k → Tri c sl n t (eval (.BoolOp .And es pos) c.env) k
  | [], _, _, h => nomatch h
  | [x], q, pos, h => by
    intro sl n t k hk
    cases h
    exact fun hp H => BoolOp_one ((hg x sl n t k hk) hp H)
  | x :: y :: r, q, pos, h => by
    intro sl n t k hk
    unfold trBool at h
    cases hq : trBool g .And (y :: r) with
    | none => rw [hq] at h; cases h
    | some q' =>
      rw [hq] at h
      cases h
      refine Tri.and_ ((hg x sl n t _ (and_gen hk)).mono fun a sl n t h1 => (vcTruth_ok h1).mono fun b sl n t h2 => ⟨fun e => ?_, h2.2⟩)
      exact trBool_and (y :: r) q' pos hq sl n t k (h2.1 e)
theorem trBool_or : ∀ (es : List Expr) (q : RE) (pos : Pos), trBool g .Or es = some q → ∀ sl n t k, vcE c q sl n t k → Tri c sl n t (eval (.BoolOp .Or es pos) c.env) k
  | [], _, _, h => nomatch h
  | [x], q, pos, h => by
    intro sl n t k hk
    cases h
    exact fun hp H => BoolOp_one ((hg x sl n t k hk) hp H)
  | x :: y :: r, q, pos, h => by
    intro sl n t k hk
    unfold trBool at h
    cases hq : trBool g .Or (y :: r) with
    | none => rw [hq] at h; cases h
    | some q' =>
      rw [hq] at h
      cases h
      refine Tri.or_ ((hg x sl n t _ (or_gen hk)).mono fun a sl n t h1 => (vcTruth_ok h1).mono fun b sl n t h2 => ⟨h2.1, fun e => ?_⟩)
      exact trBool_or (y :: r) q' pos hq sl n t k (h2.2 e)
noncomputable def CmpOk (c : Cx w cs) (l : Expr) (ops : List CmpOp) (rs : List Expr) (q : RE) : Prop :=
  (∀ sl n t k pos, vcE c q sl n t k → Tri c sl n t (eval (.Compare l ops rs pos) c.env) k) ∧ (∀ sl n t k pos whole, vcT c (tstOf q) sl n t k → Tri c sl n t (isTrue (.Compare l ops rs pos) c.env whole) k)
theorem trCmp_ok {l : Expr} {ops : List CmpOp} {rs : List Expr} {q : RE} (hq : trCmp g l ops rs = some q) : CmpOk c l ops rs q := by
  cases ops with
  | nil => cases hq
  | cons op ops =>
  cases rs with
  | nil => cases hq
  | cons r rs =>
  cases ops with
  | nil =>
    cases rs with
    | cons _ _ => cases hq
    | nil =>
      replace hq : (if behindInMarks op r = true then none else some (RE.cmp (g l) op (g r))) = some q := hq
      split at hq
      · cases hq
      · rename_i hm
        cases hq
        refine ⟨fun sl n t k pos h => Tri.cmp_ (by simpa using hm) ((hg l sl n t _ (cmp_gen h)).mono fun a sl n t h1 => (hg r sl n t _ h1).mono fun b sl n t h2 => vcCmp_ok h2), fun sl n t k pos whole h => ?_⟩
        exact fun hp H => wpAny_isTrue_Compare1 ((hg l sl n t _ (cmp_gen (tst_gen h))).seq (fun a sl n t h1 _ H1 => (hg r sl n t _ h1).seq (fun b sl n t h2 _ H2 => (vcCmp_ok h2).seq (fun v sl n t h3 _ H3 => vcTruth_ok h3 _ H3) H2) H1) H) (by simpa using hm)
  | cons op' ops =>
  cases rs with
  | nil => cases hq
  | cons r' rs =>
  cases ops with
  | cons _ _ => cases hq
  | nil =>
  cases rs with
  | cons _ _ => cases hq
  | nil =>
    replace hq : (if lastMarks [op, op'] [r, r'] = true then none else some (RE.cmp2 (g l) op (g r) op' (g r'))) = some q := hq
    split at hq
    · cases hq
    · rename_i hm
      cases hq
      refine ⟨fun sl n t k pos h => Tri.cmp2_ (by simpa using hm) ((hg l sl n t _ (cmp2_gen h)).mono fun a sl n t h1 => (hg r sl n t _ h1).mono fun b sl n t h2 => ?_), fun sl n t k pos whole h => ?_⟩
      · have h2 : vcCmp c op a b sl n t fun q sl n t => vcTruth c q sl n t fun z sl n t => Way z (vcE c (g r') sl n t fun d sl n t => vcCmp c op' b d sl n t k) (k q sl n t) := by
          cases hq : mid op op' a b (pvI sl (g r')) with
          | none => unfold vcLink at h2; rw [hq] at h2; exact h2
          | some q =>
            unfold vcLink at h2
            rw [hq] at h2
            refine hide _ fun hidP hidH => ?_
            obtain ⟨f, f', x, y, z, ta, tb, hc, hc', rfl, rfl, hz, rfl⟩ := mid_gen hq
            refine hidH ?_
            clear hidH
            exact link_gen hc hc' hz h2
        exact (vcCmp_ok h2).mono fun q sl n t h3 => (vcTruth_ok h3).mono fun z sl n t h4 => ⟨fun e => (hg r' sl n t _ (h4.1 e)).mono fun d sl n t h5 => vcCmp_ok h5, h4.2⟩
      intro hp H
      refine isTrue_chain ((hg l sl n t _ (cmp2T_gen h)).seq (fun a sl n t h1 _ H1 => test_link ((hg r sl n t _ h1).seq (fun b sl n t h2 _ H2 => ?_) H1)) H) (by simpa using hm)
      have h2 : vcCmp c op a b sl n t fun q sl n t => vcTruth c q sl n t fun z sl n t => Way z (vcE c (g r') sl n t fun d sl n t => vcCmp c op' b d sl n t fun v sl n t => vcTruth c v sl n t k) (k false sl n t) := by
        cases hq : mid op op' a b (pvI sl (g r')) with
        | none => unfold vcLinkT at h2; rw [hq] at h2; exact h2
        | some q =>
          unfold vcLinkT at h2
          rw [hq] at h2
          refine hide _ fun hidP hidH => ?_
          obtain ⟨f, f', x, y, z, ta, tb, hc, hc', rfl, rfl, hz, rfl⟩ := mid_gen hq
          refine hidH ?_
          clear hidH
          exact linkT_gen hc hc' hz h2
      refine (vcCmp_ok h2).seq (fun q sl n t h3 _ H3 => (vcTruth_ok h3).seq (fun z sl n t h4 _ H4 => ?_) H3) H2
      cases z with
      | true => exact test_last ((hg r' sl n t _ (h4.1 rfl)).seq (fun d sl n t h5 _ H5 => (vcCmp_ok h5).seq (fun v sl n t h6 _ H6 => vcTruth_ok h6 _ H6) H5) H4)
      | false => exact ⟨_, _, _, _, rfl, H4, h4.2 rfl⟩
theorem trTest_ok (e : Expr) (sl : Sl) (n : Led) (t : Nat) (k : Bool → Sl → Led → Nat → Prop) (h : vcT c (trTest g e) sl n t k) : Tri c sl n t (isTrue e c.env (eval e c.env)) k := by
  induction e using PySem.Expr.casesOn with
  | Name x pos => exact Tri.isTrue_tst rfl ((hg _ sl n t _ (tst_gen h)).mono fun v sl n t h1 => vcTruth_ok h1)
  | Call x a b pos => exact Tri.isTrue_tst rfl ((hg _ sl n t _ (tst_gen h)).mono fun v sl n t h1 => vcTruth_ok h1)
  | Attribute x a pos => exact Tri.isTrue_tst rfl ((hg _ sl n t _ (tst_gen h)).mono fun v sl n t h1 => vcTruth_ok h1)
  | Compare l ops rs pos =>
    replace h : vcT c (match trCmp g l ops rs with | some q => tstOf q | none => .raw (.Compare l ops rs pos)) sl n t k := h
    cases hq : trCmp g l ops rs with
    | none => rw [hq] at h; exact h
    | some q => rw [hq] at h; exact (trCmp_ok hg hq).2 sl n t k pos _ h
  | _ => exact h
omit hg in
theorem trTB_and {g' : Expr → RE} (hg' : ∀ e sl n t k, vcT c (g' e) sl n t k → Tri c sl n t (isTrue e c.env (eval e c.env)) k) : ∀ (es : List Expr) (q : RE) (pos : Pos) (whole : Sem Value), trBool g' .And es = some q → ∀ sl n t k, vcT c q sl n t k → Tri c sl n t (isTrue (.BoolOp .And es pos) c.env whole) k
  | [], _, _, _, h => nomatch h
  | [x], q, pos, whole, h => by
    intro sl n t k hk
    cases h
    refine fun hp H => isTrue_and ((hg' x sl n t k hk).seq (fun b sl' n' t' h1 h' H1 => ?_) H)
    cases b with
    | true => exact isTrue_and_nil ⟨h', sl', n', t', rfl, H1, h1⟩
    | false => exact ⟨h', sl', n', t', rfl, H1, h1⟩
  | x :: y :: r, q, pos, whole, h => by
    intro sl n t k hk
    unfold trBool at h
    cases hq : trBool g' .And (y :: r) with
    | none => rw [hq] at h; cases h
    | some q' =>
      rw [hq] at h
      cases h
      refine fun hp H => isTrue_and ((hg' x sl n t _ hk).seq (fun b sl' n' t' h1 h' H1 => ?_) H)
      cases b with
      | true => exact trTB_and hg' (y :: r) q' pos whole hq sl' n' t' k (h1.1 rfl) h' H1
      | false => exact ⟨h', sl', n', t', rfl, H1, h1.2 rfl⟩
omit hg in
theorem trTB_or {g' : Expr → RE} (hg' : ∀ e sl n t k, vcT c (g' e) sl n t k → Tri c sl n t (isTrue e c.env (eval e c.env)) k) : ∀ (es : List Expr) (q : RE) (pos : Pos) (whole : Sem Value), trBool g' .Or es = some q → ∀ sl n t k, vcT c q sl n t k → Tri c sl n t (isTrue (.BoolOp .Or es pos) c.env whole) k
  | [], _, _, _, h => nomatch h
  | [x], q, pos, whole, h => by
    intro sl n t k hk
    cases h
    refine fun hp H => isTrue_or ((hg' x sl n t k hk).seq (fun b sl' n' t' h1 h' H1 => ?_) H)
    cases b with
    | false => exact isTrue_or_nil ⟨h', sl', n', t', rfl, H1, h1⟩
    | true => exact ⟨h', sl', n', t', rfl, H1, h1⟩
  | x :: y :: r, q, pos, whole, h => by
    intro sl n t k hk
    unfold trBool at h
    cases hq : trBool g' .Or (y :: r) with
    | none => rw [hq] at h; cases h
    | some q' =>
      rw [hq] at h
      cases h
      refine fun hp H => isTrue_or ((hg' x sl n t _ hk).seq (fun b sl' n' t' h1 h' H1 => ?_) H)
      cases b with
      | false => exact trTB_or hg' (y :: r) q' pos whole hq sl' n' t' k (h1.2 rfl) h' H1
      | true => exact ⟨h', sl', n', t', rfl, H1, h1.1 rfl⟩
theorem trT_ok : ∀ (f : Nat) (e : Expr) (sl : Sl) (n : Led) (t : Nat) (k : Bool → Sl → Led → Nat → Prop), vcT c (trT g f e) sl n t k → Tri c sl n t (isTrue e c.env (eval e c.env)) k
  | 0, e, sl, n, t, k, h => trTest_ok hg e sl n t k h
  | f + 1, e, sl, n, t, k, h => by
    induction e using PySem.Expr.casesOn with
    | BoolOp op es pos =>
      replace h : vcT c (match trBool (trT g f) op es with | some q => q | none => .raw (.BoolOp op es pos)) sl n t k := h
      cases hq : trBool (trT g f) op es with
      | none => rw [hq] at h; exact h
      | some q =>
        rw [hq] at h
        cases op with
        | And => exact trTB_and (trT_ok f) es q pos _ hq sl n t k h
        | Or => exact trTB_or (trT_ok f) es q pos _ hq sl n t k h
    | UnaryOp op x pos =>
      cases op with
      | Not => exact fun hp H => isTrue_not ((trT_ok f x sl n t _ h).seq (fun b sl' n' t' h1 h' H1 => ⟨h', sl', n', t', rfl, H1, h1⟩) H)
      | _ => exact h
    | Name x pos => exact trTest_ok hg _ sl n t k h
    | Call x a b pos => exact trTest_ok hg _ sl n t k h
    | Attribute x a pos => exact trTest_ok hg _ sl n t k h
    | Compare l ops rs pos => exact trTest_ok hg _ sl n t k h
    | _ => exact h
end
theorem meth_he {y name : Str} {yp ap pos : Pos} {args : List Expr} {env : Env} (hs : noStar args = true) (hl : args.length < 30) (hp : (ap.endLine == pos.line) = true) :
    eval (.Call (.Attribute (.Name y yp) name ap) args [] pos) env = (do
      let ov ← eval (.Name y yp) env
      standAt ap.atName
      let (f, first) ← holding [ov] (getMethod ov name (do return (← importBound (.Name y yp) env).getD true))
      callWith pos f first (backTo pos (starEach args env)) []) := by
  have e1 : methodCallForm (args.length + 0) (backTo pos (starEach args env)) [] = true := by
    unfold methodCallForm
    have a1 : (backTo pos (starEach args env)).all (fun x => !x.1) = true := by
      have := plain_args (env := env) (pos := pos) hs
      rw [List.all_eq_not_any_not]
      simpa using this
    rw [a1]
    simp [hl]
  show (do let ov ← eval (.Name y yp) env; standAt ap.atName; methodCall (.Name y yp) name ap pos env ov (args.length + 0) (backTo pos (starEach args env)) []) = _
  unfold methodCall
  rw [e1]
  simp only [calleeOf, methodCallPos, hp, Bool.not_true, Bool.false_or, if_true]
  rfl
theorem trFun_of {x : Str} {v : Value} (h : trFun cs x = some v) : globIn cs x = true ∧ (GlobF w x v ∨ GlobB w x v) := by
  unfold trFun at h
  split at h
  · rename_i hg
    refine ⟨hg, ?_⟩
    cases hq : gtabF.lookup x with
    | some v' => rw [hq] at h; cases h; exact .inl (globF_of hq)
    | none => rw [hq] at h; exact .inr (globB_of h)
  · cases h
section
variable {g : Expr → RE} (hg : ∀ e sl n t k, vcE c (g e) sl n t k → Tri c sl n t (eval e c.env) k)
include hg
theorem Tri.call_ (ok : c.Ok D) {x : Str} {p1 pos : Pos} {args : List Expr} {v : Value} {k : KV} {sl : Sl} {n : Led} {t : Nat} (hf : trFun cs x = some v) (hs : noStar args = true)
    (h : vcL c (trL g args) sl n t fun vs sl n t => Tri c sl n t (call v vs) k) : Tri c sl n t (eval (.Call (.Name x p1) args [] pos) c.env) k := by
  intro hp H
  obtain ⟨hgl, hv⟩ := trFun_of (w := w) hf
  have pl := plain_args (env := c.env) (pos := pos) hs
  have args := trL_ok2 hg hs (f := v) (pos := pos) h
  refine Call_ ?_
  rcases hv with hv | hv
  · refine (Tri.globN (pos := p1) ok hgl hv.1 (k := fun v' sl' n' t' => v' = v ∧ sl' = sl ∧ n' = n ∧ t' = t) ⟨rfl, rfl, rfl, rfl⟩).seq ?_ H
    intro v' sl' n' t' hz1 h' H'
    refine hide _ fun hidP hidH => ?_
    obtain ⟨rfl, rfl, rfl, rfl⟩ := hz1
    refine hidH ?_
    clear hidH
    refine callWith_of (P := (K w.params).In) (by rw [pl]; rfl) (keeps_K hv.2) (args.seq ?_ H')
    rintro ⟨ps, kw⟩ sl' n' t' ⟨e, hk⟩ h' H'
    refine hide _ fun hidP hidH => ?_
    obtain ⟨b, W, F', N'⟩ := id H'
    refine hidH ?_
    clear hidH
    cases e
    exact ⟨(ok.X b W).keeps F'.keep, hk h' H'⟩
  · refine (Tri.globB (pos := p1) ok hgl hv (k := fun v' sl' n' t' => v' = v ∧ sl' = sl ∧ n' = n ∧ t' = t) ⟨rfl, rfl, rfl, rfl⟩).seq ?_ H
    intro v' sl' n' t' hz2 h' H'
    refine hide _ fun hidP hidH => ?_
    obtain ⟨rfl, rfl, rfl, rfl⟩ := hz2
    refine hidH ?_
    clear hidH
    rcases hv.2.2.2 with ⟨i, rfl⟩ | ⟨i, rfl⟩
    · refine callWith_builtin pl (args.seq ?_ H')
      rintro ⟨ps, kw⟩ sl' n' t' ⟨e, hk⟩ h' H'
      cases e
      exact hk h' H'
    · refine PyProof.Rows.callWith_type pl (args.seq ?_ H')
      rintro ⟨ps, kw⟩ sl' n' t' ⟨e, hk⟩ h' H'
      cases e
      exact hk h' H'
theorem Tri.meth_ (ok : c.Ok D) {y name : Str} {yp ap pos : Pos} {args : List Expr} {i : Nat} {x f : Addr} {k : KV} {sl : Sl} {n : Led} {t : Nat} (hl : locIx cs y = some i) (hx : getAt sl i = some (.ref x)) (hm : MethAt w n x name f) (hs : noStar args = true) {pl : Sem Bool}
    (he : eval (.Call (.Attribute (.Name y yp) name ap) args [] pos) c.env = (do
      let ov ← eval (.Name y yp) c.env
      standAt ap.atName
      let (f, first) ← holding [ov] (getMethod ov name pl)
      callWith pos f first (backTo pos (starEach args c.env)) []))
    (h : vcL c (trL g args) sl n t fun vs sl n t => Tri c sl n t (call (.ref f) (.ref x :: vs)) k) : Tri c sl n t (eval (.Call (.Attribute (.Name y yp) name ap) args [] pos) c.env) k := by
  intro hp H
  refine hide _ fun hidP hidH => ?_
  obtain ⟨C, dx, es, m, slots, ho, hr, hg'⟩ := hm
  refine hidH ?_
  clear hidH
  have pl := plain_args (env := c.env) (pos := pos) hs
  have args := trL_ok2 hg hs (f := .ref f) (pos := pos) h
  unfold methOk at hr
  rw [Bool.and_eq_true, Bool.and_eq_true, Bool.and_eq_true] at hr
  refine hide _ fun hidP hidH => ?_
  obtain ⟨o1, o2, o3, o4⟩ := hr
  refine hidH ?_
  clear hidH
  have hf : findIn (K w.params) (.ref C) name = some (some (.ref f)) := by
    split at o4
    · rename_i f' e
      rw [e, eq_of_beq o4]
    · cases o4
  refine MethodCall_ ((Tri.name (pos := yp) hl hx (k := fun v' sl' n' t' => v' = .ref x ∧ sl' = sl ∧ n' = n ∧ t' = t) ⟨rfl, rfl, rfl, rfl⟩).seq ?_ H) he
  intro v' sl' n' t' hz3 h' H'
  refine hide _ fun hidP hidH => ?_
  obtain ⟨rfl, rfl, rfl, rfl⟩ := hz3
  refine hidH ?_
  clear hidH
  refine hide _ fun hidP hidH => ?_
  obtain ⟨b, W, F', N'⟩ := id H'
  refine hidH ?_
  clear hidH
  refine method_inst (s := c.sh h' t') F' (ok.X b W) (InstAt.of_news N' ho.o ho.d) o1 hf o2 hg' ?_
  refine callWith_of (P := (K w.params).In) (by rw [pl]; rfl) (keeps_K o3) (args.seq ?_ H')
  rintro ⟨ps, kw⟩ sl' n' t' ⟨e, hk⟩ h' H'
  refine hide _ fun hidP hidH => ?_
  obtain ⟨b, W, F', N'⟩ := id H'
  refine hidH ?_
  clear hidH
  cases e
  exact ⟨(ok.X b W).keeps F'.keep, hk h' H'⟩
theorem Tri.appd_ {y : Str} {yp ap pos : Pos} {args : List Expr} {i : Nat} {l : Addr} {vs : Array Value} {m : Nat} {k : KV} {sl : Sl} {n : Led} {t : Nat} (hl : locIx cs y = some i) (hx : getAt sl i = some (.ref l)) (hm : (l, listOf vs m) ∈ n) (hs : noStar args = true) {pl : Sem Bool}
    (he : eval (.Call (.Attribute (.Name y yp) (Str.ofString "append") ap) args [] pos) c.env = (do
      let ov ← eval (.Name y yp) c.env
      standAt ap.atName
      let (f, first) ← holding [ov] (getMethod ov (Str.ofString "append") pl)
      callWith pos f first (backTo pos (starEach args c.env)) []))
    (h : vcL c (trL g args) sl n t fun vs sl n t => Tri c sl n t (call (.builtin "list.append") (.ref l :: vs)) k) : Tri c sl n t (eval (.Call (.Attribute (.Name y yp) (Str.ofString "append") ap) args [] pos) c.env) k := by
  intro hp H
  have pl := plain_args (env := c.env) (pos := pos) hs
  have args := trL_ok2 hg hs (f := .builtin "list.append") (pos := pos) h
  refine MethodCall_ ((Tri.name (pos := yp) hl hx (k := fun v' sl' n' t' => v' = .ref l ∧ sl' = sl ∧ n' = n ∧ t' = t) ⟨rfl, rfl, rfl, rfl⟩).seq ?_ H) he
  intro v' sl' n' t' hz4 h' H'
  refine hide _ fun hidP hidH => ?_
  obtain ⟨rfl, rfl, rfl, rfl⟩ := hz4
  refine hidH ?_
  clear hidH
  refine hide _ fun hidP hidH => ?_
  obtain ⟨b, W, F', N'⟩ := id H'
  refine hidH ?_
  clear hidH
  refine Calls.getMethod_list_append (s := c.sh h' t') (N' _ hm).1 rfl rfl ?_
  refine callWith_builtin pl (args.seq ?_ H')
  rintro ⟨ps, kw⟩ sl' n' t' ⟨e, hk⟩ h' H'
  cases e
  exact hk h' H'
end
theorem ref_of {o : Option Value} {P : Addr → Prop} (h : match o with | some (.ref x) => P x | _ => False) : ∃ x, o = some (.ref x) ∧ P x := by
  cases o with
  | none => exact h.elim
  | some v =>
    induction v using PySem.Value.casesOn with
    | ref x => exact ⟨x, rfl, h⟩
    | _ => exact h.elim
theorem vc_ok (ok : c.Ok D) : ∀ (f : Nat) (e : Expr) (sl : Sl) (n : Led) (t : Nat) (k : KV), vcE c (tr cs f e) sl n t k → Tri c sl n t (eval e c.env) k
  | 0, e, sl, n, t, k, h => h
  | f + 1, e, sl, n, t, k, h => by
    have ih := vc_ok ok f
    induction e using PySem.Expr.casesOn with
    | Constant q m pos =>
      cases q with
      | int i => exact Tri.int h
      | str i => exact Tri.str h
      | bool i => exact Tri.bool h
      | none => exact Tri.non h
      | _ => exact h
    | Name x pos => exact Tri.trName ok h
    | Attribute o name pos =>
      induction o using PySem.Expr.casesOn with
      | Name x p =>
        replace h : vcE c (match locIx cs x with | some i => .attr i name | none => .raw (.Attribute (.Name x p) name pos)) sl n t k := h
        cases hl : locIx cs x with
        | none => rw [hl] at h; exact h
        | some i =>
          rw [hl] at h
          replace h : (match getAt sl i with | some (.ref x) => AttrK w n x name fun v => k v sl n (t + 1) | _ => False) := h
          obtain ⟨y, hv, v, ha, hk⟩ := ref_of h
          exact Tri.attr ok hl hv ha hk
      | _ => exact h
    | BinOp l op r pos => exact Tri.bin_ ((ih l sl n t _ h).mono fun a sl n t h1 => (ih r sl n t _ h1).mono fun b sl n t h2 => vcBin_ok h2)
    | Compare l ops rs pos =>
      replace h : vcE c (match trCmp (tr cs f) l ops rs with | some q => q | none => .raw (.Compare l ops rs pos)) sl n t k := h
      cases hq : trCmp (tr cs f) l ops rs with
      | none => rw [hq] at h; exact h
      | some q => rw [hq] at h; exact (trCmp_ok ih hq).1 sl n t k pos h
    | BoolOp op es pos =>
      replace h : vcE c (match trBool (tr cs f) op es with | some q => q | none => .raw (.BoolOp op es pos)) sl n t k := h
      cases hq : trBool (tr cs f) op es with
      | none => rw [hq] at h; exact h
      | some q =>
        rw [hq] at h
        cases op with
        | And => exact trBool_and ih es q pos hq sl n t k h
        | Or => exact trBool_or ih es q pos hq sl n t k h
    | UnaryOp op x pos =>
      cases op with
      | Not => exact Tri.un_ ((ih x sl n t _ (not_gen h)).mono fun a sl n t h1 hp H => not_value ((vcTruth_ok h1).seq (fun b sl n t h2 h' H2 => ⟨h', sl, n, t, rfl, H2, h2⟩) H))
      | _ => exact Tri.un_ (ih x sl n t _ h)
    | IfExp e a b pos => exact Tri.ife_ ((trT_ok ih f e sl n t _ h).mono fun z sl n t h1 => ⟨fun q => ih a sl n t k (h1.1 q), fun q => ih b sl n t k (h1.2 q)⟩)
    | Call fn args kws pos =>
      cases kws with
      | cons _ _ => exact h
      | nil =>
        induction fn using PySem.Expr.casesOn with
        | Name x p =>
          replace h : vcE c (match trFun cs x with | some v => if noStar args = true then .call v (trL (tr cs f) args) else .raw (.Call (.Name x p) args [] pos) | none => .raw (.Call (.Name x p) args [] pos)) sl n t k := h
          cases hf : trFun cs x with
          | none => rw [hf] at h; exact h
          | some v =>
            rw [hf] at h
            replace h : vcE c (if noStar args = true then .call v (trL (tr cs f) args) else .raw (.Call (.Name x p) args [] pos)) sl n t k := h
            split at h
            · rename_i hs; exact Tri.call_ ih ok hf hs h
            · exact h
        | Attribute o name ap =>
          induction o using PySem.Expr.casesOn with
          | Name y yp =>
            replace h : vcE c (match locIx cs y with | some i => if (ap.endLine == pos.line) = true then trMeth (tr cs f) i name args (.Call (.Attribute (.Name y yp) name ap) args [] pos) else .raw (.Call (.Attribute (.Name y yp) name ap) args [] pos) | none => .raw (.Call (.Attribute (.Name y yp) name ap) args [] pos)) sl n t k := h
            cases hl : locIx cs y with
            | none => rw [hl] at h; exact h
            | some i =>
              rw [hl] at h
              replace h : vcE c (if (ap.endLine == pos.line) = true then trMeth (tr cs f) i name args (.Call (.Attribute (.Name y yp) name ap) args [] pos) else .raw (.Call (.Attribute (.Name y yp) name ap) args [] pos)) sl n t k := h
              split at h
              · rename_i hap
                cases hs : noStar args with
                | false =>
                  unfold trMeth at h
                  rw [hs] at h
                  exact h
                | true =>
                  unfold trMeth at h
                  rw [if_pos hs] at h
                  cases args with
                  | nil =>
                    replace h : (match getAt sl i with | some (.ref x) => MethK w n x name fun fa => vcL c (trL (tr cs f) []) sl n t fun vs sl n t => Tri c sl n t (call (.ref fa) (.ref x :: vs)) k | _ => False) := h
                    obtain ⟨x, hv, fa, ha, hk⟩ := ref_of h
                    exact Tri.meth_ ih ok hl hv ha hs (meth_he hs (by simp) hap) hk
                  | cons a r =>
                    cases r with
                    | cons _ _ => exact h
                    | nil =>
                      replace h : vcE c (if name = Str.ofString "append" then .appd i (tr cs f a) else .meth i name (.cons (tr cs f a) .nil)) sl n t k := h
                      split at h
                      · rename_i hn
                        subst hn
                        replace h : (match getAt sl i with | some (.ref l) => (∃ vs m, (l, listOf vs m) ∈ n) ∧ vcE c (tr cs f a) sl n t fun v sl n t => Tri c sl n t (call (.builtin "list.append") [.ref l, v]) k | _ => False) := h
                        obtain ⟨x, hv, ⟨vs, m, hm⟩, hk⟩ := ref_of h
                        exact Tri.appd_ ih hl hv hm hs (meth_he hs (by simp) hap) hk
                      · replace h : (match getAt sl i with | some (.ref x) => MethK w n x name fun fa => vcL c (trL (tr cs f) [a]) sl n t fun vs sl n t => Tri c sl n t (call (.ref fa) (.ref x :: vs)) k | _ => False) := h
                        obtain ⟨x, hv, fa, ha, hk⟩ := ref_of h
                        exact Tri.meth_ ih ok hl hv ha hs (meth_he hs (by simp) hap) hk
              · exact h
          | _ => exact h
        | _ => exact h
    | List es pos =>
      replace h : vcE c (if noStar es = true then .list (trL (tr cs f) es) else .raw (.List es pos)) sl n t k := h
      split at h
      · rename_i hs; exact Tri.list_ (trL_ok ih es hs pos sl n t _ h)
      · exact h
    | Tuple es m pos =>
      replace h : vcE c (if noStar es = true then .tup (trL (tr cs f) es) else .raw (.Tuple es m pos)) sl n t k := h
      split at h
      · rename_i hs; exact Tri.tup_ (trL_ok ih es hs pos sl n t _ h)
      · exact h
    | Subscript v i pos =>
      replace h : vcE c (if isSlice i = true then .raw (.Subscript v i pos) else .sub (tr cs f v) (tr cs f i) v i) sl n t k := h
      split at h
      · exact h
      · exact Tri.sub_ ((ih v sl n t _ h).mono fun a sl n t h1 => ih i sl n t _ h1)
    | _ => exact h
end
/-- statements, their names looked up -/
inductive RS where
  | nil
  | raw (s : Stmt) (rest : RS)
  | expr (e : RE) (rest : RS)
  | asg (i : Nat) (e : RE) (rest : RS)
  | seta (i : Nat) (name : Str) (e : RE) (rest : RS)
  | ret (e : RE)
  | ife (e : RE) (a b rest : RS)
noncomputable def isComp : Expr → Bool
  | .ListComp _ _ _ _ => true
  | .SetComp _ _ _ _ => true
  | .DictComp _ _ _ _ _ => true
  | _ => false
noncomputable def tgtOf (cs : Scope) (tgts : List Expr) : Option (Nat × Option Str) := match tgts with
  | [] => none
  | tg :: tgs => match tgs with
    | _ :: _ => none
    | [] => match tg with
      | .Name x _ => (match locIx cs x with
        | some i => some (i, none)
        | none => none)
      | .Attribute o name _ => (match o with
        | .Name x _ => (match locIx cs x with
          | some i => some (i, some name)
          | none => none)
        | _ => none)
      | _ => none
noncomputable def trAsg (s : Stmt) (R : RS) (e : RE) (o : Option (Nat × Option Str)) : RS := match o with
  | some p => (match p.2 with
    | none => .asg p.1 e R
    | some name => .seta p.1 name e R)
  | none => .raw s R
theorem some_of {o : Option Nat} {g : Nat → Nat × Option Str} {p : Nat × Option Str} (h : (match o with | some i => some (g i) | none => none) = some p) : ∃ i, o = some i ∧ g i = p := by
  cases o with
  | none => exact none_ne h
  | some i => exact ⟨i, rfl, Option.some.inj h⟩
theorem tgtOf_ind {cs : Scope} {i : Nat} {o : Option Str} {Q : List Expr → Option Str → Prop} (h1 : ∀ x xp, locIx cs x = some i → Q [.Name x xp] none)
    (h2 : ∀ x xp name ap, locIx cs x = some i → Q [.Attribute (.Name x xp) name ap] (some name)) : ∀ tgts, tgtOf cs tgts = some (i, o) → Q tgts o
  | [], h => none_ne h
  | _ :: _ :: _, h => none_ne h
  | [tg], h => by
    induction tg using PySem.Expr.casesOn with
    | Name x xp =>
      obtain ⟨j, hl, h⟩ := some_of (g := fun i => (i, none)) h
      cases h
      exact h1 x xp hl
    | Attribute q name ap =>
      induction q using PySem.Expr.casesOn with
      | Name x xp =>
        obtain ⟨j, hl, h⟩ := some_of (g := fun i => (i, some name)) h
        cases h
        exact h2 x xp name ap hl
      | _ => exact none_ne h
    | _ => exact none_ne h
noncomputable def trS (cs : Scope) : Nat → List Stmt → RS
  | 0, _ => .nil
  | f + 1, l => match l with
    | [] => .nil
    | s :: rest => match s with
      | .Expr e _ => if isComp e = true then .raw s (trS cs f rest) else .expr (tr cs 12 e) (trS cs f rest)
      | .Assign tgts e _ => if isComp e = true then .raw s (trS cs f rest) else trAsg s (trS cs f rest) (tr cs 12 e) (tgtOf cs tgts)
      | .Return r _ => (match r with
        | some e => .ret (tr cs 12 e)
        | none => .raw s (trS cs f rest))
      | .If e a b _ => .ife (trT (tr cs 12) 12 e) (trS cs f a) (trS cs f b) (trS cs f rest)
      | s => .raw s (trS cs f rest)
/-- whether the fuel sufficed -/
noncomputable def full : Nat → List Stmt → Bool
  | 0, _ => false
  | f + 1, l => match l with
    | [] => true
    | s :: rest => full f rest && match s with
      | .If _ a b _ => full f a && full f b
      | _ => true
noncomputable def setOk (K : Frag) (C : Addr) (name : Str) : Bool := (findIn K (.ref C) (Str.ofString "__setattr__") == some (some (.builtin "object.__setattr__"))) && (plainOver K C && ((takerIn K C name == some none) && hasDictIn K C))
inductive AttrSet (w : World) (n : Led) (x : Addr) (name : Str) (v : Value) (t : Nat) (n' : Led) : Prop
  | mk (C : _) (dx : _) (es : _) (k : _) (es' : _) (k' : _) (sl : _) (z0 : ObjAt n x C dx es k sl) (z1 : setOk (K w.params) C name = true) (z2 : (getL name es).isSome = true) (z3 : (putL name (PyData.keyHash w.params name) (.str name (t + 1)) v es, putN name es k) = (es', k')) (z4 : Upd dx (dictOf es k) (dictOf es' k') n n') (z5 : es'.length ≤ 1000) : AttrSet w n x name v t n'
noncomputable def SetK (w : World) (n : Led) (x : Addr) (name : Str) (v : Value) (t : Nat) (P : Led → Prop) : Prop := ∃ n', AttrSet w n x name v t n' ∧ P n'
noncomputable abbrev KF := Flow → Sl → Led → Nat → Prop
section
variable {w : World} {cs : Scope} (c : Cx w cs)
/-- first what follows, at its end -/
noncomputable def thenS (P : Sl → Led → Nat → Prop) (kf : KF) : KF := fun fl sl n t => match fl with
  | .next => P sl n t
  | fl => kf fl sl n t
noncomputable def vcIfS (b : Bool) (F G : Sl → Led → Nat → KF → Prop) (sl : Sl) (n : Led) (t : Nat) (kf : KF) : Prop := Way b (F sl n t kf) (G sl n t kf)
noncomputable def vcS : RS → Sl → Led → Nat → KF → Prop
  | .nil, sl, n, t, kf => kf .next sl n t
  | .raw s rest, sl, n, t, kf => Tri c sl n t (exec s c.env) (thenS (fun sl n t => vcS rest sl n t kf) kf)
  | .expr e rest, sl, n, t, kf => vcE c e sl n t fun _ sl n t => vcS rest sl n t kf
  | .asg i e rest, sl, n, t, kf => vcE c e sl n t fun v sl n t => vcS rest (setAt i (some v) sl) n (t + 1) kf
  | .seta i name e rest, sl, n, t, kf => vcE c e sl n t fun v sl n t => match getAt sl i with
    | some (.ref x) => SetK w n x name v t fun n' => vcS rest sl n' (t + 2) kf
    | _ => False
  | .ret e, sl, n, t, kf => vcE c e sl n t fun v sl n t => kf (.ret v) sl n t
  | .ife e a b rest, sl, n, t, kf => vcT c e sl n t fun z sl n t => vcIfS z (vcS a) (vcS b) sl n t (thenS (fun sl n t => vcS rest sl n t kf) kf)
end
section
variable {w : World} {cs : Scope} {c : Cx w cs} {D : Nat}
theorem swaps_no {e : Expr} {tg : Option Expr} {l : Nat} {env : Env} (h : isComp e = false) : swapsWith e tg l env = pure false := by
  induction e using PySem.Expr.casesOn <;> first | rfl | cases h
theorem Tri.cons_ {st : Stmt} {rest : List Stmt} {kf : KF} {sl : Sl} {n : Led} {t : Nat} (h : Tri c sl n t (exec st c.env) (thenS (fun sl n t => Tri c sl n t (execs rest c.env) kf) kf)) : Tri c sl n t (execs (st :: rest) c.env) kf := by
  intro hp H
  refine wpAny_execs_cons (h.seq (fun fl sl' n' t' h1 h' H1 => ?_) H)
  cases fl with
  | next => exact h1 h' H1
  | _ => exact ⟨h', sl', n', t', rfl, H1, h1⟩
theorem vcS_ok (ok : c.Ok D) : ∀ (f : Nat) (l : List Stmt), full f l = true → ∀ (sl : Sl) (n : Led) (t : Nat) (kf : KF), vcS c (trS cs f l) sl n t kf → Tri c sl n t (execs l c.env) kf
  | 0, _, hf, _, _, _, _, _ => nomatch hf
  | f + 1, [], _, sl, n, t, kf, h => fun hp H => wpAny_execs_nil ⟨hp, sl, n, t, rfl, H, h⟩
  | f + 1, s :: rest, hf, sl, n, t, kf, h => by
    unfold full at hf
    rw [Bool.and_eq_true] at hf
    have ih := vcS_ok ok f rest hf.1
    have R : ∀ {s sl n t}, Tri c sl n t (exec s c.env) (thenS (fun sl n t => vcS c (trS cs f rest) sl n t kf) kf) → Tri c sl n t (execs (s :: rest) c.env) kf := fun h => Tri.cons_ (h.mono fun fl sl n t h1 => by
      cases fl with
      | next => exact ih sl n t kf h1
      | _ => exact h1)
    induction s using PySem.Stmt.casesOn with
    | Expr e pos =>
      replace h : vcS c (if isComp e = true then .raw (.Expr e pos) (trS cs f rest) else .expr (tr cs 12 e) (trS cs f rest)) sl n t kf := h
      split at h
      · exact R h
      · rename_i hc
        refine R fun hp H => wpAny_Expr_any ((vc_ok ok 12 e sl n t _ h).seq (fun v sl' n' t' h1 h' H1 => ⟨h', sl', n', t', rfl, H1, h1⟩) H) ?_ (swaps_no (by simpa using hc))
        show (cs.kind == .module && _) = false
        rw [ok.hk]; rfl
    | Assign tgts e pos =>
      replace h : vcS c (if isComp e = true then .raw (.Assign tgts e pos) (trS cs f rest) else trAsg (.Assign tgts e pos) (trS cs f rest) (tr cs 12 e) (tgtOf cs tgts)) sl n t kf := h
      cases hc : isComp e with
      | true => rw [if_pos hc] at h; exact R h
      | false =>
        rw [if_neg (by rw [hc]; decide)] at h
        cases ht : tgtOf cs tgts with
        | none => rw [ht] at h; exact R h
        | some p =>
          rw [ht] at h
          obtain ⟨i, o⟩ := p
          refine tgtOf_ind (Q := fun tgts o => vcS c (trAsg (.Assign tgts e pos) (trS cs f rest) (tr cs 12 e) (some (i, o))) sl n t kf → Tri c sl n t (execs (.Assign tgts e pos :: rest) c.env) kf) (fun x xp hl h => ?_) (fun x xp name ap hl h => ?_) tgts ht h
          · replace h : vcS c (.asg i (tr cs 12 e) (trS cs f rest)) sl n t kf := h
            refine R fun hp H => wpAny_Assign_Name ((vc_ok ok 12 e sl n t _ h).seq (fun v sl' n' t' h1 h' H1 => ?_) H) (swaps_no hc)
            refine hide _ fun hidP hidH => ?_
            obtain ⟨b, W, F1, N1⟩ := H1
            refine hidH ?_
            clear hidH
            obtain ⟨a1, a2⟩ := locIx_of hl
            obtain ⟨b1, b2, b3⟩ := locIn_of (cn := c.cn) (L := c.L) (a := c.a) (ccd := c.ccd) (cl := c.cl) a1
            exact storeX_L (s := c.sh h' t') F1 N1 (fun h2 F2 N2 => ⟨h2, setAt i (some v) sl', n', t' + 1, rfl, ⟨b, W, by rw [menuOf_set a2]; exact F2, N2⟩, h1⟩) b3 b1
          · replace h : vcS c (.seta i name (tr cs 12 e) (trS cs f rest)) sl n t kf := h
            refine R fun hp H => plainObj_wpAny_Assign_Attribute ((vc_ok ok 12 e sl n t _ h).seq (fun v sl' n' t' h1 h' H1 => ?_) H) (swaps_no hc)
            refine hide _ fun hidP hidH => ?_
            obtain ⟨y, hv, n2, ⟨C, dx, es, k, es', k', slots, ho, hs, hg, hp', hu, hz⟩, hk⟩ := ref_of h1
            refine hidH ?_
            clear hidH
            refine (Tri.name (pos := xp) hl hv (k := fun v' sl2 n2 t2 => v' = .ref y ∧ sl2 = sl' ∧ n2 = n' ∧ t2 = t') ⟨rfl, rfl, rfl, rfl⟩).seq ?_ H1
            intro v' sl3 n3 t3 hz1 h3 hz2
            refine hide _ fun hidP hidH => ?_
            obtain ⟨rfl, rfl, rfl, rfl⟩ := hz1
            obtain ⟨b, W, F3, N3⟩ := hz2
            refine hidH ?_
            clear hidH
            unfold setOk at hs
            rw [Bool.and_eq_true, Bool.and_eq_true, Bool.and_eq_true] at hs
            exact set_dict (s := c.sh h3 t3) F3 (ok.X b W) N3 (InstAt.of_news N3 ho.o ho.d) rfl (eq_of_beq hs.1) hs.2.1 (eq_of_beq hs.2.2.1) hs.2.2.2 hg hp' hu hz (fun h4 F4 N4 => ⟨h4, sl3, n2, t3 + 2, rfl, ⟨b, W, F4, N4⟩, hk⟩)
    | Return r pos =>
      cases r with
      | none => exact R h
      | some e =>
        intro hp H
        refine wpAny_execs_cons (wpAny_Return_some ((vc_ok ok 12 e sl n t _ h).seq (fun v sl' n' t' h1 h' H1 => ⟨h', sl', n', t', rfl, H1, h1⟩) H))
    | If e a b pos =>
      have hf2 : full f a = true ∧ full f b = true := by
        have := hf.2
        rwa [Bool.and_eq_true] at this
      refine R fun hp H => wpAny_If ((trT_ok (vc_ok ok 12) 12 e sl n t _ h).seq (fun z sl' n' t' h1 h' H1 => ?_) H)
      cases z with
      | true => exact vcS_ok ok f a hf2.1 sl' n' t' _ (h1.1 rfl) h' H1
      | false => exact vcS_ok ok f b hf2.2 sl' n' t' _ (h1.2 rfl) h' H1
    | _ => exact R h
theorem vc_go (ok : c.Ok D) {rs : RS} {f : Nat} {l : List Stmt} (ht : trS cs f l = rs) (hf : full f l = true) {sl : Sl} {n : Led} {t : Nat} {kf : KF} (h : vcS c rs sl n t kf) : Tri c sl n t (execs l c.env) kf := by
  subst ht; exact vcS_ok ok f l hf sl n t kf h
end
noncomputable def kidsE : Expr → List Expr
  | .BoolOp _ es _ => es
  | .BinOp l _ r _ => [l, r]
  | .UnaryOp _ x _ => [x]
  | .IfExp t a b _ => [t, a, b]
  | .Compare l _ rs _ => l :: rs
  | .Call f args _ _ => f :: args
  | .Attribute o _ _ => [o]
  | .Subscript v i _ => [v, i]
  | .List es _ => es
  | .Tuple es _ _ => es
  | _ => []
noncomputable def downE : Option Expr → List Nat → Option Expr
  | some e, i :: r => downE (kidsE e)[i]? r
  | o, _ => o
noncomputable def blockAt (s : Stmt) (b : Nat) : Option (List Stmt) := match s with
  | .For _ _ a d _ => if b = 2 then some a else some d
  | .If _ a d _ => if b = 0 then some a else some d
  | _ => none
noncomputable def goS : Option (List Stmt) → List Nat → Option Stmt
  | some l, i :: r => (match r with
    | [] => l[i]?
    | b :: r' => match l[i]? with
      | some s => goS (blockAt s b) r'
      | none => none)
  | _, _ => none
noncomputable def headE : Option Stmt → Option Expr
  | some (.Expr e _) => some e
  | some (.Assign _ e _) => some e
  | some (.Return e _) => e
  | some (.If e _ _ _) => some e
  | _ => none
noncomputable def goE (b : Option (List Stmt)) (p q : List Nat) : Option Expr := downE (headE (goS b p)) q
noncomputable def rs_OctetReader___init__ : RS := (.seta 0 (Str.ofString "octets") (.loc 1) (.seta 0 (Str.ofString "at") (.int (0)) .nil))
noncomputable def rs_OctetReader_left : RS := (.ret (.bin (.call (.builtin "len") (.cons (.attr 0 (Str.ofString "octets")) .nil)) .Sub (.attr 0 (Str.ofString "at"))))
noncomputable def rs_OctetReader_take : RS := (.ife (.tst (.cmp (.loc 1) .Gt (.meth 0 (Str.ofString "left") .nil))) (.raw (by refine (?_ : (a : PySem.Stmt) → (goS (bodyAtM 14 2) [0, 0, 0] = some a) → PySem.Stmt) _ rfl; exact fun a _ => a) .nil) .nil (.asg 2 (.call (.type "bytes") (.cons (.raw (by refine (?_ : (a : PySem.Expr) → (goE (bodyAtM 14 2) [1] [1] = some a) → PySem.Expr) _ rfl; exact fun a _ => a)) .nil)) (.seta 0 (Str.ofString "at") (.bin (.attr 0 (Str.ofString "at")) .Add (.loc 1)) (.ret (.loc 2)))))
noncomputable def rs_OctetReader_byte : RS := (.ret (.sub (.meth 0 (Str.ofString "take") (.cons (.int (1)) .nil)) (.int (0)) (by refine (?_ : (a : PySem.Expr) → (goE (bodyAtM 14 3) [0] [0] = some a) → PySem.Expr) _ rfl; exact fun a _ => a) (by refine (?_ : (a : PySem.Expr) → (goE (bodyAtM 14 3) [0] [1] = some a) → PySem.Expr) _ rfl; exact fun a _ => a)))
noncomputable def rs_OctetReader_word : RS := (.asg 1 (.meth 0 (Str.ofString "take") (.cons (.int (2)) .nil)) (.ret (.bin (.bin (.sub (.loc 1) (.int (0)) (by refine (?_ : (a : PySem.Expr) → (goE (bodyAtM 14 4) [1] [0, 0, 0] = some a) → PySem.Expr) _ rfl; exact fun a _ => a) (by refine (?_ : (a : PySem.Expr) → (goE (bodyAtM 14 4) [1] [0, 0, 1] = some a) → PySem.Expr) _ rfl; exact fun a _ => a)) .Mult (.int (256))) .Add (.sub (.loc 1) (.int (1)) (by refine (?_ : (a : PySem.Expr) → (goE (bodyAtM 14 4) [1] [1, 0] = some a) → PySem.Expr) _ rfl; exact fun a _ => a) (by refine (?_ : (a : PySem.Expr) → (goE (bodyAtM 14 4) [1] [1, 1] = some a) → PySem.Expr) _ rfl; exact fun a _ => a)))))
noncomputable def rs_ComponentHead___init__ : RS := (.seta 0 (Str.ofString "ident") (.loc 1) (.seta 0 (Str.ofString "across") (.loc 2) (.seta 0 (Str.ofString "down") (.loc 3) (.seta 0 (Str.ofString "quant") (.loc 4) .nil))))
noncomputable def rs_FrameHead___init__ : RS := (.seta 0 (Str.ofString "code") (.loc 1) (.seta 0 (Str.ofString "precision") (.loc 2) (.seta 0 (Str.ofString "height") (.loc 3) (.seta 0 (Str.ofString "width") (.loc 4) (.seta 0 (Str.ofString "components") (.loc 5) .nil)))))
noncomputable def rs_ScanHead___init__ : RS := (.seta 0 (Str.ofString "idents") (.loc 1) (.seta 0 (Str.ofString "dc_slots") (.loc 2) (.seta 0 (Str.ofString "ac_slots") (.loc 3) (.seta 0 (Str.ofString "start") (.loc 4) (.seta 0 (Str.ofString "end") (.loc 5) (.seta 0 (Str.ofString "high") (.loc 6) (.seta 0 (Str.ofString "low") (.loc 7) .nil)))))))
noncomputable def rs_check_component : RS := (.expr (.call (.ref 203) (.cons (.cmp2 (.int (0)) .LtE (.attr 0 (Str.ofString "ident")) .LtE (.int (255))) (.cons (.str (Str.ofString "a component's name is a number of one octet")) .nil))) (.expr (.call (.ref 203) (.cons (.cmp2 (.int (1)) .LtE (.attr 0 (Str.ofString "across")) .LtE (.glob (.int (4) 357))) (.cons (.str (Str.ofString "a sampling factor is from 1 to 4")) .nil))) (.expr (.call (.ref 203) (.cons (.cmp2 (.int (1)) .LtE (.attr 0 (Str.ofString "down")) .LtE (.glob (.int (4) 357))) (.cons (.str (Str.ofString "a sampling factor is from 1 to 4")) .nil))) (.expr (.call (.ref 203) (.cons (.cmp2 (.int (0)) .LtE (.attr 0 (Str.ofString "quant")) .LtE (.glob (.int (3) 359))) (.cons (.str (Str.ofString "a slot is from 0 to 3")) .nil))) .nil))))
noncomputable def rs_check_frame : RS := (.expr (.call (.ref 203) (.cons (.call (.ref 77) (.cons (.attr 0 (Str.ofString "code")) .nil)) (.cons (.str (Str.ofString "the marker is none of a frame")) .nil))) (.expr (.call (.ref 203) (.cons (.call (.ref 217) (.cons (.attr 0 (Str.ofString "code")) (.cons (.attr 0 (Str.ofString "precision")) .nil))) (.cons (.str (Str.ofString "a frame with samples of so many bits is not let")) .nil))) (.expr (.call (.ref 203) (.cons (.cmp2 (.int (0)) .LtE (.attr 0 (Str.ofString "height")) .LtE (.int (65535))) (.cons (.str (Str.ofString "a height is from 0 to 65535")) .nil))) (.expr (.call (.ref 203) (.cons (.cmp2 (.int (1)) .LtE (.attr 0 (Str.ofString "width")) .LtE (.int (65535))) (.cons (.str (Str.ofString "a width is from 1 to 65535")) .nil))) (.expr (.call (.ref 203) (.cons (.cmp2 (.int (1)) .LtE (.call (.builtin "len") (.cons (.attr 0 (Str.ofString "components")) .nil)) .LtE (.int (255))) (.cons (.str (Str.ofString "a frame has 1 to 255 components")) .nil))) (.raw (by refine (?_ : (a : PySem.Stmt) → (goS (bodyAt 29) [5] = some a) → PySem.Stmt) _ rfl; exact fun a _ => a) (.expr (.call (.ref 203) (.cons (.call (.ref 224) (.cons (.raw (by refine (?_ : (a : PySem.Expr) → (goE (bodyAt 29) [6] [1, 1] = some a) → PySem.Expr) _ rfl; exact fun a _ => a)) .nil)) (.cons (.str (Str.ofString "a component stands twice")) .nil))) .nil)))))))
noncomputable def rs_check_frame_5 : RS := (.expr (.call (.ref 231) (.cons (.loc 1) .nil)) .nil)
noncomputable def rs_read_frame : RS := (.expr (.call (.ref 203) (.cons (.and (.cmp (.call (.builtin "len") (.cons (.loc 1) .nil)) .GtE (.int (6))) (.cmp (.call (.builtin "len") (.cons (.loc 1) .nil)) .Eq (.bin (.int (6)) .Add (.bin (.int (3)) .Mult (.sub (.loc 1) (.int (5)) (by refine (?_ : (a : PySem.Expr) → (goE (bodyAt 30) [0] [1, 1, 1, 1, 1, 0] = some a) → PySem.Expr) _ rfl; exact fun a _ => a) (by refine (?_ : (a : PySem.Expr) → (goE (bodyAt 30) [0] [1, 1, 1, 1, 1, 1] = some a) → PySem.Expr) _ rfl; exact fun a _ => a)))))) (.cons (.str (Str.ofString "a frame's head has a wrong length")) .nil))) (.asg 2 (.call (.ref 129) (.cons (.loc 1) .nil)) (.asg 3 (.meth 2 (Str.ofString "byte") .nil) (.asg 4 (.meth 2 (Str.ofString "word") .nil) (.asg 5 (.meth 2 (Str.ofString "word") .nil) (.asg 6 (.list .nil) (.raw (by refine (?_ : (a : PySem.Stmt) → (goS (bodyAt 30) [6] = some a) → PySem.Stmt) _ rfl; exact fun a _ => a) (.asg 10 (.call (.ref 171) (.cons (.loc 0) (.cons (.loc 3) (.cons (.loc 4) (.cons (.loc 5) (.cons (.loc 6) .nil)))))) (.expr (.call (.ref 236) (.cons (.loc 10) .nil)) (.ret (.loc 10)))))))))))
noncomputable def rs_read_frame_6 : RS := (.asg 8 (.meth 2 (Str.ofString "byte") .nil) (.asg 9 (.meth 2 (Str.ofString "byte") .nil) (.expr (.appd 6 (.call (.ref 150) (.cons (.loc 8) (.cons (.bin (.loc 9) .FloorDiv (.int (16))) (.cons (.bin (.loc 9) .Mod (.int (16))) (.cons (.meth 2 (Str.ofString "byte") .nil) .nil)))))) .nil)))
noncomputable def rs_write_frame : RS := (.expr (.call (.ref 236) (.cons (.loc 0) .nil)) (.asg 1 (.bin (.bin (.bin (.call (.type "bytes") (.cons (.list (.cons (.attr 0 (Str.ofString "precision")) .nil)) .nil)) .Add (.call (.ref 84) (.cons (.attr 0 (Str.ofString "height")) .nil))) .Add (.call (.ref 84) (.cons (.attr 0 (Str.ofString "width")) .nil))) .Add (.call (.type "bytes") (.cons (.list (.cons (.call (.builtin "len") (.cons (.attr 0 (Str.ofString "components")) .nil)) .nil)) .nil))) (.raw (by refine (?_ : (a : PySem.Stmt) → (goS (bodyAt 31) [2] = some a) → PySem.Stmt) _ rfl; exact fun a _ => a) (.ret (.loc 1)))))
noncomputable def rs_write_frame_2 : RS := (.asg 1 (.bin (.loc 1) .Add (.call (.type "bytes") (.cons (.list (.cons (.attr 2 (Str.ofString "ident")) (.cons (.bin (.bin (.attr 2 (Str.ofString "across")) .Mult (.int (16))) .Add (.attr 2 (Str.ofString "down"))) (.cons (.attr 2 (Str.ofString "quant")) .nil)))) .nil))) .nil)
noncomputable def rs_check_scan : RS := (.asg 1 (.call (.builtin "len") (.cons (.attr 0 (Str.ofString "idents")) .nil)) (.expr (.call (.ref 203) (.cons (.cmp2 (.int (1)) .LtE (.loc 1) .LtE (.glob (.int (4) 361))) (.cons (.str (Str.ofString "a scan has 1 to 4 components")) .nil))) (.expr (.call (.ref 203) (.cons (.and (.cmp (.call (.builtin "len") (.cons (.attr 0 (Str.ofString "dc_slots")) .nil)) .Eq (.loc 1)) (.cmp (.call (.builtin "len") (.cons (.attr 0 (Str.ofString "ac_slots")) .nil)) .Eq (.loc 1))) (.cons (.str (Str.ofString "each component of a scan has two slots")) .nil))) (.expr (.call (.ref 203) (.cons (.call (.ref 224) (.cons (.attr 0 (Str.ofString "idents")) .nil)) (.cons (.str (Str.ofString "a component stands twice in a scan")) .nil))) (.raw (by refine (?_ : (a : PySem.Stmt) → (goS (bodyAt 32) [4] = some a) → PySem.Stmt) _ rfl; exact fun a _ => a) (.raw (by refine (?_ : (a : PySem.Stmt) → (goS (bodyAt 32) [5] = some a) → PySem.Stmt) _ rfl; exact fun a _ => a) (.expr (.call (.ref 203) (.cons (.and (.cmp2 (.int (0)) .LtE (.attr 0 (Str.ofString "start")) .LtE (.glob (.int (63) 363))) (.cmp2 (.int (0)) .LtE (.attr 0 (Str.ofString "end")) .LtE (.glob (.int (63) 363)))) (.cons (.str (Str.ofString "a band is from 0 to 63")) .nil))) (.expr (.call (.ref 203) (.cons (.and (.cmp2 (.int (0)) .LtE (.attr 0 (Str.ofString "high")) .LtE (.glob (.int (15) 365))) (.cmp2 (.int (0)) .LtE (.attr 0 (Str.ofString "low")) .LtE (.glob (.int (15) 365)))) (.cons (.str (Str.ofString "a bit place is from 0 to 15")) .nil))) .nil))))))))
noncomputable def rs_check_scan_4 : RS := (.expr (.call (.ref 203) (.cons (.cmp2 (.int (0)) .LtE (.loc 2) .LtE (.int (255))) (.cons (.str (Str.ofString "a component's name is a number of one octet")) .nil))) .nil)
noncomputable def rs_check_scan_5 : RS := (.expr (.call (.ref 203) (.cons (.cmp2 (.int (0)) .LtE (.loc 3) .LtE (.glob (.int (3) 359))) (.cons (.str (Str.ofString "a slot is from 0 to 3")) .nil))) .nil)
noncomputable def rs_read_scan : RS := (.expr (.call (.ref 203) (.cons (.and (.cmp (.call (.builtin "len") (.cons (.loc 0) .nil)) .GtE (.int (1))) (.cmp (.call (.builtin "len") (.cons (.loc 0) .nil)) .Eq (.bin (.int (4)) .Add (.bin (.int (2)) .Mult (.sub (.loc 0) (.int (0)) (by refine (?_ : (a : PySem.Expr) → (goE (bodyAt 33) [0] [1, 1, 1, 1, 1, 0] = some a) → PySem.Expr) _ rfl; exact fun a _ => a) (by refine (?_ : (a : PySem.Expr) → (goE (bodyAt 33) [0] [1, 1, 1, 1, 1, 1] = some a) → PySem.Expr) _ rfl; exact fun a _ => a)))))) (.cons (.str (Str.ofString "a scan's head has a wrong length")) .nil))) (.asg 1 (.call (.ref 129) (.cons (.loc 0) .nil)) (.asg 2 (.list .nil) (.asg 3 (.list .nil) (.asg 4 (.list .nil) (.raw (by refine (?_ : (a : PySem.Stmt) → (goS (bodyAt 33) [5] = some a) → PySem.Stmt) _ rfl; exact fun a _ => a) (.asg 7 (.meth 1 (Str.ofString "byte") .nil) (.asg 8 (.meth 1 (Str.ofString "byte") .nil) (.asg 6 (.meth 1 (Str.ofString "byte") .nil) (.asg 9 (.call (.ref 192) (.cons (.loc 2) (.cons (.loc 3) (.cons (.loc 4) (.cons (.loc 7) (.cons (.loc 8) (.cons (.bin (.loc 6) .FloorDiv (.int (16))) (.cons (.bin (.loc 6) .Mod (.int (16))) .nil)))))))) (.expr (.call (.ref 257) (.cons (.loc 9) .nil)) (.ret (.loc 9)))))))))))))
noncomputable def rs_read_scan_5 : RS := (.expr (.appd 2 (.meth 1 (Str.ofString "byte") .nil)) (.asg 6 (.meth 1 (Str.ofString "byte") .nil) (.expr (.appd 3 (.bin (.loc 6) .FloorDiv (.int (16)))) (.expr (.appd 4 (.bin (.loc 6) .Mod (.int (16)))) .nil))))
noncomputable def rs_write_scan : RS := (.expr (.call (.ref 257) (.cons (.loc 0) .nil)) (.asg 1 (.call (.type "bytes") (.cons (.list (.cons (.call (.builtin "len") (.cons (.attr 0 (Str.ofString "idents")) .nil)) .nil)) .nil)) (.raw (by refine (?_ : (a : PySem.Stmt) → (goS (bodyAt 34) [2] = some a) → PySem.Stmt) _ rfl; exact fun a _ => a) (.ret (.bin (.loc 1) .Add (.call (.type "bytes") (.cons (.list (.cons (.attr 0 (Str.ofString "start")) (.cons (.attr 0 (Str.ofString "end")) (.cons (.bin (.bin (.attr 0 (Str.ofString "high")) .Mult (.int (16))) .Add (.attr 0 (Str.ofString "low"))) .nil)))) .nil)))))))
noncomputable def rs_write_scan_2 : RS := (.asg 1 (.bin (.loc 1) .Add (.call (.type "bytes") (.cons (.list (.cons (.sub (.attr 0 (Str.ofString "idents")) (.loc 2) (by refine (?_ : (a : PySem.Expr) → (goE (bodyAt 34) [2, 2, 0] [1, 1, 0, 0] = some a) → PySem.Expr) _ rfl; exact fun a _ => a) (by refine (?_ : (a : PySem.Expr) → (goE (bodyAt 34) [2, 2, 0] [1, 1, 0, 1] = some a) → PySem.Expr) _ rfl; exact fun a _ => a)) (.cons (.bin (.bin (.sub (.attr 0 (Str.ofString "dc_slots")) (.loc 2) (by refine (?_ : (a : PySem.Expr) → (goE (bodyAt 34) [2, 2, 0] [1, 1, 1, 0, 0, 0] = some a) → PySem.Expr) _ rfl; exact fun a _ => a) (by refine (?_ : (a : PySem.Expr) → (goE (bodyAt 34) [2, 2, 0] [1, 1, 1, 0, 0, 1] = some a) → PySem.Expr) _ rfl; exact fun a _ => a)) .Mult (.int (16))) .Add (.sub (.attr 0 (Str.ofString "ac_slots")) (.loc 2) (by refine (?_ : (a : PySem.Expr) → (goE (bodyAt 34) [2, 2, 0] [1, 1, 1, 1, 0] = some a) → PySem.Expr) _ rfl; exact fun a _ => a) (by refine (?_ : (a : PySem.Expr) → (goE (bodyAt 34) [2, 2, 0] [1, 1, 1, 1, 1] = some a) → PySem.Expr) _ rfl; exact fun a _ => a))) .nil))) .nil))) .nil)
noncomputable def rs_read_number : RS := (.expr (.call (.ref 203) (.cons (.cmp (.call (.builtin "len") (.cons (.loc 0) .nil)) .Eq (.int (2))) (.cons (.str (Str.ofString "the segment has a wrong length")) .nil))) (.ret (.bin (.bin (.sub (.loc 0) (.int (0)) (by refine (?_ : (a : PySem.Expr) → (goE (bodyAt 35) [1] [0, 0, 0] = some a) → PySem.Expr) _ rfl; exact fun a _ => a) (by refine (?_ : (a : PySem.Expr) → (goE (bodyAt 35) [1] [0, 0, 1] = some a) → PySem.Expr) _ rfl; exact fun a _ => a)) .Mult (.int (256))) .Add (.sub (.loc 0) (.int (1)) (by refine (?_ : (a : PySem.Expr) → (goE (bodyAt 35) [1] [1, 0] = some a) → PySem.Expr) _ rfl; exact fun a _ => a) (by refine (?_ : (a : PySem.Expr) → (goE (bodyAt 35) [1] [1, 1] = some a) → PySem.Expr) _ rfl; exact fun a _ => a)))))
noncomputable def rs_read_interval : RS := (.ret (.call (.ref 278) (.cons (.loc 0) .nil)))
noncomputable def rs_write_interval : RS := (.ret (.call (.ref 84) (.cons (.loc 0) .nil)))
noncomputable def rs_read_lines : RS := (.asg 1 (.call (.ref 278) (.cons (.loc 0) .nil)) (.expr (.call (.ref 203) (.cons (.cmp (.loc 1) .Gt (.int (0))) (.cons (.str (Str.ofString "a number of lines is 1 or more")) .nil))) (.ret (.loc 1))))
noncomputable def rs_write_lines : RS := (.expr (.call (.ref 203) (.cons (.cmp (.loc 0) .Gt (.int (0))) (.cons (.str (Str.ofString "a number of lines is 1 or more")) .nil))) (.ret (.call (.ref 84) (.cons (.loc 0) .nil))))
noncomputable def rs__law_well : RS := (.asg 2 (.ife (.tst (.cmp (.loc 1) .Lt (.call (.builtin "len") (.cons (.loc 0) .nil)))) (.sub (.loc 0) (.loc 1) (by refine (?_ : (a : PySem.Expr) → (goE (bodyAt 41) [0] [1, 0] = some a) → PySem.Expr) _ rfl; exact fun a _ => a) (by refine (?_ : (a : PySem.Expr) → (goE (bodyAt 41) [0] [1, 1] = some a) → PySem.Expr) _ rfl; exact fun a _ => a)) (.int (0))) (.asg 3 (.ife (.tst (.cmp (.loc 2) .GtE (.int (0)))) (.loc 2) (.bin (.int (3)) .Sub (.loc 2))) (.ret (.list (.cons (.ife (.tst (.cmp (.loc 3) .GtE (.bin (.int (10)) .Pow (.int (15))))) (.loc 3) (.int (0))) (.cons (.bin (.bin (.bin (.bin (.bin (.loc 3) .Mod (.int (999863))) .Mult (.int (277))) .Add (.bin (.int (107)) .Mult (.loc 1))) .Add (.int (37))) .Mod (.int (65371))) .nil))))))
noncomputable def rs__law_draw : RS := (.ife (.tst (.cmp (.sub (.loc 0) (.int (0)) (by refine (?_ : (a : PySem.Expr) → (goE (bodyAt 42) [0] [0, 0] = some a) → PySem.Expr) _ rfl; exact fun a _ => a) (by refine (?_ : (a : PySem.Expr) → (goE (bodyAt 42) [0] [0, 1] = some a) → PySem.Expr) _ rfl; exact fun a _ => a)) .Gt (.int (0)))) (.asg 2 (.bin (.sub (.loc 0) (.int (0)) (by refine (?_ : (a : PySem.Expr) → (goE (bodyAt 42) [0, 0, 0] [0, 0] = some a) → PySem.Expr) _ rfl; exact fun a _ => a) (by refine (?_ : (a : PySem.Expr) → (goE (bodyAt 42) [0, 0, 0] [0, 1] = some a) → PySem.Expr) _ rfl; exact fun a _ => a)) .Mod (.loc 1)) (.raw (by refine (?_ : (a : PySem.Stmt) → (goS (bodyAt 42) [0, 0, 1] = some a) → PySem.Stmt) _ rfl; exact fun a _ => a) (.ret (.loc 2)))) .nil (.raw (by refine (?_ : (a : PySem.Stmt) → (goS (bodyAt 42) [1] = some a) → PySem.Stmt) _ rfl; exact fun a _ => a) (.ret (.bin (.bin (.sub (.loc 0) (.int (1)) (by refine (?_ : (a : PySem.Expr) → (goE (bodyAt 42) [2] [0, 0, 0] = some a) → PySem.Expr) _ rfl; exact fun a _ => a) (by refine (?_ : (a : PySem.Expr) → (goE (bodyAt 42) [2] [0, 0, 1] = some a) → PySem.Expr) _ rfl; exact fun a _ => a)) .FloorDiv (.int (7))) .Mod (.loc 1)))))
noncomputable def rs__law_side : RS := (.ret (.sub (.list (.cons (.int (1)) (.cons (.int (2)) (.cons (.int (255)) (.cons (.int (256)) (.cons (.int (257)) (.cons (.int (300)) (.cons (.int (4660)) (.cons (.int (65280)) (.cons (.int (65534)) (.cons (.int (65535)) (.cons (.int (65535)) (.cons (.int (0)) (.cons (.int (65536)) (.cons (.un .USub (.int (1))) .nil))))))))))))))) (.call (.ref 320) (.cons (.loc 0) (.cons (.int (14)) .nil))) (by refine (?_ : (a : PySem.Expr) → (goE (bodyAt 43) [0] [0] = some a) → PySem.Expr) _ rfl; exact fun a _ => a) (by refine (?_ : (a : PySem.Expr) → (goE (bodyAt 43) [0] [1] = some a) → PySem.Expr) _ rfl; exact fun a _ => a)))
noncomputable def rs__law_most : RS := (.asg 2 (.call (.ref 320) (.cons (.loc 0) (.cons (.int (16)) .nil))) (.ret (.ife (.tst (.cmp (.loc 2) .Lt (.int (2)))) (.sub (.list (.cons (.un .USub (.int (1))) (.cons (.bin (.loc 1) .Add (.int (1))) .nil))) (.loc 2) (by refine (?_ : (a : PySem.Expr) → (goE (bodyAt 44) [1] [1, 0] = some a) → PySem.Expr) _ rfl; exact fun a _ => a) (by refine (?_ : (a : PySem.Expr) → (goE (bodyAt 44) [1] [1, 1] = some a) → PySem.Expr) _ rfl; exact fun a _ => a)) (.call (.ref 320) (.cons (.loc 0) (.cons (.bin (.loc 1) .Add (.int (1))) .nil))))))
noncomputable def rs__law_codes : RS := (.ret (.list (.cons (.int (192)) (.cons (.int (193)) (.cons (.int (194)) (.cons (.int (195)) (.cons (.int (197)) (.cons (.int (198)) (.cons (.int (199)) (.cons (.int (201)) (.cons (.int (202)) (.cons (.int (203)) (.cons (.int (205)) (.cons (.int (206)) (.cons (.int (207)) .nil)))))))))))))))
noncomputable def rs__law_lets_bits : RS := (.ife (.tst (.cmp (.loc 0) .In (.tup (.cons (.int (195)) (.cons (.int (199)) (.cons (.int (203)) (.cons (.int (207)) .nil))))))) (.ret (.cmp (.loc 1) .In (.call (.type "range") (.cons (.int (2)) (.cons (.int (17)) .nil))))) .nil (.ret (.or (.cmp (.loc 1) .Eq (.int (8))) (.and (.cmp (.loc 0) .NotEq (.int (192))) (.cmp (.loc 1) .Eq (.int (12)))))))
noncomputable def rs__law_frame : RS := (.asg 1 (.ife (.tst (.cmp (.call (.ref 320) (.cons (.loc 0) (.cons (.int (5)) .nil))) .Gt (.int (0)))) (.sub (.call (.ref 348) .nil) (.call (.ref 320) (.cons (.loc 0) (.cons (.int (13)) .nil))) (by refine (?_ : (a : PySem.Expr) → (goE (bodyAt 48) [0] [1, 0] = some a) → PySem.Expr) _ rfl; exact fun a _ => a) (by refine (?_ : (a : PySem.Expr) → (goE (bodyAt 48) [0] [1, 1] = some a) → PySem.Expr) _ rfl; exact fun a _ => a)) (.call (.ref 320) (.cons (.loc 0) (.cons (.int (256)) .nil)))) (.asg 2 (.sub (.list (.cons (.int (8)) (.cons (.int (8)) (.cons (.int (12)) (.cons (.bin (.call (.ref 320) (.cons (.loc 0) (.cons (.int (22)) .nil))) .Sub (.int (1))) .nil))))) (.call (.ref 320) (.cons (.loc 0) (.cons (.int (4)) .nil))) (by refine (?_ : (a : PySem.Expr) → (goE (bodyAt 48) [1] [0] = some a) → PySem.Expr) _ rfl; exact fun a _ => a) (by refine (?_ : (a : PySem.Expr) → (goE (bodyAt 48) [1] [1] = some a) → PySem.Expr) _ rfl; exact fun a _ => a)) (.asg 3 (.list .nil) (.raw (by refine (?_ : (a : PySem.Stmt) → (goS (bodyAt 48) [3] = some a) → PySem.Stmt) _ rfl; exact fun a _ => a) (.ret (.tup (.cons (.loc 1) (.cons (.loc 2) (.cons (.call (.ref 327) (.cons (.loc 0) .nil)) (.cons (.call (.ref 327) (.cons (.loc 0) .nil)) (.cons (.loc 3) .nil)))))))))))
noncomputable def rs__law_frame_3 : RS := (.asg 5 (.list (.cons (.bin (.int (1)) .Add (.call (.ref 320) (.cons (.loc 0) (.cons (.int (4)) .nil)))) (.cons (.bin (.int (1)) .Add (.call (.ref 320) (.cons (.loc 0) (.cons (.int (4)) .nil)))) .nil))) (.ife (.tst (.cmp (.call (.ref 320) (.cons (.loc 0) (.cons (.int (12)) .nil))) .Eq (.int (0)))) (.raw (by refine (?_ : (a : PySem.Stmt) → (goS (bodyAt 48) [3, 2, 1, 0, 0] = some a) → PySem.Stmt) _ rfl; exact fun a _ => a) .nil) .nil (.expr (.appd 3 (.tup (.cons (.call (.ref 334) (.cons (.loc 0) (.cons (.int (255)) .nil))) (.cons (.sub (.loc 5) (.int (0)) (by refine (?_ : (a : PySem.Expr) → (goE (bodyAt 48) [3, 2, 2] [1, 1, 0] = some a) → PySem.Expr) _ rfl; exact fun a _ => a) (by refine (?_ : (a : PySem.Expr) → (goE (bodyAt 48) [3, 2, 2] [1, 1, 1] = some a) → PySem.Expr) _ rfl; exact fun a _ => a)) (.cons (.sub (.loc 5) (.int (1)) (by refine (?_ : (a : PySem.Expr) → (goE (bodyAt 48) [3, 2, 2] [1, 2, 0] = some a) → PySem.Expr) _ rfl; exact fun a _ => a) (by refine (?_ : (a : PySem.Expr) → (goE (bodyAt 48) [3, 2, 2] [1, 2, 1] = some a) → PySem.Expr) _ rfl; exact fun a _ => a)) (.cons (.call (.ref 334) (.cons (.loc 0) (.cons (.int (3)) .nil))) .nil)))))) .nil)))
noncomputable def rs__law_lets_frame : RS := (.raw (by refine (?_ : (a : PySem.Stmt) → (goS (bodyAt 49) [0] = some a) → PySem.Stmt) _ rfl; exact fun a _ => a) (.ife (.or (.tst (.cmp (.loc 1) .NotIn (.call (.ref 348) .nil))) (.or (.not (.tst (.call (.ref 355) (.cons (.loc 1) (.cons (.loc 2) .nil))))) (.or (.not (.cmp2 (.int (0)) .LtE (.loc 3) .Lt (.int (65536)))) (.not (.cmp2 (.int (0)) .Lt (.loc 4) .Lt (.int (65536))))))) (.ret (.bool false)) .nil (.raw (by refine (?_ : (a : PySem.Stmt) → (goS (bodyAt 49) [2] = some a) → PySem.Stmt) _ rfl; exact fun a _ => a) (.ret (.cmp (.call (.builtin "len") (.cons (.call (.type "dict") (.cons (.raw (by refine (?_ : (a : PySem.Expr) → (goE (bodyAt 49) [3] [0, 1, 1] = some a) → PySem.Expr) _ rfl; exact fun a _ => a)) .nil)) .nil)) .Eq (.call (.builtin "len") (.cons (.loc 5) .nil)))))))
noncomputable def rs__law_lets_frame_2 : RS := (.ife (.or (.not (.cmp2 (.int (0)) .LtE (.loc 6) .Lt (.int (256)))) (.or (.tst (.cmp (.loc 7) .NotIn (.tup (.cons (.int (1)) (.cons (.int (2)) (.cons (.int (3)) (.cons (.int (4)) .nil))))))) (.or (.tst (.cmp (.loc 8) .NotIn (.tup (.cons (.int (1)) (.cons (.int (2)) (.cons (.int (3)) (.cons (.int (4)) .nil))))))) (.tst (.cmp (.loc 9) .NotIn (.tup (.cons (.int (0)) (.cons (.int (1)) (.cons (.int (2)) (.cons (.int (3)) .nil)))))))))) (.ret (.bool false)) .nil .nil)
noncomputable def rs__law_row_of : RS := (.ret (.tup (.cons (.attr 0 (Str.ofString "code")) (.cons (.attr 0 (Str.ofString "precision")) (.cons (.attr 0 (Str.ofString "height")) (.cons (.attr 0 (Str.ofString "width")) (.cons (.raw (by refine (?_ : (a : PySem.Expr) → (goE (bodyAt 50) [0] [4] = some a) → PySem.Expr) _ rfl; exact fun a _ => a)) .nil)))))))
noncomputable def rs__law_frame_right : RS := (.raw (by refine (?_ : (a : PySem.Stmt) → (goS (bodyAt 51) [0] = some a) → PySem.Stmt) _ rfl; exact fun a _ => a) (.raw (by refine (?_ : (a : PySem.Stmt) → (goS (bodyAt 51) [1] = some a) → PySem.Stmt) _ rfl; exact fun a _ => a) (.asg 6 (.call (.ref 341) (.cons (.raw (by refine (?_ : (a : PySem.Expr) → (goE (bodyAt 51) [2] [1] = some a) → PySem.Expr) _ rfl; exact fun a _ => a)) .nil)) (.ife (.not (.tst (.call (.ref 367) (.cons (.loc 0) .nil)))) (.ret (.cmp (.loc 6) .Is .non)) .nil (.asg 7 (.call (.type "bytes") (.cons (.list (.cons (.loc 2) (.cons (.bin (.loc 3) .FloorDiv (.int (256))) (.cons (.bin (.loc 3) .Mod (.int (256))) (.cons (.bin (.loc 4) .FloorDiv (.int (256))) (.cons (.bin (.loc 4) .Mod (.int (256))) (.cons (.call (.builtin "len") (.cons (.loc 5) .nil)) .nil))))))) .nil)) (.raw (by refine (?_ : (a : PySem.Stmt) → (goS (bodyAt 51) [5] = some a) → PySem.Stmt) _ rfl; exact fun a _ => a) (.ret (.and (.cmp (.loc 6) .Eq (.loc 7)) (.cmp (.call (.ref 372) (.cons (.call (.ref 243) (.cons (.loc 1) (.cons (.loc 7) .nil))) .nil)) .Eq (.loc 0))))))))))
noncomputable def rs__law_frame_right_5 : RS := (.asg 7 (.bin (.loc 7) .Add (.call (.type "bytes") (.cons (.list (.cons (.loc 8) (.cons (.bin (.bin (.int (16)) .Mult (.loc 9)) .Add (.loc 10)) (.cons (.loc 11) .nil)))) .nil))) .nil)
noncomputable def rs__law_octets_right : RS := (.raw (by refine (?_ : (a : PySem.Stmt) → (goS (bodyAt 52) [0] = some a) → PySem.Stmt) _ rfl; exact fun a _ => a) (.raw (by refine (?_ : (a : PySem.Stmt) → (goS (bodyAt 52) [1] = some a) → PySem.Stmt) _ rfl; exact fun a _ => a) (.asg 2 (.list .nil) (.raw (by refine (?_ : (a : PySem.Stmt) → (goS (bodyAt 52) [3] = some a) → PySem.Stmt) _ rfl; exact fun a _ => a) (.asg 5 (.tup (.cons (.raw (by refine (?_ : (a : PySem.Expr) → (goE (bodyAt 52) [4] [0] = some a) → PySem.Expr) _ rfl; exact fun a _ => a)) (.cons (.sub (.raw (by refine (?_ : (a : PySem.Expr) → (goE (bodyAt 52) [4] [1, 0] = some a) → PySem.Expr) _ rfl; exact fun a _ => a)) (.int (0)) (by refine (?_ : (a : PySem.Expr) → (goE (bodyAt 52) [4] [1, 0] = some a) → PySem.Expr) _ rfl; exact fun a _ => a) (by refine (?_ : (a : PySem.Expr) → (goE (bodyAt 52) [4] [1, 1] = some a) → PySem.Expr) _ rfl; exact fun a _ => a)) (.cons (.bin (.bin (.sub (.raw (by refine (?_ : (a : PySem.Expr) → (goE (bodyAt 52) [4] [2, 0, 0, 0] = some a) → PySem.Expr) _ rfl; exact fun a _ => a)) (.int (1)) (by refine (?_ : (a : PySem.Expr) → (goE (bodyAt 52) [4] [2, 0, 0, 0] = some a) → PySem.Expr) _ rfl; exact fun a _ => a) (by refine (?_ : (a : PySem.Expr) → (goE (bodyAt 52) [4] [2, 0, 0, 1] = some a) → PySem.Expr) _ rfl; exact fun a _ => a)) .Mult (.int (256))) .Add (.sub (.raw (by refine (?_ : (a : PySem.Expr) → (goE (bodyAt 52) [4] [2, 1, 0] = some a) → PySem.Expr) _ rfl; exact fun a _ => a)) (.int (2)) (by refine (?_ : (a : PySem.Expr) → (goE (bodyAt 52) [4] [2, 1, 0] = some a) → PySem.Expr) _ rfl; exact fun a _ => a) (by refine (?_ : (a : PySem.Expr) → (goE (bodyAt 52) [4] [2, 1, 1] = some a) → PySem.Expr) _ rfl; exact fun a _ => a))) (.cons (.bin (.bin (.sub (.raw (by refine (?_ : (a : PySem.Expr) → (goE (bodyAt 52) [4] [3, 0, 0, 0] = some a) → PySem.Expr) _ rfl; exact fun a _ => a)) (.int (3)) (by refine (?_ : (a : PySem.Expr) → (goE (bodyAt 52) [4] [3, 0, 0, 0] = some a) → PySem.Expr) _ rfl; exact fun a _ => a) (by refine (?_ : (a : PySem.Expr) → (goE (bodyAt 52) [4] [3, 0, 0, 1] = some a) → PySem.Expr) _ rfl; exact fun a _ => a)) .Mult (.int (256))) .Add (.sub (.raw (by refine (?_ : (a : PySem.Expr) → (goE (bodyAt 52) [4] [3, 1, 0] = some a) → PySem.Expr) _ rfl; exact fun a _ => a)) (.int (4)) (by refine (?_ : (a : PySem.Expr) → (goE (bodyAt 52) [4] [3, 1, 0] = some a) → PySem.Expr) _ rfl; exact fun a _ => a) (by refine (?_ : (a : PySem.Expr) → (goE (bodyAt 52) [4] [3, 1, 1] = some a) → PySem.Expr) _ rfl; exact fun a _ => a))) (.cons (.loc 2) .nil)))))) (.asg 6 (.call (.ref 341) (.cons (.raw (by refine (?_ : (a : PySem.Expr) → (goE (bodyAt 52) [5] [1] = some a) → PySem.Expr) _ rfl; exact fun a _ => a)) .nil)) (.ret (.ife (.and (.tst (.call (.ref 367) (.cons (.loc 5) .nil))) (.tst (.cmp (.loc 6) .IsNot .non))) (.cmp (.call (.ref 372) (.cons (.loc 6) .nil)) .Eq (.loc 5)) (.and (.cmp (.loc 6) .Is .non) (.not (.call (.ref 367) (.cons (.loc 5) .nil))))))))))))
noncomputable def rs__law_octets_right_3 : RS := (.asg 4 (.list (.cons (.call (.ref 320) (.cons (.loc 0) (.cons (.int (3)) .nil))) (.cons (.sub (.list (.cons (.int (17)) (.cons (.int (34)) (.cons (.int (65)) (.cons (.int (20)) (.cons (.int (68)) (.cons (.int (1)) (.cons (.int (80)) (.cons (.int (255)) .nil))))))))) (.call (.ref 320) (.cons (.loc 0) (.cons (.int (8)) .nil))) (by refine (?_ : (a : PySem.Expr) → (goE (bodyAt 52) [3, 2, 0] [1, 0] = some a) → PySem.Expr) _ rfl; exact fun a _ => a) (by refine (?_ : (a : PySem.Expr) → (goE (bodyAt 52) [3, 2, 0] [1, 1] = some a) → PySem.Expr) _ rfl; exact fun a _ => a)) (.cons (.sub (.list (.cons (.int (0)) (.cons (.int (3)) (.cons (.int (4)) (.cons (.int (255)) (.cons (.int (1)) (.cons (.int (2)) .nil))))))) (.call (.ref 320) (.cons (.loc 0) (.cons (.int (6)) .nil))) (by refine (?_ : (a : PySem.Expr) → (goE (bodyAt 52) [3, 2, 0] [2, 0] = some a) → PySem.Expr) _ rfl; exact fun a _ => a) (by refine (?_ : (a : PySem.Expr) → (goE (bodyAt 52) [3, 2, 0] [2, 1] = some a) → PySem.Expr) _ rfl; exact fun a _ => a)) .nil)))) (.raw (by refine (?_ : (a : PySem.Stmt) → (goS (bodyAt 52) [3, 2, 1] = some a) → PySem.Stmt) _ rfl; exact fun a _ => a) .nil))
noncomputable def rs__law_scan : RS := (.raw (by refine (?_ : (a : PySem.Stmt) → (goS (bodyAt 53) [0] = some a) → PySem.Stmt) _ rfl; exact fun a _ => a) (.raw (by refine (?_ : (a : PySem.Stmt) → (goS (bodyAt 53) [1] = some a) → PySem.Stmt) _ rfl; exact fun a _ => a) (.raw (by refine (?_ : (a : PySem.Stmt) → (goS (bodyAt 53) [2] = some a) → PySem.Stmt) _ rfl; exact fun a _ => a) (.ret (.tup (.cons (.loc 2) (.cons (.sub (.loc 3) (.int (0)) (by refine (?_ : (a : PySem.Expr) → (goE (bodyAt 53) [3] [1, 0] = some a) → PySem.Expr) _ rfl; exact fun a _ => a) (by refine (?_ : (a : PySem.Expr) → (goE (bodyAt 53) [3] [1, 1] = some a) → PySem.Expr) _ rfl; exact fun a _ => a)) (.cons (.sub (.loc 3) (.int (1)) (by refine (?_ : (a : PySem.Expr) → (goE (bodyAt 53) [3] [2, 0] = some a) → PySem.Expr) _ rfl; exact fun a _ => a) (by refine (?_ : (a : PySem.Expr) → (goE (bodyAt 53) [3] [2, 1] = some a) → PySem.Expr) _ rfl; exact fun a _ => a)) (.cons (.call (.ref 334) (.cons (.raw (by refine (?_ : (a : PySem.Expr) → (goE (bodyAt 53) [3] [3, 1] = some a) → PySem.Expr) _ rfl; exact fun a _ => a)) (.cons (.int (63)) .nil))) (.cons (.call (.ref 334) (.cons (.raw (by refine (?_ : (a : PySem.Expr) → (goE (bodyAt 53) [3] [4, 1] = some a) → PySem.Expr) _ rfl; exact fun a _ => a)) (.cons (.int (63)) .nil))) (.cons (.call (.ref 334) (.cons (.raw (by refine (?_ : (a : PySem.Expr) → (goE (bodyAt 53) [3] [5, 1] = some a) → PySem.Expr) _ rfl; exact fun a _ => a)) (.cons (.int (15)) .nil))) (.cons (.call (.ref 334) (.cons (.raw (by refine (?_ : (a : PySem.Expr) → (goE (bodyAt 53) [3] [6, 1] = some a) → PySem.Expr) _ rfl; exact fun a _ => a)) (.cons (.int (15)) .nil))) .nil))))))))))))
noncomputable def rs__law_lets_scan : RS := (.raw (by refine (?_ : (a : PySem.Stmt) → (goS (bodyAt 54) [0] = some a) → PySem.Stmt) _ rfl; exact fun a _ => a) (.ife (.or (.tst (.cmp (.call (.builtin "len") (.cons (.loc 1) .nil)) .Gt (.int (4)))) (.or (.tst (.cmp (.call (.builtin "len") (.cons (.loc 2) .nil)) .NotEq (.call (.builtin "len") (.cons (.loc 1) .nil)))) (.tst (.cmp (.call (.builtin "len") (.cons (.loc 3) .nil)) .NotEq (.call (.builtin "len") (.cons (.loc 1) .nil)))))) (.ret (.bool false)) .nil (.ife (.or (.tst (.cmp (.raw (by refine (?_ : (a : PySem.Expr) → (goE (bodyAt 54) [2] [0, 0] = some a) → PySem.Expr) _ rfl; exact fun a _ => a)) .NotEq (.list .nil))) (.tst (.cmp (.raw (by refine (?_ : (a : PySem.Expr) → (goE (bodyAt 54) [2] [1, 0] = some a) → PySem.Expr) _ rfl; exact fun a _ => a)) .NotEq (.list .nil)))) (.ret (.bool false)) .nil (.ife (.or (.not (.tst (.cmp (.int (0)) .LtE (.call (.builtin "min") (.cons (.loc 4) (.cons (.loc 5) (.cons (.loc 6) (.cons (.loc 7) .nil)))))))) (.or (.tst (.cmp (.call (.builtin "max") (.cons (.loc 4) (.cons (.loc 5) .nil))) .Gt (.int (63)))) (.tst (.cmp (.call (.builtin "max") (.cons (.loc 6) (.cons (.loc 7) .nil))) .Gt (.int (15)))))) (.ret (.bool false)) .nil (.ret (.cmp (.call (.builtin "len") (.cons (.call (.type "dict") (.cons (.raw (by refine (?_ : (a : PySem.Expr) → (goE (bodyAt 54) [4] [0, 1, 1] = some a) → PySem.Expr) _ rfl; exact fun a _ => a)) .nil)) .nil)) .Eq (.call (.builtin "len") (.cons (.loc 1) .nil))))))))
noncomputable def rs__law_scan_right : RS := (.raw (by refine (?_ : (a : PySem.Stmt) → (goS (bodyAt 55) [0] = some a) → PySem.Stmt) _ rfl; exact fun a _ => a) (.asg 1 (.call (.ref 341) (.cons (.raw (by refine (?_ : (a : PySem.Expr) → (goE (bodyAt 55) [1] [1] = some a) → PySem.Expr) _ rfl; exact fun a _ => a)) .nil)) (.ife (.not (.tst (.call (.ref 394) (.cons (.loc 0) .nil)))) (.ret (.cmp (.loc 1) .Is .non)) .nil (.asg 2 (.call (.type "bytes") (.cons (.list (.cons (.call (.builtin "len") (.cons (.raw (by refine (?_ : (a : PySem.Expr) → (goE (bodyAt 55) [3] [1, 0, 1] = some a) → PySem.Expr) _ rfl; exact fun a _ => a)) .nil)) .nil)) .nil)) (.raw (by refine (?_ : (a : PySem.Stmt) → (goS (bodyAt 55) [4] = some a) → PySem.Stmt) _ rfl; exact fun a _ => a) (.asg 2 (.bin (.loc 2) .Add (.call (.type "bytes") (.cons (.list (.cons (.raw (by refine (?_ : (a : PySem.Expr) → (goE (bodyAt 55) [5] [1, 1, 0] = some a) → PySem.Expr) _ rfl; exact fun a _ => a)) (.cons (.raw (by refine (?_ : (a : PySem.Expr) → (goE (bodyAt 55) [5] [1, 1, 1] = some a) → PySem.Expr) _ rfl; exact fun a _ => a)) (.cons (.bin (.bin (.int (16)) .Mult (.raw (by refine (?_ : (a : PySem.Expr) → (goE (bodyAt 55) [5] [1, 1, 2, 0, 1] = some a) → PySem.Expr) _ rfl; exact fun a _ => a))) .Add (.raw (by refine (?_ : (a : PySem.Expr) → (goE (bodyAt 55) [5] [1, 1, 2, 1] = some a) → PySem.Expr) _ rfl; exact fun a _ => a))) .nil)))) .nil))) (.asg 4 (.call (.ref 264) (.cons (.loc 2) .nil)) (.ret (.and (.cmp (.loc 1) .Eq (.loc 2)) (.cmp (.tup (.cons (.attr 4 (Str.ofString "idents")) (.cons (.attr 4 (Str.ofString "dc_slots")) (.cons (.attr 4 (Str.ofString "ac_slots")) (.cons (.attr 4 (Str.ofString "start")) (.cons (.attr 4 (Str.ofString "end")) (.cons (.attr 4 (Str.ofString "high")) (.cons (.attr 4 (Str.ofString "low")) .nil)))))))) .Eq (.loc 0)))))))))))
noncomputable def rs__law_scan_right_4 : RS := (.asg 2 (.bin (.loc 2) .Add (.call (.type "bytes") (.cons (.list (.cons (.sub (.raw (by refine (?_ : (a : PySem.Expr) → (goE (bodyAt 55) [4, 2, 0] [1, 1, 0, 0] = some a) → PySem.Expr) _ rfl; exact fun a _ => a)) (.loc 3) (by refine (?_ : (a : PySem.Expr) → (goE (bodyAt 55) [4, 2, 0] [1, 1, 0, 0] = some a) → PySem.Expr) _ rfl; exact fun a _ => a) (by refine (?_ : (a : PySem.Expr) → (goE (bodyAt 55) [4, 2, 0] [1, 1, 0, 1] = some a) → PySem.Expr) _ rfl; exact fun a _ => a)) (.cons (.bin (.bin (.int (16)) .Mult (.sub (.raw (by refine (?_ : (a : PySem.Expr) → (goE (bodyAt 55) [4, 2, 0] [1, 1, 1, 0, 1, 0] = some a) → PySem.Expr) _ rfl; exact fun a _ => a)) (.loc 3) (by refine (?_ : (a : PySem.Expr) → (goE (bodyAt 55) [4, 2, 0] [1, 1, 1, 0, 1, 0] = some a) → PySem.Expr) _ rfl; exact fun a _ => a) (by refine (?_ : (a : PySem.Expr) → (goE (bodyAt 55) [4, 2, 0] [1, 1, 1, 0, 1, 1] = some a) → PySem.Expr) _ rfl; exact fun a _ => a))) .Add (.sub (.raw (by refine (?_ : (a : PySem.Expr) → (goE (bodyAt 55) [4, 2, 0] [1, 1, 1, 1, 0] = some a) → PySem.Expr) _ rfl; exact fun a _ => a)) (.loc 3) (by refine (?_ : (a : PySem.Expr) → (goE (bodyAt 55) [4, 2, 0] [1, 1, 1, 1, 0] = some a) → PySem.Expr) _ rfl; exact fun a _ => a) (by refine (?_ : (a : PySem.Expr) → (goE (bodyAt 55) [4, 2, 0] [1, 1, 1, 1, 1] = some a) → PySem.Expr) _ rfl; exact fun a _ => a))) .nil))) .nil))) .nil)
noncomputable def rs__law_rims_right : RS := (.raw (by refine (?_ : (a : PySem.Stmt) → (goS (bodyAt 56) [0] = some a) → PySem.Stmt) _ rfl; exact fun a _ => a) (.ife (.or (.tst (.cmp (.raw (by refine (?_ : (a : PySem.Expr) → (goE (bodyAt 56) [1] [0, 0] = some a) → PySem.Expr) _ rfl; exact fun a _ => a)) .NotEq (.call (.type "bytes") (.cons (.list (.cons (.bin (.loc 0) .FloorDiv (.int (256))) (.cons (.bin (.loc 0) .Mod (.int (256))) .nil))) .nil)))) (.tst (.cmp (.call (.ref 285) (.cons (.raw (by refine (?_ : (a : PySem.Expr) → (goE (bodyAt 56) [1] [1, 0, 1] = some a) → PySem.Expr) _ rfl; exact fun a _ => a)) .nil)) .NotEq (.loc 0)))) (.ret (.bool false)) .nil (.ife (.tst (.cmp (.loc 0) .Eq (.int (0)))) (.ret (.and (.cmp (.call (.ref 341) (.cons (.raw (by refine (?_ : (a : PySem.Expr) → (goE (bodyAt 56) [2, 0, 0] [0, 0, 1] = some a) → PySem.Expr) _ rfl; exact fun a _ => a)) .nil)) .Is .non) (.cmp (.call (.ref 341) (.cons (.raw (by refine (?_ : (a : PySem.Expr) → (goE (bodyAt 56) [2, 0, 0] [1, 0, 1] = some a) → PySem.Expr) _ rfl; exact fun a _ => a)) .nil)) .Is .non))) .nil (.ret (.and (.cmp (.call (.ref 306) (.cons (.loc 0) .nil)) .Eq (.raw (by refine (?_ : (a : PySem.Expr) → (goE (bodyAt 56) [3] [0, 1] = some a) → PySem.Expr) _ rfl; exact fun a _ => a))) (.cmp (.call (.ref 299) (.cons (.raw (by refine (?_ : (a : PySem.Expr) → (goE (bodyAt 56) [3] [1, 0, 1] = some a) → PySem.Expr) _ rfl; exact fun a _ => a)) .nil)) .Eq (.loc 0)))))))
noncomputable def rs_law : RS := (.raw (by refine (?_ : (a : PySem.Stmt) → (goS (bodyAt 57) [0] = some a) → PySem.Stmt) _ rfl; exact fun a _ => a) (.asg 2 (.call (.ref 243) (.cons (.int (194)) (.cons (.bin (.call (.type "bytes") (.cons (.list (.cons (.int (8)) (.cons (.int (1)) (.cons (.int (44)) (.cons (.int (0)) (.cons (.int (1)) (.cons (.int (30)) .nil))))))) .nil)) .Add (.raw (by refine (?_ : (a : PySem.Expr) → (goE (bodyAt 57) [1] [2, 1] = some a) → PySem.Expr) _ rfl; exact fun a _ => a))) .nil))) (.ife (.or (.tst (.cmp (.attr 2 (Str.ofString "height")) .NotEq (.int (300)))) (.tst (.cmp (.raw (by refine (?_ : (a : PySem.Expr) → (goE (bodyAt 57) [2] [1, 0] = some a) → PySem.Expr) _ rfl; exact fun a _ => a)) .NotEq (.call (.type "list") (.cons (.call (.type "range") (.cons (.int (30)) .nil)) .nil))))) (.ret (.bool false)) .nil (.raw (by refine (?_ : (a : PySem.Stmt) → (goS (bodyAt 57) [3] = some a) → PySem.Stmt) _ rfl; exact fun a _ => a) (.ret (.bool true))))))
noncomputable def rs_law_0 : RS := (.ife (.not (.tst (.call (.ref 377) (.cons (.tup (.cons (.int (195)) (.cons (.loc 1) (.cons (.int (300)) (.cons (.int (65535)) (.cons (.list (.cons (.tup (.cons (.int (255)) (.cons (.int (1)) (.cons (.int (4)) (.cons (.int (3)) .nil))))) .nil)) .nil)))))) .nil)))) (.ret (.bool false)) .nil .nil)
noncomputable def rs_law_3 : RS := (.asg 4 (.call (.ref 313) (.cons (.loc 0) (.cons (.loc 3) .nil))) (.ife (.or (.not (.tst (.call (.ref 377) (.cons (.call (.ref 362) (.cons (.loc 4) .nil)) .nil)))) (.or (.not (.tst (.call (.ref 384) (.cons (.loc 4) .nil)))) (.not (.tst (.call (.ref 401) (.cons (.call (.ref 389) (.cons (.loc 4) .nil)) .nil)))))) (.ret (.bool false)) .nil (.ife (.not (.tst (.call (.ref 408) (.cons (.call (.ref 327) (.cons (.loc 4) .nil)) .nil)))) (.ret (.bool false)) .nil .nil)))
section
open PySem.W.X
/-- an exception object of an own class made since h -/
structure MadeX (h h' : Heap) (e t C : Addr) (args : List Value) : Prop where
  keeps : ∀ b o, h.get? b = some o → h'.get? b = some o
  new : h.get? e = none
  there : ∃ oe, h'.get? e = some oe ∧ oe.cls = .ref C ∧ oe.data = .fields #[.ref t, .none, .none, .none, .bool false, .none]
  newt : h.get? t = none
  tup : h'.TupAt t args
theorem memKeep {h₀ h : Heap} {news : List (Addr × Obj)} (D : Mem h₀ h [] news) (b : Addr) (o : Obj) (e : h₀.get? b = some o) : h.get? b = some o :=
  D.keep b o e (by simp [away])
theorem memNew {h₀ h : Heap} {chg news : List (Addr × Obj)} (D : Mem h₀ h chg news) (i : Nat) (a : Addr) (o : Obj) (hi : news[i]? = some (a, o)) : h₀.get? a = none := (D.nw _ (List.mem_of_getElem? hi)).2
noncomputable def RetX (Q : Value → Shared → Prop) (s : Shared) (C : Addr) (args : List Value) : Prop := ∀ h' e t tk', MadeX s.heap h' e t C args → Q (.ref e) { s with heap := h', toks := tk' }
theorem RetX.close {Q : Value → Shared → Prop} {s : Shared} {C : Addr} {args : List Value} {h' : Heap} {tk' : Nat} {p0 p2 : Addr × Obj} {rest : List (Addr × Obj)} {t e : Addr} {ot oe : Obj} (HQ : RetX Q s C args) (DD : Mem s.heap h' [] (p0 :: (t, ot) :: p2 :: (e, oe) :: rest))
    (h1 : oe.cls = .ref C) (h2 : oe.data = .fields #[.ref t, .none, .none, .none, .bool false, .none]) (h3 : ot.cls = .type "tuple") (h4 : ot.data = .seq args.toArray 0) : Q (.ref e) { s with heap := h', toks := tk' } :=
  HQ _ _ _ _ ⟨memKeep DD, memNew DD 3 _ _ rfl, ⟨_, DD.at 3 _ _ rfl, h1, h2⟩, memNew DD 1 _ _ rfl, ⟨_, 0, DD.at 1 _ _ rfl, h3, h4⟩⟩
local macro_rules | `(tactic| x_close) => `(tactic| ((rename Mem _ _ _ _ => DD); (rename RetX _ _ _ _ => HQ); exact HQ.close DD rfl rfl rfl rfl))
theorem mk_exc44 (prog : Program) (w : World) (fr : Option (List Env)) (gd : Option (List Code)) (s : Shared) (x : Str) (tk : Tok) (Q E : Value → Shared → Prop)
   (X : (K w.params).In s.heap) (hq : RetX Q s 44 [.str x tk]) :
   Fill w →
   wpAny (model prog w) { handled := none, depth := 600, frames := fr, guards := gd, units := 3000 } (call (.ref 44) [.str x tk]) Q E s := by
  k_fill
  intro _
  x_run
theorem mk_exc68 (prog : Program) (w : World) (fr : Option (List Env)) (gd : Option (List Code)) (s : Shared) (x : Str) (tk : Tok) (Q E : Value → Shared → Prop)
   (X : (K w.params).In s.heap) (hq : RetX Q s 68 [.str x tk]) :
   Fill w →
   wpAny (model prog w) { handled := none, depth := 600, frames := fr, guards := gd, units := 3000 } (call (.ref 68) [.str x tk]) Q E s := by
  k_fill
  intro _
  x_run
end
section
open PySem.W.X
noncomputable def RaisableO (M : Model) (E : Value → Shared → Prop) (v : Value) (s₁ : Shared) : Prop :=
  ∃ a oe vs C, v = .ref a ∧ s₁.heap.get? a = some oe ∧ oe.cls = .ref C ∧ oe.data = .fields vs ∧ vs[1]? = some .none ∧ Looks M s₁.heap (isSubtype (.ref C) (.type "BaseException")) true ∧
    Looks M s₁.heap (typeOf (.ref C)) (.type "type") ∧ E (.ref a) s₁
theorem raise_own {M : Model} {A : Around} {E : Value → Shared → Prop} {s : Shared} {env : Env} {e : PySem.Expr} {pos : Pos} {Q : Flow → Shared → Prop} (hh : A.handled = none)
    (h : wpAny M A (eval e env) (RaisableO M E) E s) : wpAny M A (exec (.Raise (some e) none pos) env) Q E s := by
  show wpAny M A (do standAt pos; raiseStmt env (some (do let v ← eval e env; standAt pos; pure v)) none) Q E s
  refine wpAny_bind (wpAny_standAt ?_)
  unfold raiseStmt
  dsimp only
  refine wpAny_bind (wpAny_bind (wpAny_mono h (fun v s₁ h₁ => wpAny_bind (wpAny_standAt (wpAny_pure ?_))) fun _ _ x => x))
  refine hide _ fun hidP hidH => ?_
  obtain ⟨a, ob, vs, C, rfl, ha, hcls, hd, h1, hsub, hty, hE⟩ := h₁
  refine hidH ?_
  clear hidH
  have hnt : ∀ {Q' : Bool → Shared → Prop}, Q' false s₁ → wpAny M A (isType (.ref a)) Q' E s₁ := by
    intro Q' hq
    simp only [isType, loadHead]
    refine wpAny_bind (wpAny_loadPart ha ?_)
    rw [hd]; exact wpAny_pure hq
  refine wpAny_bind (wpAny_pure ?_)
  dsimp only
  refine wpAny_bind (wpAny_holding ?_)
  unfold excFromValue isExcClass
  refine wpAny_bind (wpAny_bind (hnt ?_))
  simp only [Bool.false_eq_true, if_false]
  refine wpAny_pure ?_
  simp only [Bool.false_eq_true, if_false]
  have hT : Looks M s₁.heap (typeOf (.ref a)) (.ref C) := by
    show Looks M s₁.heap (loadPart a (some headPart) >>= fun o => pure o.cls) (.ref C)
    refine (Looks.ld ha).andThen ?_
    rw [hcls]; exact .now
  refine wpAny_bind ((hT.andThen hsub : Looks M s₁.heap (isInstance (.ref a) (.type "BaseException")) true).here ?_)
  simp only [if_true]
  refine wpAny_pure ?_
  refine wpAny_bind (hnt ?_)
  simp only [Bool.false_eq_true, if_false]
  unfold raisedInstance
  refine wpAny_bind (wpAny_bind (hT.here (wpAny_bind (hty.here ?_))))
  rw [if_pos (by decide)]
  refine wpAny_pure ?_
  unfold setFlight raiseNew
  refine wpAny_bind (wpAny_bind (wpAny_field ha hd h1 ?_))
  rw [if_neg (by decide)]
  refine wpAny_pure (wpAny_bind (wpAny_handled ?_))
  rw [hh]
  first
    | exact wpAny_throw hE
    | exact wpAny_bind (wpAny_pure (wpAny_throw hE))
theorem leave_raiseX {M : Model} {A : Around} {E : Value → Shared → Prop} {s' : Shared} {base g h : Heap} {outer : List Env} {L a e t C : Addr} {m : Str → Option Value} {name : Str} {scope : Scope} {cd : Value} {Q : Unit → Shared → Prop} {news : List (Addr × Obj)}
    {vs : List Value} (K : Below A base outer g) (hx : MadeX h s'.heap e t C vs) (F : Fr g L h m) (N : News g L h news)
    (hQ : ∀ h' t, RaisedS base g outer e (.ref C) t vs news h' → g.UpToSlots h' → Q () { s' with heap := h' }) (hk : scope.kind = .function := by rfl) :
    wpAny M (A.deeper (envOf name scope L a cd)) (leaving (envOf name scope L a cd) (.ref e)) Q E s' := by
  have K' := K.push (name := name) (a := a) (cd := cd) F hk
  have hin : ∀ env ∈ (envOf name scope L a cd :: outer), ∀ b, env.frame = some b → b ∈ (envOf name scope L a cd :: outer).filterMap (·.frame) := fun env he b hb => List.mem_filterMap.mpr ⟨env, he, hb⟩
  have st : base.StaysIn (hideAll h ((envOf name scope L a cd :: outer).filterMap (·.frame))) := fun b o q => hideAll_get _ (K'.stays b o q) fun hm => by
    rw [(K'.frames.mem hm).1] at q; cases q
  have sg : ∀ b o, g.get? b = some o → b ∉ outer.filterMap (·.frame) → (hideAll h ((envOf name scope L a cd :: outer).filterMap (·.frame))).get? b = some o := fun b o q nm => hideAll_get _ (F.keep b o q) fun hm => by
    rcases kts_mem hm with z | z
    · rw [z, kts_self F] at q
      cases q
    · exact nm z
  have hl : ∀ q ∈ news, (hideAll h ((envOf name scope L a cd :: outer).filterMap (·.frame))).get? q.1 = some q.2 ∧ g.get? q.1 = none ∧ base.get? q.1 = none := fun q hq => by
    refine ⟨hideAll_get _ (N q hq).1 fun hm => ?_, (N q hq).2.2, fresh_of_stays K.stays (N q hq).2.2⟩
    obtain ⟨env, he, hf⟩ := List.mem_filterMap.mp hm
    rcases List.mem_cons.mp he with rfl | he
    · exact (N q hq).2.1 (Option.some.inj hf).symm
    · obtain ⟨o, ho, _⟩ := (K.frames.mem (List.mem_filterMap.mpr ⟨env, he, hf⟩)).2
      rw [(N q hq).2.2] at ho; cases ho
  refine hide _ fun hidP hidH => ?_
  obtain ⟨oe, he, hc, hd⟩ := hx.there
  refine hidH ?_
  clear hidH
  have fresh : ∀ b, h.get? b = none → (hideAll h ((envOf name scope L a cd :: outer).filterMap (·.frame))).get? b = none := fun b hb => by
    cases hq : (hideAll h ((envOf name scope L a cd :: outer).filterMap (·.frame))).get? b with
    | none => rfl
    | some o' => have := of_hideAll _ hq; rw [hb] at this; cases this
  have keep2 : ∀ b o, (hideAll h ((envOf name scope L a cd :: outer).filterMap (·.frame))).get? b = some o → s'.heap.get? b = some o := fun b o q => hx.keeps b o (of_hideAll _ q)
  refine wpAny_leaving_firstW (base := hideAll h ((envOf name scope L a cd :: outer).filterMap Env.frame)) (a0 := .ref t) K'.stack
    ((funFrames_hide K'.frames hin).of_keeps fun b o hb _ => ⟨o, hx.keeps b o hb, rfl⟩) rfl he keep2 (fresh e hx.new) hd rfl rfl fun h' hL => ?_
  refine hide _ fun hidP hidH => ?_
  obtain ⟨k1, ⟨_, _, k2⟩, k3, k4⟩ := hL
  refine hidH ?_
  clear hidH
  rw [hc] at k3
  exact hQ h' t ⟨⟨_, st, sg, hl, ⟨k1, fresh e hx.new, k2, k3⟩, fresh t hx.newt⟩, Heap.TupAt.of_slots hx.tup k4⟩
    (((Heap.UpToSlots.of_keeps F.keep).trans (Heap.UpToSlots.of_keeps hx.keeps)).trans k4)
theorem leave_onX {M : Model} {A : Around} {E : Value → Shared → Prop} {s' : Shared} {base g g₂ : Heap} {outer : List Env} {L a e t : Addr} {m : Str → Option Value} {name : Str} {scope : Scope} {cd cls : Value} {Q : Unit → Shared → Prop} {news : List (Addr × Obj)} {vs : List Value}
    (R : RaisedS base g₂ (envOf name scope L a cd :: outer) e cls t vs news s'.heap) (K : Below A base outer g) (F : Fr g L g₂ m) (hsm : g₂.UpToSlots s'.heap)
    (hQ : ∀ h', RaisedS base g outer e cls t vs news h' → g.UpToSlots h' → Q () { s' with heap := h' }) :
    wpAny M (A.deeper (envOf name scope L a cd)) (leaving (envOf name scope L a cd) (.ref e)) Q E s' := leave_onS K F R hsm fun h' a _ b => hQ h' a b
theorem words_PWw_0_1 : True := by
  k_with "W:leaving ref" => ((k_here; (rename RaisedS _ _ _ _ _ _ _ _ _ => rkX); k_dflt (refine' leave_onX rkX ?k1 ?k2 ?k3 ?_; (case k1 => assumption); (case k2 => assumption); (case k3 => assumption); k_whole); intro h'w R'w U'w; (try dsimp only at R'w U'w ⊢)))
  trivial
end
section
open PySem.W.X
section
variable {w : World} {A : Around} {s : Shared} {x : Str} {tk : Tok} {E : Value → Shared → Prop}
theorem raisable_of {C : Addr} {h' : Heap} {e t : Addr} {tk' : Nat} {vs : List Value} (X : (K w.params).In s.heap) (hs : subIn (K w.params) (.ref C) (.type "BaseException") = some true) (ht : typeIn (K w.params) (.ref C) = some (.type "type"))
    (hx : MadeX s.heap h' e t C vs) (hE : E (.ref e) { s with heap := h', toks := tk' }) : RaisableO (model PySem.Challenge.rw_pf0239_01.prog w) E (.ref e) { s with heap := h', toks := tk' } := by
  refine hide _ fun hidP hidH => ?_
  obtain ⟨oe, he, hc, hd⟩ := hx.there
  refine hidH ?_
  clear hidH
  exact ⟨e, oe, _, C, rfl, he, hc, hd, rfl, looks_subIn (X.keeps hx.keeps) hs, looks_typeIn (X.keeps hx.keeps) ht, hE⟩
theorem call44 {h₀ : Heap} {L : Addr} {m : Str → Option Value} (F : Fr h₀ L s.heap m) (X : (K w.params).In h₀) (hh : A.handled = none) (hd : A.depth ≤ 600) (hu : A.units ≤ 3000) (fl : Fill w)
    (h : ∀ h' e t tk', MadeX s.heap h' e t 44 [.str x tk] → E (.ref e) { s with heap := h', toks := tk' }) :
    wpAny (model PySem.Challenge.rw_pf0239_01.prog w) A (call (.ref 44) [.str x tk]) (RaisableO (model PySem.Challenge.rw_pf0239_01.prog w) E) E s := by
  refine weaken 600 3000 hd hu ?_
  refine hide _ fun hidP hidH => ?_
  obtain ⟨hand, dp, fr, gd, un⟩ := A
  refine hidH ?_
  clear hidH
  obtain rfl : hand = none := hh
  have X' := X.keeps F.keep
  refine mk_exc44 _ w fr gd s x tk _ _ X' (fun h' e t tk' hx => raisable_of X' ?_ ?_ hx (h h' e t tk' hx)) fl
  · kernel_rfl
  · kernel_rfl
theorem call68 {h₀ : Heap} {L : Addr} {m : Str → Option Value} (F : Fr h₀ L s.heap m) (X : (K w.params).In h₀) (hh : A.handled = none) (hd : A.depth ≤ 600) (hu : A.units ≤ 3000) (fl : Fill w)
    (h : ∀ h' e t tk', MadeX s.heap h' e t 68 [.str x tk] → E (.ref e) { s with heap := h', toks := tk' }) :
    wpAny (model PySem.Challenge.rw_pf0239_01.prog w) A (call (.ref 68) [.str x tk]) (RaisableO (model PySem.Challenge.rw_pf0239_01.prog w) E) E s := by
  refine weaken 600 3000 hd hu ?_
  refine hide _ fun hidP hidH => ?_
  obtain ⟨hand, dp, fr, gd, un⟩ := A
  refine hidH ?_
  clear hidH
  obtain rfl : hand = none := hh
  have X' := X.keeps F.keep
  refine mk_exc68 _ w fr gd s x tk _ _ X' (fun h' e t tk' hx => raisable_of X' ?_ ?_ hx (h h' e t tk' hx)) fl
  · kernel_rfl
  · kernel_rfl
end
end
theorem words_PWw_0_2 : True := by
  k_with "W:exec Raise some none" => ((k_here; (with_reducible show wpAny _ _ (exec (Stmt.Raise (some (Expr.Call (Expr.Name _ _) (_ :: _) [] _)) none _) _) _ _ _); k_dflt (refine raise_own ?hh ?_; (case hh => exact rfl))))
  k_with "W:call ref" => ((k_here; (with_reducible show wpAny _ _ (call (Value.ref 44) [Value.str _ _]) _ _ _); k_dflt (refine' call44 ?k1 ?k2 ?k3 ?k4 ?k5 ?k6 ?_; (case k1 => k_asm); (case k2 => k_asm); (case k3 => exact rfl); (case k4 => ktr_room); (case k5 => ktr_units); (case k6 => assumption); intro h'w e'w t'w tk'w hx'w)))
  k_with "W:call ref" => ((k_here; (with_reducible show wpAny _ _ (call (Value.ref 68) [Value.str _ _]) _ _ _); k_dflt (refine' call68 ?k1 ?k2 ?k3 ?k4 ?k5 ?k6 ?_; (case k1 => k_asm); (case k2 => k_asm); (case k3 => exact rfl); (case k4 => ktr_room); (case k5 => ktr_units); (case k6 => assumption); intro h'w e'w t'w tk'w hx'w)))
  k_with "W:leaving ref" => ((k_here; (rename MadeX _ _ _ _ _ _ => hmx); k_dflt (refine' leave_raiseX ?k1 hmx ?k2 ?k3 ?_; (case k1 => assumption); (case k2 => assumption); (case k3 => k_asm); k_whole; intro h'w t'w R'w U'w; (try dsimp only at R'w U'w ⊢))))
  trivial
theorem Cn.use {w : World} {D : Nat} {f : Addr} {vs : List Value} {news : List (Addr × Obj)} {R : Value → List (Addr × Obj) → Prop} {X : Addr → Prop} (c : Cn w D f vs news R X)
    {loose : List Str} {mean : ExcName → Option Value} {mg mb : Str → Option Value} {dp un : Nat} {gd : Option (List Code)} {cn : Str} {cs : Scope} {a : Addr} {ccd : Value} {cl : List (Str × Addr)} {outer : List Env} {A₀ : Around} {base h₀ : Heap} {L : Addr} {m : Str → Option Value} {s : Shared} {Q E : Value → Shared → Prop}
    (B : Below A₀ base outer h₀) (F : Fr h₀ L s.heap m) (K' : (K w.params).In h₀) (N : News h₀ L s.heap news) (T : Top topProg loose mean mg mb h₀) (hk : cs.kind = .function) (hd : dp + D < 500) (hu : un + 8 * D < 2000) (fl : Fill w)
    (ret : ∀ v news' h' tk', R v news' → Fr h₀ L h' m → News h₀ L h' news' → Q v { s with heap := h', toks := tk' })
    (err : ∀ C e t vs' h' tk' g₂, X C → Fr h₀ L g₂ m → RaisedS base g₂ (envX cn cs L a ccd cl :: outer) e (.ref C) t vs' news h' → g₂.UpToSlots h' → E (.ref e) { s with heap := h', toks := tk' }) :
    wpAny (model PySem.Challenge.rw_pf0239_01.prog w) (ktrTop dp un gd cn cs L a ccd cl outer) (call (.ref f) vs) Q E s :=
  c _ _ _ _ _ _ _ _ _ _ _ _ _ _ _ _ _ _ _ _ _ B F K' N T hk hd hu ret err fl
theorem want_c (w : World) (b : Bool) (x : Str) (tk : Tok) (news : List (Addr × Obj)) :
    Cn w 4 203 [.bool b, .str x tk] news (fun v n' => v = .none ∧ n' = news ∧ b = true) (fun C => C = 44 ∧ b = false) := by
  unfold Cn
  intro loose mean mg mb dp un gd cn cs a ccd cl outer A₀ base h₀ L m s Q E B F X N T hk hdp hun hret herr
  unfold Fill
  k_fill
  intro hfill
  refine wpAny_call ?_
  k_dflt cell_enter
  k_steps
  · exact hret _ _ _ _ ⟨rfl, rfl, by assumption⟩ (by k_asm) (by k_asm)
  · exact herr _ _ _ _ _ _ _ ⟨rfl, by assumption⟩ (by k_asm) (by assumption) (by assumption)
theorem want_u (w : World) (b : Bool) (x : Str) (tk : Tok) (news : List (Addr × Obj)) :
    CnP w 4 203 [.bool b, .str x tk] news (fun K => (b = true) → K (.none) (news)) (fun K => (b = false) → K 44) :=
  Cn.toP (want_c w b x tk news) (by rintro K k _ _ ⟨rfl, rfl, hc1⟩; exact k hc1) (by rintro K k _ ⟨rfl, h⟩; exact k h)
noncomputable def ItO (o : Obj) : Prop := o.cls ≠ .none ∧ ∀ vs x t, o.data = .fields vs → vs[1]? ≠ some (.str x t)
theorem itO_range {a b c : Int} : ItO { cls := .type "range_iterator", dict := none, data := .fields #[rawInt a, rawInt b, rawInt c], slots := #[] } :=
  ⟨fun z => (nomatch z), fun vs x t e h => by cases e; simp [rawInt] at h⟩
section
variable {prog : Program} {w : World} {A : Around} {E : Value → Shared → Prop} {s : Shared} {env : Env} {h₀ : Heap} {x : Str} {body : List Stmt} {Q : Flow → Shared → Prop}
/-- what a turn must show at its end -/
noncomputable def EndJ (h₀ : Heap) (L I : Addr) (oI : Obj) (Jn : (Str → Option Value) → List (Addr × Obj) → Prop) (s₁ : Shared) (s₂ : Shared) : Prop :=
  ∃ h' tk m' news', s₂ = { s₁ with heap := h', toks := tk } ∧ Fr h₀ L h' m' ∧ News h₀ L h' ((I, oI) :: news') ∧ (∀ p ∈ news', p.1 ≠ I) ∧ Jn m' news'
noncomputable def PostJ (h₀ : Heap) (L I : Addr) (oI : Obj) (Jn : (Str → Option Value) → List (Addr × Obj) → Prop) (s₁ : Shared) (Q : Flow → Shared → Prop) (f : Flow) (s₂ : Shared) : Prop :=
  match f with
  | .ret v => Q (.ret v) s₂
  | .brk => Q .next s₂
  | _ => EndJ h₀ L I oI Jn s₁ s₂
theorem EndJ.intro {L I : Addr} {oI : Obj} {Jn : (Str → Option Value) → List (Addr × Obj) → Prop} {s₁ : Shared} {h' : Heap} {tk : Nat} {m' : Str → Option Value} {news' : List (Addr × Obj)}
    (F : Fr h₀ L h' m') (N : News h₀ L h' ((I, oI) :: news')) (hn : ∀ p ∈ news', p.1 ≠ I) (hJ : Jn m' news') : EndJ h₀ L I oI Jn s₁ { s₁ with heap := h', toks := tk } := ⟨h', tk, m', news', rfl, F, N, hn, hJ⟩
theorem fin_two {h₀ hh' : Heap} {L I l : Addr} {oI oL : Obj} {own : List (Addr × Obj)} {Jn : (Str → Option Value) → List (Addr × Obj) → Prop} {s₁ s₂ : Shared} (hown : ∀ p ∈ own, p.1 ∈ [I, l]) (hget : ∀ p ∈ own, hh'.get? p.1 = some p.2) (hoI : hh'.get? I = some oI) (hlo : hh'.get? l = some oL)
    (keep : ∀ m n, Jn m n → (l, oL) ∈ n) (hz : EndJ h₀ L I oI Jn s₁ s₂) : LoopStepU h₀ L [I] own Jn s₁ .next s₂ := by
  refine hide _ fun hidP hidH => ?_
  obtain ⟨h', tk, m', news', e, F', N', hn, hm⟩ := hz
  refine hidH ⟨rfl, h', tk, m', news', e, F', fun p hp => ?_, fun p hp hq => hn p hp (List.mem_singleton.mp hq), hm⟩
  rcases List.mem_append.mp hp with h | h
  · have h2 := hget p h
    rcases List.mem_cons.mp (hown p h) with h1 | h1
    · rw [h1, hoI] at h2
      rw [show p = (I, oI) from Prod.ext h1 (Option.some.inj h2).symm]; exact N' _ (.head _)
    · have h1 := List.mem_singleton.mp h1
      rw [h1, hlo] at h2
      rw [show p = (l, oL) from Prod.ext h1 (Option.some.inj h2).symm]; exact N' _ (.tail _ (keep _ _ hm))
  · exact N' p (.tail _ h)
theorem iterJ_list {l : Addr} {vs : List Value} {nn : Nat} {m₀ : Str → Option Value} {news : List (Addr × Obj)} (J : Nat → (Str → Option Value) → List (Addr × Obj) → Prop)
    (hh : A.handled = none) (hl : (l, listOf vs.toArray nn) ∈ news) (F : Fr h₀ env.locals s.heap m₀) (N : News h₀ env.locals s.heap news) (hj : J 0 m₀ news)
    (keepl : ∀ i m₁ news₁, J i m₁ news₁ → (l, listOf vs.toArray nn) ∈ news₁)
    (turn : ∀ i v m₁ news₁ I oI h tk, vs[i]? = some v → J i m₁ news₁ → (∀ p ∈ news₁, p.1 ≠ I) → Fr h₀ env.locals h (fun y => if y = x then some v else m₁ y) → News h₀ env.locals h ((I, oI) :: news₁) →
      wpAny (model prog w) A (execs body env) (PostJ h₀ env.locals I oI (J (i + 1)) { s with heap := h, toks := tk } Q) E { s with heap := h, toks := tk })
    (done : ∀ m₁ news₁ h tk, J vs.length m₁ news₁ → Fr h₀ env.locals h m₁ → News h₀ env.locals h news₁ → Q .next { s with heap := h, toks := tk }) :
    wpAny (model prog w) A (pyIter (.ref l)) (fun it s₂ => LoopAtV prog w A h₀ env x body Q E it s₂) E s := by
  have hol : s.heap.get? l = some (listOf vs.toArray nn) := (N _ hl).1
  have hls : s.heap.IsList l vs.toArray := ⟨_, hol, rfl, nn, rfl⟩
  have hne : l ≠ s.heap.objs.size := Nat.ne_of_lt (Heap.lt_size hol)
  refine wpAny_pyIter_list hls ?_
  have W := Walks.list (prog := prog) (w := w) hh s.heap.objs.size l hne vs.toArray
  have hlen : vs.toArray.size = vs.length := by simp
  rw [hlen] at W
  refine ⟨_, _, _, vs.length, _, _, m₀, news, J, rfl, W, ?_, ?_, ?_, ⟨⟨_, Heap.get?_push_size _ rfl, rfl, rfl⟩, hls.at fun o e => Heap.get?_push_of_some _ e⟩, F.push _, (fun p hp => ⟨Heap.get?_push_of_some _ (N p hp).1, (N p hp).2⟩), hj, ?_, ?_⟩
  · intro hm
    rcases List.mem_cons.mp hm with e | hm
    · exact absurd F.ns.lt (e ▸ Nat.lt_irrefl _)
    · exact (N _ hl).2.1 ((List.mem_singleton.mp hm).symm)
  · intro b hb
    rw [List.mem_singleton.mp hb]
    exact next_is_new F
  · intro p hp hI
    exact absurd (Heap.lt_size (N p hp).1) ((List.mem_singleton.mp hI) ▸ Nat.lt_irrefl _)
  · rintro i v m₁ news₁ s₁ own ⟨hh', tk', rfl⟩ hin hP hJ hoff hown hget hfp st F₁ N₁
    refine hide _ fun hidP hidH => ?_
    obtain ⟨⟨oI, hoI, _⟩, _⟩ := id st
    refine hidH ?_
    clear hidH
    have hIn : h₀.get? s.heap.objs.size = none := next_is_new F
    have hmI : (s.heap.objs.size, oI) ∈ own := hfp _ (by simp) hIn oI hoI
    have hl₁ := keepl i m₁ news₁ hJ
    have hlo : hh'.get? l = some (listOf vs.toArray nn) := (N₁ _ (List.mem_append.mpr (.inr hl₁))).1
    have hP' : vs[i]? = some v := by simpa using hP
    have N₂ : News h₀ env.locals hh' ((s.heap.objs.size, oI) :: news₁) := fun p hp => N₁ p ((List.mem_cons.mp hp).elim (fun h => List.mem_append.mpr (.inl (h ▸ hmI))) fun h => List.mem_append.mpr (.inr h))
    refine wpAny_mono (turn i v m₁ news₁ s.heap.objs.size oI hh' tk' hP' hJ (fun p hp e => hoff p hp (by rw [e]; exact .head _)) F₁ N₂) (fun f s₂ p => ?_) fun _ _ e => e
    have fin : EndJ h₀ env.locals s.heap.objs.size oI (J (i + 1)) { s with heap := hh', toks := tk' } s₂ → LoopStepU h₀ env.locals [s.heap.objs.size] own (J (i + 1)) { s with heap := hh', toks := tk' } .next s₂ :=
      fun hz => fin_two hown hget hoI hlo (fun _ _ hm => keepl _ _ _ hm) hz
    cases f with
    | ret v => exact .ret p
    | brk => exact .brk p
    | next => exact .next (fin p)
    | cont => exact .cont (fin p)
  · rintro h' tk m' news' F' N' _ hJ
    exact done m' news' h' tk hJ F' N'
theorem iterJ_rangeO {r : Addr} {a₀ b₀ : Int} {t₀ u₀ v₀ : Tok} {n : Nat} {m₀ : Str → Option Value} {news : List (Addr × Obj)} (J : Nat → (Str → Option Value) → List (Addr × Obj) → Prop)
    (hh : A.handled = none) (hr : IsRange s.heap r a₀ b₀ 1 t₀ u₀ v₀) (hsmall : Builtin.Range.small a₀ b₀ 1 = true) (hn : Builtin.Range.rangeSize a₀ b₀ 1 = (n : Int)) (F : Fr h₀ env.locals s.heap m₀) (N : News h₀ env.locals s.heap news) (hj : J 0 m₀ news)
    (turn : ∀ i t m₁ news₁ I oI h tk, i < n → J i m₁ news₁ → (∀ p ∈ news₁, p.1 ≠ I) → Fr h₀ env.locals h (fun y => if y = x then some (.int (a₀ + (i : Int)) t) else m₁ y) → News h₀ env.locals h ((I, oI) :: news₁) → ItO oI →
      wpAny (model prog w) A (execs body env) (PostJ h₀ env.locals I oI (J (i + 1)) { s with heap := h, toks := tk } Q) E { s with heap := h, toks := tk })
    (done : ∀ m₁ news₁ h tk, J n m₁ news₁ → Fr h₀ env.locals h m₁ → News h₀ env.locals h news₁ → Q .next { s with heap := h, toks := tk }) :
    wpAny (model prog w) A (pyIter (.ref r)) (fun it s₂ => LoopAtV prog w A h₀ env x body Q E it s₂) E s := by
  refine wpAny_pyIter_range hr hsmall ?_
  have W : Walks prog w A s.heap.objs.size [s.heap.objs.size] [s.heap.objs.size] n (fun i v => i < n ∧ ∃ t, v = .int (a₀ + i * 1) t)
      (fun i h => IsRangeIter h s.heap.objs.size (a₀ + (i : Nat) * 1) ((n : Int) - (i : Nat)) 1) := (Walks.range hh _ a₀ 1 n).bound
  refine ⟨_, _, _, n, _, _, m₀, news, J, rfl, W, ?_, ?_, ?_, (by show IsRangeIter _ _ _ _ _; rw [hn]; simpa using Heap.get?_push_size _ rfl), F.push _, (fun p hp => ⟨Heap.get?_push_of_some _ (N p hp).1, (N p hp).2⟩), hj, ?_, ?_⟩
  · intro hm
    exact absurd F.ns.lt ((List.mem_singleton.mp hm) ▸ Nat.lt_irrefl _)
  · intro b hb
    rw [List.mem_singleton.mp hb]
    exact next_is_new F
  · intro p hp hI
    exact absurd (Heap.lt_size (N p hp).1) ((List.mem_singleton.mp hI) ▸ Nat.lt_irrefl _)
  · rintro i v m₁ news₁ s₁ own ⟨hh', tk', rfl⟩ hin ⟨_, t, rfl⟩ hJ hoff hown hget hfp st F₁ N₁
    have hIn : h₀.get? s.heap.objs.size = none := next_is_new F
    obtain ⟨oI, hoI, hit⟩ : ∃ oI, hh'.get? s.heap.objs.size = some oI ∧ ItO oI := ⟨_, st, itO_range⟩
    have hmI := hfp _ (by simp) hIn _ hoI
    have N₂ : News h₀ env.locals hh' ((s.heap.objs.size, oI) :: news₁) := fun p hp => N₁ p ((List.mem_cons.mp hp).elim (fun h => List.mem_append.mpr (.inl (h ▸ hmI))) fun h => List.mem_append.mpr (.inr h))
    rw [show a₀ + (i : Int) * 1 = a₀ + (i : Int) by omega] at F₁
    refine wpAny_mono (turn i t m₁ news₁ s.heap.objs.size oI hh' tk' hin hJ (fun p hp e => hoff p hp (by rw [e]; exact .head _)) F₁ N₂ hit) (fun f s₂ p => ?_) fun _ _ e => e
    have fin : EndJ h₀ env.locals s.heap.objs.size oI (J (i + 1)) { s with heap := hh', toks := tk' } s₂ → LoopStepU h₀ env.locals [s.heap.objs.size] own (J (i + 1)) { s with heap := hh', toks := tk' } .next s₂ := by
      intro hz1
      refine hide _ fun hidP hidH => ?_
      obtain ⟨h', tk, m', news', e, F', N', hn, hm⟩ := hz1
      refine hidH ?_
      clear hidH
      refine ⟨rfl, h', tk, m', news', e, F', fun p hp => ?_, fun p hp hq => hn p hp (List.mem_singleton.mp hq), hm⟩
      rcases List.mem_append.mp hp with h | h
      · have h2 : hh'.get? p.1 = some p.2 := hget p h
        have h1 := List.mem_singleton.mp (hown p h)
        rw [h1, hoI] at h2
        have h3 : p = (s.heap.objs.size, oI) := Prod.ext h1 (Option.some.inj h2).symm
        rw [h3]; exact N' _ (.head _)
      · exact N' p (.tail _ h)
    cases f with
    | ret v => exact .ret p
    | brk => exact .brk p
    | next => exact .next (fin p)
    | cont => exact .cont (fin p)
  · rintro h' tk m' news' F' N' _ hJ
    exact done m' news' h' tk hJ F' N'
theorem iterJ_range {r : Addr} {a₀ b₀ : Int} {t₀ u₀ v₀ : Tok} {n : Nat} {m₀ : Str → Option Value} {news : List (Addr × Obj)} (J : Nat → (Str → Option Value) → List (Addr × Obj) → Prop)
    (hh : A.handled = none) (hr : IsRange s.heap r a₀ b₀ 1 t₀ u₀ v₀) (hsmall : Builtin.Range.small a₀ b₀ 1 = true) (hn : Builtin.Range.rangeSize a₀ b₀ 1 = (n : Int)) (F : Fr h₀ env.locals s.heap m₀) (N : News h₀ env.locals s.heap news) (hj : J 0 m₀ news)
    (turn : ∀ i t m₁ news₁ I oI h tk, i < n → J i m₁ news₁ → (∀ p ∈ news₁, p.1 ≠ I) → Fr h₀ env.locals h (fun y => if y = x then some (.int (a₀ + (i : Int)) t) else m₁ y) → News h₀ env.locals h ((I, oI) :: news₁) →
      wpAny (model prog w) A (execs body env) (PostJ h₀ env.locals I oI (J (i + 1)) { s with heap := h, toks := tk } Q) E { s with heap := h, toks := tk })
    (done : ∀ m₁ news₁ h tk, J n m₁ news₁ → Fr h₀ env.locals h m₁ → News h₀ env.locals h news₁ → Q .next { s with heap := h, toks := tk }) :
    wpAny (model prog w) A (pyIter (.ref r)) (fun it s₂ => LoopAtV prog w A h₀ env x body Q E it s₂) E s :=
  iterJ_rangeO J hh hr hsmall hn F N hj (fun i t m₁ news₁ I oI h tk a b c d e _ => turn i t m₁ news₁ I oI h tk a b c d e) done
end
local macro_rules | `(tactic| ktr_rel) => `(tactic| first | k_asm | (refine cb_drop (by assumption) ?_; intro p9 hp9; repeat (first | exact hp9 | apply List.mem_cons_of_mem)))
theorem is_frame_c (w : World) (c : Int) (tc : Tok) (news : List (Addr × Obj)) :
    Cn w 2 77 [.int c tc] news (fun v n' => v = .bool (decide (192 ≤ c ∧ c ≤ 207 ∧ c ≠ 196 ∧ c ≠ 200 ∧ c ≠ 204)) ∧ n' = news) (fun _ => False) := by
  unfold Cn
  intro loose mean mg mb dp un gd cn cs a ccd cl outer A₀ base h₀ L m s Q E B F X N T hk hdp hun hret herr
  unfold Fill
  k_fill
  intro hfill
  refine wpAny_call ?_
  k_dflt cell_enter
  k_steps
  all_goals (refine hret _ _ _ _ ⟨congrArg Value.bool ?_, rfl⟩ (by k_asm) (by ktr_rel))
  all_goals (rw [Bool.eq_iff_iff]; try (first | done | simp only [List.any_cons, List.any_nil, Bool.not_eq_true', Bool.or_false, Bool.or_eq_false_iff, Bool.or_eq_true, Bool.and_eq_true, beq_eq_false_iff_ne, decide_eq_true_eq, decide_eq_false_iff_not, beq_iff_eq, ne_eq, Bool.not_eq_true, Bool.false_eq_true, iff_true, true_iff, iff_false, false_iff] at *); try first | omega | (constructor <;> intro hz <;> omega))
theorem is_frame_u (w : World) (c : Int) (tc : Tok) (news : List (Addr × Obj)) :
    CnP w 2 77 [.int c tc] news (fun K => K (.bool (decide (192 ≤ c ∧ c ≤ 207 ∧ c ≠ 196 ∧ c ≠ 200 ∧ c ≠ 204))) (news)) (fun _ => True) :=
  Cn.toP (is_frame_c w c tc news) (by rintro K k _ _ ⟨rfl, rfl⟩; exact k ) (fun _ _ _ h => h.elim)
theorem is_lossless_c (w : World) (c : Int) (tc : Tok) (news : List (Addr × Obj)) :
    Cn w 2 210 [.int c tc] news (fun v n' => v = .bool (decide (Int.fmod c 4 = 3)) ∧ n' = news) (fun _ => False) := by
  unfold Cn
  intro loose mean mg mb dp un gd cn cs a ccd cl outer A₀ base h₀ L m s Q E B F X N T hk hdp hun hret herr
  unfold Fill
  k_fill
  intro hfill
  refine wpAny_call ?_
  k_dflt cell_enter
  k_steps
  all_goals (refine hret _ _ _ _ ⟨congrArg Value.bool ?_, rfl⟩ (by k_asm) (by ktr_rel))
  all_goals (rw [Bool.eq_iff_iff]; try (first | done | simp only [List.any_cons, List.any_nil, Bool.not_eq_true', Bool.or_false, Bool.or_eq_false_iff, Bool.or_eq_true, Bool.and_eq_true, beq_eq_false_iff_ne, decide_eq_true_eq, decide_eq_false_iff_not, beq_iff_eq, ne_eq, Bool.not_eq_true, Bool.false_eq_true, iff_true, true_iff, iff_false, false_iff] at *); try first | omega | (constructor <;> intro hz <;> omega))
theorem is_lossless_u (w : World) (c : Int) (tc : Tok) (news : List (Addr × Obj)) :
    CnP w 2 210 [.int c tc] news (fun K => K (.bool (decide (Int.fmod c 4 = 3))) (news)) (fun _ => True) :=
  Cn.toP (is_lossless_c w c tc news) (by rintro K k _ _ ⟨rfl, rfl⟩; exact k ) (fun _ _ _ h => h.elim)
theorem words_PWw_0_3 : True := by
  k_with "W:call ref" => ((k_here; (with_reducible show wpAny _ _ (call (Value.ref 203) [Value.bool _, Value.str _ _]) _ _ _); k_dflt (refine' want_u _ _ _ _ _  _ _ _ _ _ _ _ _ _ _ _ _ _ _ _ _ _ _ _ _ _ ?k1 ?k2 ?k3 ?k4 ?k5 ?k6 ?k7 ?k8 ?_ ?_ ?k9; (case k1 => k_asm); (case k2 => k_asm); (case k3 => k_asm); (case k4 => k_asm); (case k5 => k_asm); (case k6 => first | exact rfl | assumption); (case k7 => ktr_room); (case k8 => ktr_units); (case k9 => assumption); (focus (intro hb'w h'w tk'w F'w N'w; (try (exfalso; (simp only [decide_eq_true_eq, decide_eq_false_iff_not, Bool.and_eq_true] at hb'w); omega)); (try dsimp only); (try k_fold))); rotate_left; (intro hX'w e'w t'w vs'w h'w tk'w g'w F'w R'w U'w; (try dsimp only); (try k_fold)); rotate_left)))
  k_with "W:call ref" => ((k_here; (with_reducible show wpAny _ _ (call (Value.ref 77) [Value.int _ _]) _ _ _); k_dflt (refine' is_frame_u _ _ _ _  _ _ _ _ _ _ _ _ _ _ _ _ _ _ _ _ _ _ _ _ _ ?k1 ?k2 ?k3 ?k4 ?k5 ?k6 ?k7 ?k8 ?_ ?_ ?k9; (case k1 => k_asm); (case k2 => k_asm); (case k3 => k_asm); (case k4 => k_asm); (case k5 => k_asm); (case k6 => first | exact rfl | assumption); (case k7 => ktr_room); (case k8 => ktr_units); (case k9 => assumption); (focus (intro h'w tk'w F'w N'w; (try dsimp only); (try k_fold))); rotate_left; (exact trivial))))
  k_with "W:call ref" => ((k_here; (with_reducible show wpAny _ _ (call (Value.ref 210) [Value.int _ _]) _ _ _); k_dflt (refine' is_lossless_u _ _ _ _  _ _ _ _ _ _ _ _ _ _ _ _ _ _ _ _ _ _ _ _ _ ?k1 ?k2 ?k3 ?k4 ?k5 ?k6 ?k7 ?k8 ?_ ?_ ?k9; (case k1 => k_asm); (case k2 => k_asm); (case k3 => k_asm); (case k4 => k_asm); (case k5 => k_asm); (case k6 => first | exact rfl | assumption); (case k7 => ktr_room); (case k8 => ktr_units); (case k9 => assumption); (focus (intro h'w tk'w F'w N'w; (try dsimp only); (try k_fold))); rotate_left; (exact trivial))))
  trivial
theorem is_precision_c (w : World) (c p : Int) (tc tp : Tok) (news : List (Addr × Obj)) :
    Cn w 5 217 [.int c tc, .int p tp] news (fun v n' => v = .bool (decide (if Int.fmod c 4 = 3 then 2 ≤ p ∧ p ≤ 16 else p = 8 ∨ (p = 12 ∧ c ≠ 192))) ∧ n' = news) (fun _ => False) := by
  unfold Cn
  intro loose mean mg mb dp un gd cn cs a ccd cl outer A₀ base h₀ L m s Q E B F X N T hk hdp hun hret herr
  unfold Fill
  k_fill
  intro hfill
  refine wpAny_call ?_
  k_dflt cell_enter
  k_steps
  all_goals (refine hret _ _ _ _ ⟨congrArg Value.bool ?_, rfl⟩ (by k_asm) (by ktr_rel))
  all_goals (rw [Bool.eq_iff_iff]; (try simp only [Bool.not_eq_true', beq_eq_false_iff_ne, decide_eq_true_eq, decide_eq_false_iff_not, beq_iff_eq, bne_iff_ne, ne_eq] at *); (try split) <;> omega)
theorem is_precision_u (w : World) (c p : Int) (tc tp : Tok) (news : List (Addr × Obj)) :
    CnP w 5 217 [.int c tc, .int p tp] news (fun K => K (.bool (decide (if Int.fmod c 4 = 3 then 2 ≤ p ∧ p ≤ 16 else p = 8 ∨ (p = 12 ∧ c ≠ 192)))) (news)) (fun _ => True) :=
  Cn.toP (is_precision_c w c p tc tp news) (by rintro K k _ _ ⟨rfl, rfl⟩; exact k ) (fun _ _ _ h => h.elim)
section
variable {prog : Program} {w : World} {A : Around} {E : Value → Shared → Prop} {s : Shared} {env : Env} {h₀ : Heap} {x : Str} {body : List Stmt} {Q : Flow → Shared → Prop}
theorem iterD_range {σ : Type} (U : σ → Str → Option Value) (R : Nat → σ → List (Addr × Obj) → Prop) {r : Addr} {a₀ b₀ : Int} {t₀ u₀ v₀ : Tok} {n : Nat} {m₀ : Str → Option Value} {news : List (Addr × Obj)}
    (hh : A.handled = none) (hr : IsRange s.heap r a₀ b₀ 1 t₀ u₀ v₀) (hsmall : Builtin.Range.small a₀ b₀ 1 = true) (hn : Builtin.Range.rangeSize a₀ b₀ 1 = (n : Int)) (F : Fr h₀ env.locals s.heap m₀) (N : News h₀ env.locals s.heap news)
    (hj : ∃ d, (∀ z, z ≠ x → m₀ z = U d z) ∧ R 0 d news)
    (turn : ∀ i t d news₁ I oI h tk, i < n → R i d news₁ → (∀ p ∈ news₁, p.1 ≠ I) → Fr h₀ env.locals h (fun y => if y = x then some (.int (a₀ + (i : Int)) t) else U d y) → News h₀ env.locals h ((I, oI) :: news₁) →
      wpAny (model prog w) A (execs body env) (PostJ h₀ env.locals I oI (fun m' n' => ∃ d', (∀ z, z ≠ x → m' z = U d' z) ∧ R (i + 1) d' n') { s with heap := h, toks := tk } Q) E { s with heap := h, toks := tk })
    (done : ∀ d (u : Str → Option Value) news₁ h tk, R n d news₁ → Fr h₀ env.locals h (fun y => if y = x then u y else U d y) → News h₀ env.locals h news₁ → Q .next { s with heap := h, toks := tk }) :
    wpAny (model prog w) A (pyIter (.ref r)) (fun it s₂ => LoopAtV prog w A h₀ env x body Q E it s₂) E s := by
  refine iterJ_range (fun i m n' => ∃ d, (∀ z, z ≠ x → m z = U d z) ∧ R i d n') hh hr hsmall hn F N hj ?_ ?_
  · rintro i t m₁ n₁ I oI h tk hv ⟨d, hm, hR⟩ hI F₁ N₁
    have e : (fun y => if y = x then some (Value.int (a₀ + (i : Int)) t) else m₁ y) = fun y => if y = x then some (Value.int (a₀ + (i : Int)) t) else U d y := by
      funext y
      by_cases hy : y = x
      · simp [hy]
      · simp only [if_neg hy]; exact hm y hy
    rw [e] at F₁
    exact turn i t d n₁ I oI h tk hv hR hI F₁ N₁
  · rintro m₁ n₁ h tk ⟨d, hm, hR⟩ F₁ N₁
    have e : m₁ = fun y => if y = x then m₁ y else U d y := by
      funext y
      by_cases hy : y = x
      · simp [hy]
      · simp only [if_neg hy]; exact hm y hy
    rw [e] at F₁
    exact done d m₁ n₁ h tk hR F₁ N₁
theorem range0_size (n : Nat) : Builtin.Range.rangeSize 0 (n : Int) 1 = (n : Int) := by
  have := rangeSize_nat 0 n
  first | exact this | simpa using this
end
section
variable {prog : Program} {w : World} {A : Around} {E : Value → Shared → Prop} {s : Shared} {h₀ : Heap} {L l : Addr} {m : Str → Option Value} {news : List (Addr × Obj)} {vs : List Value} {ns : List Int} {nn : Nat} {Q : Value → Shared → Prop}
theorem ledList (N : News h₀ L s.heap news) (hm : (l, listOf vs.toArray nn) ∈ news) : s.heap.IsList l vs.toArray := ⟨_, (N _ hm).1, rfl, nn, rfl⟩
theorem len_led (N : News h₀ L s.heap news) (hm : (l, listOf vs.toArray nn) ∈ news) (hfit : vs.length < 2 ^ 62) (h : Q (.int vs.length (s.toks + 1)) { s with toks := s.toks + 1 + 1 }) :
    wpAny (model prog w) A (call (.builtin "len") [.ref l]) Q E s :=
  call_len_list (ledList N hm) (by rw [List.size_toArray]; omega) (by rw [List.size_toArray]; exact h)
theorem len_ints (N : News h₀ L s.heap news) (hm : (l, listOf vs.toArray nn) ∈ news) (hi : IntsAre vs ns) (hfit : ns.length < 2 ^ 62) (h : Q (.int ns.length (s.toks + 1)) { s with toks := s.toks + 1 + 1 }) :
    wpAny (model prog w) A (call (.builtin "len") [.ref l]) Q E s :=
  len_led N hm (by rw [hi.length]; exact hfit) (by rw [hi.length]; exact h)
theorem item_ints {value slice : PySem.Expr} {k : Int} {u : Tok} (N : News h₀ L s.heap news) (hm : (l, listOf vs.toArray nn) ∈ news) (hi : IntsAre vs ns) (h0 : 0 ≤ k) (h1 : k < ns.length) (hfit : ns.length < 2 ^ 62)
    (h : ∀ t, Q (.int (ns.getD k.toNat 0) t) s)
    (hs : subscripted slice false (.ref l) (.int k u) = operate [.ref l, .int k u] (getItem (.ref l) (.int k u)) := by with_unfolding_all rfl) :
    wpAny (model prog w) A (subscriptTail value slice (.ref l) (.int k u)) Q E s := by
  have hl := ledList N hm
  have hk : k.toNat < ns.length := by omega
  obtain ⟨t, hx⟩ := hi.get k.toNat ns[k.toNat] (by simp [hk])
  have e : ns.getD k.toNat 0 = ns[k.toNat] := by simp [hk]
  refine tail_any hl.typeIs slot_list_getitem.lookup (wpAny_getItem_list hl h0 (by omega) (by simpa using hx) ?_) hs
  rw [← e]; exact h t
theorem in_ints {k : Int} {t : Tok} (N : News h₀ L s.heap news) (hm : (l, listOf vs.toArray nn) ∈ news) (hi : IntsAre vs ns) (h : Q (.bool (decide (k ∈ ns))) s) :
    wpAny (model prog w) A (compareOp .In (.int k t) (.ref l)) Q E s :=
  in_list_ints (ledList N hm) hi (by
    have e : ns.any (· == k) = decide (k ∈ ns) := by
      rw [Bool.eq_iff_iff]; simp only [List.any_eq_true, beq_iff_eq, decide_eq_true_eq]
      exact ⟨fun ⟨y, hy, e⟩ => e ▸ hy, fun h => ⟨k, h, rfl⟩⟩
    rw [e]; exact h)
theorem slice_upto {value slice : PySem.Expr} {y : Int} {u : Tok} (F : Fr h₀ L s.heap m) (N : News h₀ L s.heap news) (hm : (l, listOf vs.toArray nn) ∈ news) (hi : IntsAre vs ns) (h0 : 0 ≤ y) (hfit : ns.length < 2 ^ 20)
    (h : ∀ D us h', IntsAre us (ns.take y.toNat) → Fr h₀ L h' m → News h₀ L h' ((D, listOf us.toArray 0) :: news) → (∀ p ∈ news, p.1 < D) → Q (.ref D) { s with heap := h' })
    (hs : subscripted slice false (.ref l) (.ref s.heap.objs.size) = operate [.ref s.heap.objs.size, .ref l] (getItem (.ref l) (.ref s.heap.objs.size))) (ht : ∀ r, letTemporaryGo value (.ref l) r = pure ()) :
    wpAny (model prog w) A (subscriptTail value slice (.ref l) (.ref s.heap.objs.size)) Q E { s with heap := s.heap.push { cls := .type "slice", data := .fields #[.none, .int y u, .none] } } :=
  kmk_slice_ints (lo := none) (hi := some y) F N (ledList N hm) (by constructor) (by constructor) hi (kmk_upto hi h0) rfl (fun D ws h' F' N' l1 hw _ _ => h D ws h' hw F' N' l1) hs ht (by rw [List.size_toArray, hi.length, sizeLine_eq]; omega)
end
local macro_rules | `(tactic| ktr_unf) => `(tactic| first | assumption | exact List.mem_cons_self | (refine List.mem_cons_of_mem _ ?_; ktr_unf) | (refine List.mem_append_left _ ?_; ktr_unf) | (refine List.mem_append_right _ ?_; ktr_unf))
theorem words_PWw_0_4 : True := by
  k_with "W:call builtin:len" => ((k_here; (with_reducible show wpAny _ _ (call (Value.builtin "len") [Value.ref _]) _ _ _); k_dflt (refine' len_ints ?k1 ?k2 ?k3 ?k4 ?_; (case k1 => k_asm); (case k2 => ktr_unf); (case k3 => assumption); (case k4 => omega))))
  k_with "W:subscriptTail" => ((k_here; (with_reducible show wpAny _ _ (subscriptTail _ _ (Value.ref _) (Value.int _ _)) _ _ _); (with_unfolding_all refine' item_ints ?k1 ?k2 ?k3 ?k4 ?k5 ?k6 ?_ ?k7; (case k1 => k_asm); (case k2 => ktr_unf); (case k3 => assumption); (case k4 => omega); (case k5 => omega); (case k6 => omega); (case k7 => with_unfolding_all rfl); (intro t'w)); (try dsimp only); (try k_fold)))
  k_with "W:compareOp In int ref" => ((k_here; (with_reducible show wpAny _ _ (compareOp CmpOp.In (Value.int _ _) (Value.ref _)) _ _ _); k_dflt (refine' in_ints ?k1 ?k2 ?k3 ?_; (case k1 => k_asm); (case k2 => ktr_unf); (case k3 => assumption))))
  k_with "W:subscriptTail Name Slice ref ref" => ((k_here; (with_reducible show wpAny _ _ (subscriptTail _ (PySem.Expr.Slice _ _ none _) (Value.ref _) (Value.ref _)) _ _ _); k_dflt (refine' slice_upto ?k1 ?k2 ?k3 ?k4 ?k5 ?k6 ?_ ?k7 ?k8; (case k1 => k_asm); (case k2 => k_asm); (case k3 => ktr_unf); (case k4 => assumption); (case k5 => omega); (case k6 => omega); (case k7 => with_unfolding_all rfl); (case k8 => intro _; with_unfolding_all rfl); intro D'w ws'w h'w hI'w F'w N'w l1)))
  trivial
theorem nodup_take_succ {ns : List Int} {i : Nat} (h : i < ns.length) : (ns.take (i + 1)).Nodup ↔ ((ns.take i).Nodup ∧ ns.getD i 0 ∉ ns.take i) := by
  rw [List.take_add_one, List.getElem?_eq_getElem h]
  have e : ns.getD i 0 = ns[i] := by simp [h]
  rw [e]
  simp only [Option.toList_some]
  constructor
  · intro q
    rw [List.nodup_append] at q
    exact ⟨q.1, fun hm => q.2.2 _ hm _ (by simp) rfl⟩
  · rintro ⟨q1, q2⟩
    rw [List.nodup_append]
    refine ⟨q1, by simp, ?_⟩
    intro a ha b hb e
    simp only [List.mem_singleton] at hb
    subst hb; subst e; exact q2 ha
theorem not_nodup_of_take {ns : List Int} {i : Nat} (h : i < ns.length) (q : ns.getD i 0 ∈ ns.take i) : ¬ ns.Nodup := fun hn =>
  ((nodup_take_succ h).mp (hn.sublist (List.take_sublist _ _))).2 q
section
variable {prog : Program} {w : World} {A : Around} {E : Value → Shared → Prop} {s : Shared} {env : Env} {h₀ : Heap} {x : Str} {body : List Stmt} {Q : Flow → Shared → Prop}
theorem iter_unlike {r : Addr} {t₀ u₀ v₀ : Tok} {m₀ : Str → Option Value} {news : List (Addr × Obj)} {vs : List Value} {ns : List Int} (hh : A.handled = none) (_hi : IntsAre vs ns) (hlt : ns.length < 1000) (hr : IsRange s.heap r 0 (ns.length : Int) 1 t₀ u₀ v₀)
    (F : Fr h₀ env.locals s.heap m₀) (N : News h₀ env.locals s.heap news)
    (turn : ∀ (i : Nat) t I oI h tk, i < ns.length → (ns.take i).Nodup → (∀ p ∈ news, p.1 ≠ I) → Fr h₀ env.locals h (fun y => if y = x then some (.int (i : Int) t) else m₀ y) → News h₀ env.locals h ((I, oI) :: news) →
      wpAny (model prog w) A (execs body env) (PostJ h₀ env.locals I oI (fun m' n' => (∀ z, z ≠ x → m' z = m₀ z) ∧ n' = news ∧ (ns.take (i + 1)).Nodup) { s with heap := h, toks := tk } Q) E { s with heap := h, toks := tk })
    (done : ∀ (u : Str → Option Value) h tk, ns.Nodup → Fr h₀ env.locals h (fun y => if y = x then u y else m₀ y) → News h₀ env.locals h news → Q .next { s with heap := h, toks := tk }) :
    wpAny (model prog w) A (pyIter (.ref r)) (fun it s₂ => LoopAtV prog w A h₀ env x body Q E it s₂) E s := by
  refine iterD_range (σ := Unit) (fun _ => m₀) (fun i _ n' => n' = news ∧ (ns.take i).Nodup) hh hr (small_one (by omega) (by omega) (by omega) (by omega)) (range0_size _) F N ⟨(), fun _ _ => rfl, rfl, by simp⟩ ?_ ?_
  · rintro i t _ n₁ I oI h tk hi ⟨rfl, hR⟩ hI F₁ N₁
    rw [Int.zero_add] at F₁
    refine wpAny_mono (turn i t I oI h tk hi hR hI F₁ N₁) (fun f s₂ p => ?_) fun _ _ e => e
    cases f with
    | ret v => exact p
    | brk => exact p
    | next => obtain ⟨h', tk, m', news', e, F', N', hn, hm, hx⟩ := p; exact ⟨h', tk, m', news', e, F', N', hn, (), hm, hx⟩
    | cont => obtain ⟨h', tk, m', news', e, F', N', hn, hm, hx⟩ := p; exact ⟨h', tk, m', news', e, F', N', hn, (), hm, hx⟩
  · rintro _ u n₁ h tk ⟨rfl, hR⟩ F₁ N₁
    rw [List.take_length] at hR
    exact done u h tk hR F₁ N₁
end
section
theorem words_PWw_0_5 : True := by
  k_with "W:PostJ" => ((rename Wsec 1 => mkw); (k_dflt (unfold PostJ; dsimp only)))
  k_with "W:pyIter ref" => ((rename Wsec 1 => mkw); (k_here; (with_reducible rename Fr _ _ _ _ => lF'w); (with_reducible rename News _ _ _ _ => lN'w); (rename IsRange _ _ _ _ _ _ _ _ => rgX); (rename IntsAre _ _ => hiX); k_dflt (refine' iter_unlike ?kh hiX ?kl rgX lF'w lN'w ?_ ?_; (case kh => exact rfl); (case kl => assumption); (intro i'w t'w I'w oI'w h'w tk'w hi'w hR'w hI'w F'w N'w; (try dsimp only); (try k_fold)); rotate_left; (intro u'w h'w tk'w hR'w F'w N'w; (try dsimp only); (try k_fold)); rotate_left)))
  trivial
theorem are_unlike_c (w : World) (l : Addr) (vs : List Value) (ns : List Int) (nn : Nat) (news : List (Addr × Obj)) (hl : (l, listOf vs.toArray nn) ∈ news) (hi : IntsAre vs ns) (hn : ns.length < 1000) :
    Cn w 2 224 [.ref l] news (fun v n' => v = .bool (decide ns.Nodup) ∧ n' = news) (fun _ => False) := by
  have mkq : Wsec 1 := Wsec.mk
  unfold Cn
  intro loose mean mg mb dp un gd cn cs a ccd cl outer A₀ base h₀ L m s Q E B F X N T hk hdp hun hret herr
  unfold Fill
  k_fill
  intro hfill
  refine wpAny_call ?_
  k_dflt cell_enter
  have hlen : vs.length = ns.length := hi.length
  k_steps
  · dsimp only
    k_steps
    refine hret _ _ _ _ ⟨congrArg Value.bool ?_, rfl⟩ (by k_asm) (by ktr_rel)
    exact (decide_eq_false (not_nodup_of_take (by assumption) (by assumption))).symm
  · refine EndJ.intro (by k_asm) (by ktr_rel) (by assumption) ⟨?_, rfl, (nodup_take_succ (by assumption)).mpr ⟨by assumption, by assumption⟩⟩
    intro z hz
    simp [hz]
  · exact hret _ _ _ _ ⟨congrArg Value.bool (decide_eq_true (by assumption)).symm, rfl⟩ (by k_asm) (by ktr_rel)
theorem are_unlike_u (w : World) (l : Addr) (vs : List Value) (ns : List Int) (nn : Nat) (news : List (Addr × Obj)) (hl : (l, listOf vs.toArray nn) ∈ news) (hi : IntsAre vs ns) (hn : ns.length < 1000) :
    CnP w 2 224 [.ref l] news (fun K => K (.bool (decide ns.Nodup)) (news)) (fun _ => True) :=
  Cn.toP (are_unlike_c w l vs ns nn news hl hi hn) (by rintro K k _ _ ⟨rfl, rfl⟩; exact k ) (fun _ _ _ h => h.elim)
end
section
variable {prog : Program} {w : World} {A : Around} {E : Value → Shared → Prop} {s : Shared} {env : Env} {h₀ : Heap} {x : Str} {body : List Stmt} {Q : Flow → Shared → Prop}
end
section
variable {prog : Program} {w : World} {A : Around} {h₀ : Heap} {L : Addr} {m : Str → Option Value} {env : Env} {elt : PySem.Expr} {x : Str} {scope : Scope} {cl : List (Str × Addr)} {s : Shared} {S : List (Addr × Obj) → Prop} {P : Nat → Value → Prop} {Fin : List Value → List (Addr × Obj) → Prop} {news : List (Addr × Obj)}
/-- a comprehension by an invariant -/
theorem comp_inv {n : Nat} (J : Nat → List Value → List (Addr × Obj) → Prop) (j0 : J 0 [] news)
    (turn : ∀ i v I oI C oC D m₂ ys news₁ h tk (E' : Value → Shared → Prop), i < n → J i ys news₁ → P i v → LCg.NsObj oC m₂ → m₂ x = some v → Fr h₀ L h m → News h₀ L h ((I, oI) :: (C, oC) :: (D, LCg.lst ys) :: news₁) → LCg.Off3 I C D news₁ → ((@Ne Nat I C) ∧ (@Ne Nat I D) ∧ (@Ne Nat C D)) →
      wpAny (model prog w) A (eval elt (compEnvC scope cl C env)) (LCg.CompEnd h₀ L m { s with heap := h, toks := tk } I oI C oC D (LCg.lst ys) S (fun y news' => J (i + 1) (ys ++ [y]) news')) E' { s with heap := h, toks := tk })
    (fin : ∀ ys news₁, J n ys news₁ → Fin ys news₁) : LCg.CompRest prog w A h₀ L m env elt x scope cl s S P Fin n 0 [] news := by
  have key : ∀ (j i : Nat) (ys : List Value) (news₁ : List (Addr × Obj)), i + j = n → J i ys news₁ → LCg.CompRest prog w A h₀ L m env elt x scope cl s S P Fin j i ys news₁ := by
    intro j
    induction j with
    | zero =>
      intro i ys n₁ hi hy
      have e : i = n := by omega
      subst e
      exact LCg.CompRest.zero (fin ys _ hy)
    | succ j ih =>
      intro i ys n₁ hi hy
      refine LCg.CompRest.succ ?_
      intro v I oI C oC D m₂ h tk E' hv hC hx F N off ne
      refine wpAny_mono (turn i v I oI C oC D m₂ ys n₁ h tk E' (by omega) hy hv hC hx F N off ne) (fun y s₂ hq => ?_) fun _ _ e => e
      refine hide _ fun hidP hidH => ?_
      obtain ⟨h', tk', nw, e, F', N', off', hS, hn⟩ := hq
      refine hidH ?_
      clear hidH
      exact ⟨h', tk', nw, e, F', N', off', hS, ih (i + 1) _ _ (by omega) hn⟩
  exact key n 0 [] news (by omega) j0
/-- a comprehension of numbers that leaves the ledger alone -/
theorem comp_ints {n : Nat} (g : Nat → Int)
    (turn : ∀ i v I oI C oC D m₂ ys h tk (E' : Value → Shared → Prop), i < n → P i v → LCg.NsObj oC m₂ → m₂ x = some v → Fr h₀ L h m → News h₀ L h ((I, oI) :: (C, oC) :: (D, LCg.lst ys) :: news) → LCg.Off3 I C D news → ((@Ne Nat I C) ∧ (@Ne Nat I D) ∧ (@Ne Nat C D)) →
      wpAny (model prog w) A (eval elt (compEnvC scope cl C env)) (LCg.CompEnd h₀ L m { s with heap := h, toks := tk } I oI C oC D (LCg.lst ys) S (fun y news' => news' = news ∧ ∃ t, y = .int (g i) t)) E' { s with heap := h, toks := tk })
    (fin : ∀ ys, IntsAre ys ((List.range n).map g) → Fin ys news) : LCg.CompRest prog w A h₀ L m env elt x scope cl s S P Fin n 0 [] news := by
  refine comp_inv (fun i ys n₁ => n₁ = news ∧ IntsAre ys ((List.range i).map g)) ⟨rfl, by simp only [List.range_zero, List.map_nil]; exact .nil⟩ ?_ ?_
  · rintro i v I oI C oC D m₂ ys n₁ h tk E' hi ⟨rfl, hy⟩ hv hC hx F N off ne
    refine wpAny_mono (turn i v I oI C oC D m₂ ys h tk E' hi hv hC hx F N off ne) (fun y s₂ hq => ?_) fun _ _ e => e
    refine hide _ fun hidP hidH => ?_
    obtain ⟨h', tk', nw, e, F', N', off', hS, hn, t, ht⟩ := hq
    refine hidH ?_
    clear hidH
    refine ⟨h', tk', nw, e, F', N', off', hS, hn, ?_⟩
    rw [List.range_succ, List.map_append]
    exact IntsAre.append hy (ht ▸ .cons _ t .nil)
  · rintro ys n₁ ⟨rfl, hy⟩
    exact fin ys hy
end
/-- a component of a head, in the ledger -/
inductive CompAt (news : List (Addr × Obj)) (v : Value) (c : Int × Int × Int × Int) : Prop
  | mk (x dx : Addr) (h1 h2 h3 h4 : Int) (t1 t2 t3 t4 ti ta td tq : Tok) (n : Nat) (z0 : v = .ref x) (z1 : (x, instObj 150 dx) ∈ news) (z2 : (dx, dictOf [⟨h1, .str (Str.ofString "ident") t1, .int c.1 ti⟩, ⟨h2, .str (Str.ofString "across") t2, .int c.2.1 ta⟩, ⟨h3, .str (Str.ofString "down") t3, .int c.2.2.1 td⟩, ⟨h4, .str (Str.ofString "quant") t4, .int c.2.2.2 tq⟩] n) ∈ news) : CompAt news v c
noncomputable def CompOk (c : Int × Int × Int × Int) : Prop := 0 ≤ c.1 ∧ c.1 ≤ 255 ∧ 1 ≤ c.2.1 ∧ c.2.1 ≤ 4 ∧ 1 ≤ c.2.2.1 ∧ c.2.2.1 ≤ 4 ∧ 0 ≤ c.2.2.2 ∧ c.2.2.2 ≤ 3
/-- the components of a head, in the ledger -/
noncomputable def CompsAt (news : List (Addr × Obj)) (vs : List Value) (cs : List (Int × Int × Int × Int)) : Prop := vs.length = cs.length ∧ ∀ (i : Nat) (v : Value) (c : Int × Int × Int × Int), vs[i]? = some v → cs[i]? = some c → CompAt news v c
noncomputable def FrameOk (c p h w : Int) (cs : List (Int × Int × Int × Int)) : Prop :=
  (192 ≤ c ∧ c ≤ 207 ∧ c ≠ 196 ∧ c ≠ 200 ∧ c ≠ 204) ∧ (if Int.fmod c 4 = 3 then 2 ≤ p ∧ p ≤ 16 else p = 8 ∨ (p = 12 ∧ c ≠ 192)) ∧ (0 ≤ h ∧ h ≤ 65535) ∧ (1 ≤ w ∧ w ≤ 65535) ∧ (1 ≤ cs.length ∧ cs.length ≤ 255) ∧ (∀ c ∈ cs, CompOk c) ∧ (cs.map fun c => c.1).Nodup
theorem CompsAt.get {news : List (Addr × Obj)} {vs : List Value} {cs : List (Int × Int × Int × Int)} (h : CompsAt news vs cs) {i : Nat} {v : Value} (e : vs[i]? = some v) : ∃ c, cs[i]? = some c ∧ CompAt news v c := by
  have hi : i < vs.length := (List.getElem?_eq_some_iff.mp e).1
  have hc : cs[i]? = some (cs[i]'(h.1 ▸ hi)) := List.getElem?_eq_getElem _
  exact ⟨_, hc, h.2 i v _ e hc⟩
section
variable {prog : Program} {w : World} {A : Around} {E : Value → Shared → Prop} {s : Shared} {env : Env} {h₀ : Heap} {x : Str} {body : List Stmt} {Q : Flow → Shared → Prop}
end
section
variable {prog : Program} {w : World} {A : Around} {h₀ : Heap} {L : Addr} {m : Str → Option Value} {env : Env} {elt : PySem.Expr} {x : Str} {scope : Scope} {cl : List (Str × Addr)} {s : Shared} {S : List (Addr × Obj) → Prop} {P : Nat → Value → Prop} {Fin : List Value → List (Addr × Obj) → Prop} {news : List (Addr × Obj)}
/-- a comprehension of numbers over a head's components -/
theorem comp_comps {vs : List Value} {ks : List (Int × Int × Int × Int)} (g : (Int × Int × Int × Int) → Int) (hc : CompsAt news vs ks)
    (turn : ∀ (c : Int × Int × Int × Int) (x' dx : Addr) (h1 h2 h3 h4 : Int) (t1 t2 t3 t4 ti ta td tq : Tok) (n : Nat) I oI C oC D m₂ ys h tk (E' : Value → Shared → Prop), c ∈ ks → (x', instObj 150 dx) ∈ news →
      (dx, dictOf [⟨h1, .str (Str.ofString "ident") t1, .int c.1 ti⟩, ⟨h2, .str (Str.ofString "across") t2, .int c.2.1 ta⟩, ⟨h3, .str (Str.ofString "down") t3, .int c.2.2.1 td⟩, ⟨h4, .str (Str.ofString "quant") t4, .int c.2.2.2 tq⟩] n) ∈ news →
      LCg.NsObj oC m₂ → m₂ x = some (.ref x') → Fr h₀ L h m → News h₀ L h ((I, oI) :: (C, oC) :: (D, LCg.lst ys) :: news) → LCg.Off3 I C D news → ((@Ne Nat I C) ∧ (@Ne Nat I D) ∧ (@Ne Nat C D)) →
      wpAny (model prog w) A (eval elt (compEnvC scope cl C env)) (LCg.CompEnd h₀ L m { s with heap := h, toks := tk } I oI C oC D (LCg.lst ys) S (fun y news' => news' = news ∧ ∃ t, y = .int (g c) t)) E' { s with heap := h, toks := tk })
    (fin : ∀ ys, IntsAre ys (ks.map g) → Fin ys news) : LCg.CompRest prog w A h₀ L m env elt x scope cl s S (fun i v => vs.toArray[i]? = some v) Fin vs.toArray.size 0 [] news := by
  refine comp_ints (fun i => g (ks.getD i (0, 0, 0, 0))) ?_ ?_
  · intro i v I oI C oC D m₂ ys h tk E' hi hv hC hx F N off ne
    obtain ⟨c, hk, x', dx, h1, h2, h3, h4, t1, t2, t3, t4, ti, ta, td, tq, n, rfl, hx', hd⟩ := hc.get (v := v) (i := i) (by simpa using hv)
    have e : ks.getD i (0, 0, 0, 0) = c := by simp [List.getD, hk]
    rw [e]
    exact turn c x' dx h1 h2 h3 h4 t1 t2 t3 t4 ti ta td tq n I oI C oC D m₂ ys h tk E' (List.mem_of_getElem? hk) hx' hd hC hx F N off ne
  · intro ys hy
    refine fin ys ?_
    have e : (List.range vs.toArray.size).map (fun i => g (ks.getD i (0, 0, 0, 0))) = ks.map g := by
      have hlen : vs.length = ks.length := And.left hc
      rw [List.size_toArray, hlen]
      apply List.ext_getElem
      · simp
      · intro i h1 h2
        simp only [List.length_map] at h2
        simp [h2]
    rw [e] at hy; exact hy
end
theorem raisedS_drop {base G : Heap} {l : List Env} {e : Addr} {cls : Value} {t : Addr} {vs : List Value} {news news' : List (Addr × Obj)} {h : Heap} (R : RaisedS base G l e cls t vs news' h) (hs : ∀ p ∈ news, p ∈ news') : RaisedS base G l e cls t vs news h := by
  refine hide _ fun hidP hidH => ?_
  obtain ⟨⟨B, h1, h0, h2, h3, h4⟩, h5⟩ := R
  refine hidH ?_
  clear hidH
  exact ⟨⟨B, h1, h0, fun q hq => h2 q (hs q hq), h3, h4⟩, h5⟩
theorem words_PWw_0_6 : True := by
  k_with "W:m_sub" => ((intro p9 hp9; first | exact hp9 | exact .tail _ hp9 | exact .tail _ (.tail _ hp9) | exact .tail _ (.tail _ (.tail _ hp9)) | (repeat (first | exact hp9 | apply List.mem_cons_of_mem)) | (simp only [List.mem_cons, List.mem_append] at hp9 ⊢; grind)))
  k_with "W:m_rai" => (first | assumption | (refine raisedS_drop (by assumption) ?_; walk_at "m_sub"))
  trivial
local macro_rules | `(tactic| k_mem) => `(tactic| first | exact List.mem_cons_self | (refine List.mem_cons_of_mem _ ?_; k_mem))
theorem words_PWw_0_7 : True := by
  k_with "W:call ref" => ((k_here; (with_reducible show wpAny _ _ (call (Value.ref 217) [Value.int _ _, Value.int _ _]) _ _ _); k_dflt (refine' is_precision_u _ _ _ _ _ _  _ _ _ _ _ _ _ _ _ _ _ _ _ _ _ _ _ _ _ _ _ ?k1 ?k2 ?k3 ?k4 ?k5 ?k6 ?k7 ?k8 ?_ ?_ ?k9; (case k1 => k_asm); (case k2 => k_asm); (case k3 => k_asm); (case k4 => k_asm); (case k5 => k_asm); (case k6 => first | exact rfl | assumption); (case k7 => ktr_room); (case k8 => ktr_units); (case k9 => assumption); (focus (intro h'w tk'w F'w N'w; (try dsimp only); (try k_fold))); rotate_left; (exact trivial))))
  k_with "W:call ref" => ((k_here; (with_reducible show wpAny _ _ (call (Value.ref 224) [Value.ref _]) _ _ _); k_dflt (refine' are_unlike_u _ _ _ _ _ _ ?u1 ?u2 ?u3 _ _ _ _ _ _ _ _ _ _ _ _ _ _ _ _ _ _ _ _ _ ?k1 ?k2 ?k3 ?k4 ?k5 ?k6 ?k7 ?k8 ?_ ?_ ?k9; (case k1 => k_asm); (case k2 => k_asm); (case k3 => k_asm); (case k4 => k_asm); (case k5 => k_asm); (case k6 => first | exact rfl | assumption); (case k7 => ktr_room); (case k8 => ktr_units); (case k9 => assumption); (case u1 => ktr_unf); (case u2 => assumption); (case u3 => (try simp only [List.length_map]); omega); (focus (intro h'w tk'w F'w N'w; (try dsimp only); (try k_fold))); rotate_left; (exact trivial))))
  k_with "W:call ref" => ((k_here; (with_reducible show wpAny _ _ (call (Value.ref 231) [Value.ref _]) _ _ _); k_dflt (refine' check_component_u _  _ _ _ _ _ _ _ _ _ _ _ _ _ _ _ _ _ _ _ _ ?u1 ?u2 _ _ _ _ _ _ _ _ _ _ _ _ _ _ _ _ _ _ _ _ _ ?k1 ?k2 ?k3 ?k4 ?k5 ?k6 ?k7 ?k8 ?_ ?_ ?k9; (case k1 => k_asm); (case k2 => k_asm); (case k3 => k_asm); (case k4 => k_asm); (case k5 => k_asm); (case k6 => first | exact rfl | assumption); (case k7 => ktr_room); (case k8 => ktr_units); (case k9 => assumption); (case u1 => ktr_unf); (case u2 => ktr_unf); (focus (intro hb'w h'w tk'w F'w N'w; (try (exfalso; (simp only [decide_eq_true_eq, decide_eq_false_iff_not, Bool.and_eq_true] at hb'w); omega)); (try dsimp only); (try k_fold))); rotate_left; (intro hX'w e'w t'w vs'w h'w tk'w g'w F'w R'w U'w; (try dsimp only); (try k_fold)); rotate_left)))
  trivial
section
variable {prog : Program} {w : World} {A : Around} {E : Value → Shared → Prop} {s : Shared} {h₀ : Heap} {L l : Addr} {m : Str → Option Value} {news : List (Addr × Obj)} {vs : List Value} {ns ks : List Int} {nn : Nat} {Q : Value → Shared → Prop} {a b : Int} {t u : Tok}
theorem m_div (hb : 0 < b) (hs : b.natAbs < 1073741824) (h : ∀ t' k, Q (.int (a / b) t') { s with toks := k }) : wpAny (model prog w) A (binaryOp .FloorDiv (.int a t) (.int b u)) Q E s := by
  refine floordiv_int (by omega) ?_ (Or.inl (PyProof.noPylong_small hs))
  rw [Int.fdiv_eq_ediv_of_nonneg _ (by omega)]; exact h _ _
theorem m_mod (hb : 0 < b) (h : ∀ t' k, Q (.int (a % b) t') { s with toks := k }) : wpAny (model prog w) A (binaryOp .Mod (.int a t) (.int b u)) Q E s := by
  refine mod_int (by omega) ?_
  rw [Int.fmod_eq_emod_of_nonneg _ (by omega)]; exact h _ _
theorem byteArr_app (a b : List Int) : byteArr a ++ byteArr b = byteArr (a ++ b) := by simp [byteArr]
theorem byteArr_inj {a b : List Int} (ha : KBa.In a) (hb : KBa.In b) (e : byteArr a = byteArr b) : a = b := by
  rw [← KBa.ints_make ha, ← KBa.ints_make hb, e]
theorem m_bytes (F : Fr h₀ L s.heap m) (N : News h₀ L s.heap news) (hh : A.handled = none) (hm : (l, listOf vs.toArray nn) ∈ news) (hi : IntsAre vs ns) (hr : KBa.In ns) (hn : ns.length ≤ 16777216)
    (h : ∀ h' t' k, Fr h₀ L h' m → News h₀ L h' news → Q (.bytes (byteArr ns) t') { s with heap := h', toks := k }) : wpAny (model prog w) A (call (.type "bytes") [.ref l]) Q E s :=
  KBa.make_K F N hh (ledList N hm) hi hr hn fun h' t' k F' N' _ => h h' t' k F' N'
theorem m_addB {a b : List Int} (hsz : a.length + b.length ≤ 16777216) (h : ∀ t' k, Q (.bytes (byteArr (a ++ b)) t') { s with toks := k }) : wpAny (model prog w) A (binaryOp .Add (.bytes (byteArr a) t) (.bytes (byteArr b) u)) Q E s :=
  KBy.add_bytes (by rw [byteArr_size, byteArr_size]; exact hsz) fun t' k => by rw [byteArr_app]; exact h t' k
theorem m_lenB (hfit : ns.length ≤ 1099511627776) (h : ∀ t' k, Q (.int (ns.length : Nat) t') { s with toks := k }) : wpAny (model prog w) A (call (.builtin "len") [.bytes (byteArr ns) t]) Q E s := by
  refine len_bytes (by rw [byteArr_size]; exact hfit) ?_
  rw [byteArr_size]; exact h _ _
theorem m_itemB {value slice : PySem.Expr} {i : Int} {ui : Tok} (hr : KBa.In ns) (hfit : ns.length ≤ 1099511627776) (h0 : 0 ≤ i) (h1 : i < (ns.length : Int)) (h : ∀ t' k, 0 ≤ ns.getD i.toNat 0 → ns.getD i.toNat 0 < 256 → Q (.int (ns.getD i.toNat 0) t') { s with toks := k })
    (hs : subscripted slice false (.bytes (byteArr ns) t) (.int i ui) = operate [.bytes (byteArr ns) t, .int i ui] (getItem (.bytes (byteArr ns) t) (.int i ui)) := by with_unfolding_all rfl)
    (ht : ∀ r, letTemporaryGo value (.bytes (byteArr ns) t) r = pure () := by intro _; with_unfolding_all rfl) :
    wpAny (model prog w) A (subscriptTail value slice (.bytes (byteArr ns) t) (.int i ui)) Q E s :=
  KBw.item_K (KBa.ints_make hr) hfit h0 h1 h hs ht
theorem m_eqB {a b : List Int} (ha : KBa.In a) (hb : KBa.In b) (h : Q (.bool (decide (a = b))) s) : wpAny (model prog w) A (compareOp .Eq (.bytes (byteArr a) t) (.bytes (byteArr b) u)) Q E s := by
  refine eq_bytes ?_
  have e : ((byteArr a).toList == (byteArr b).toList) = decide (a = b) := by
    rw [Bool.eq_iff_iff]; simp only [beq_iff_eq, decide_eq_true_eq]
    exact ⟨fun e => byteArr_inj ha hb (Array.ext' e), fun e => by rw [e]⟩
  rw [e]; exact h
theorem m_neB {a b : List Int} (ha : KBa.In a) (hb : KBa.In b) (h : Q (.bool (decide (a ≠ b))) s) : wpAny (model prog w) A (compareOp .NotEq (.bytes (byteArr a) t) (.bytes (byteArr b) u)) Q E s := by
  refine ne_bytes ?_
  have e : ((byteArr a).toList != (byteArr b).toList) = decide (a ≠ b) := by
    rw [Bool.eq_iff_iff]; simp only [bne_iff_ne, ne_eq, decide_eq_true_eq]
    exact ⟨fun e h => e (by rw [h]), fun e h => e (byteArr_inj ha hb (Array.ext' h))⟩
  rw [e]; exact h
end
theorem in_nil : KBa.In [] := fun _ h => nomatch h
theorem in_cons {n : Int} {r : List Int} (h : 0 ≤ n ∧ n < 256) (hr : KBa.In r) : KBa.In (n :: r) := fun x hx => (List.mem_cons.mp hx).elim (fun e => e ▸ h) (hr x)
theorem in_app {a b : List Int} (ha : KBa.In a) (hb : KBa.In b) : KBa.In (a ++ b) := fun x hx => (List.mem_append.mp hx).elim (ha x) (hb x)
theorem words_PWw_0_8 : True := by
  k_with "W:m_bnd" => (first | assumption | exact ⟨by with_reducible assumption, by with_reducible assumption⟩ | exact ⟨by with_reducible assumption, oct_le (by with_reducible assumption)⟩ | omega | (dsimp only; omega))
  k_with "W:m_in" => (first | assumption | exact in_nil | (refine in_cons ?_ ?_; (focus walk_at "m_bnd"); walk_at "m_in") | (refine in_app ?_ ?_; (focus walk_at "m_in"); walk_at "m_in"))
  k_with "W:m_ints" => (first | assumption | exact .nil | exact IntsAre.cons _ _ (by walk_at "m_ints"))
  k_with "W:m_len" => (first | exact small_le (by with_reducible assumption) rfl | exact small_lt (by with_reducible assumption) rfl | ((try simp only [List.length_append, List.length_cons, List.length_nil, List.length_map, List.length_take, List.length_drop, List.length_range]); omega))
  k_with "W:binaryOp FloorDiv int int" => ((k_here; k_dflt (refine' m_div ?k1 ?k2 ?_; (case k1 => first | decide | omega); (case k2 => first | decide | omega)); intro _ _))
  k_with "W:binaryOp Mod int int" => ((k_here; k_dflt (refine' m_mod ?k1 ?_; (case k1 => first | decide | omega)); intro _ _))
  k_with "W:call type:bytes" => ((k_here; (with_reducible show wpAny _ _ (call (Value.type "bytes") [Value.ref _]) _ _ _); (with_reducible rename Fr _ _ _ _ => lF'w); (with_reducible rename News _ _ _ _ => lN'w); k_dflt (refine' m_bytes lF'w lN'w ?kh ?kl ?ki ?kr ?kn ?_; (case kh => exact rfl); (case kl => ktr_unf); (case ki => walk_at "m_ints"); (case kr => walk_at "m_in"); (case kn => walk_at "m_len")); intro h'w t'w k'w F'w N'w))
  k_with "W:binaryOp Add bytes bytes" => ((k_here; k_dflt (refine' m_addB ?k1 ?_; (case k1 => walk_at "m_len")); intro _ _))
  k_with "W:call builtin:len" => ((k_here; (with_reducible show wpAny _ _ (call (Value.builtin "len") [Value.bytes _ _]) _ _ _); k_dflt (refine' m_lenB ?k1 ?_; (case k1 => walk_at "m_len")); intro _ _))
  k_with "W:subscriptTail" => ((k_here; (with_reducible show wpAny _ _ (subscriptTail _ _ (Value.bytes (byteArr _) _) (Value.int _ _)) _ _ _); k_dflt (refine' m_itemB ?k1 ?k2 ?k3 ?k4 ?_; (case k1 => walk_at "m_in"); (case k2 => walk_at "m_len"); (case k3 => walk_at "m_len"); (case k4 => walk_at "m_len")); intro _ _ ib1 ib2))
  k_with "W:compareOp Eq bytes bytes" => ((k_here; k_dflt (refine' m_eqB ?k1 ?k2 ?_; (case k1 => walk_at "m_in"); (case k2 => walk_at "m_in"))))
  k_with "W:compareOp NotEq bytes bytes" => ((k_here; k_dflt (refine' m_neB ?k1 ?k2 ?_; (case k1 => walk_at "m_in"); (case k2 => walk_at "m_in"))))
  trivial
theorem word_c (w : World) (n : Int) (tn : Tok) (news : List (Addr × Obj)) :
    Cn w 4 84 [.int n tn] news (fun v n' => (∃ t, v = .bytes (byteArr [n / 256, n % 256]) t) ∧ n' = news ∧ (0 ≤ n ∧ n ≤ 65535)) (fun C => C = 68 ∧ ¬ (0 ≤ n ∧ n ≤ 65535)) := by
  unfold Cn
  intro loose mean mg mb dp un gd cn cs a ccd cl outer A₀ base h₀ L m s Q E B F X N T hk hdp hun hret herr
  unfold Fill
  k_fill
  intro hfill
  refine wpAny_call ?_
  k_dflt cell_enter
  k_steps
  all_goals first
    | exact hret _ _ _ _ ⟨⟨_, rfl⟩, rfl, by omega⟩ (by k_asm) (by ktr_rel)
    | exact herr _ _ _ _ _ _ _ ⟨rfl, by omega⟩ (by k_asm) (by walk_at "m_rai") (by assumption)
section
open PySem.F
theorem bc_look : typeLookup (.type "bytes") "__bytes__" = pure (some (.builtin "bytes.__bytes__")) := by rw [typeLookup_type, builtinLookup_eq_fast]; kernel_rfl
section
variable {prog : Program} {w : World} {A : Around} {E : Value → Shared → Prop} {s : Shared} {h₀ : Heap} {L l : Addr} {m : Str → Option Value} {news : List (Addr × Obj)} {vs : List Value} {ns ks : List Int} {nn : Nat} {Q : Value → Shared → Prop} {t u : Tok} {b : Array UInt8}
theorem bc_new (hQ : Q (.bytes b t) s) : codeAny (model prog w) A (.call (.builtin "bytes.__new__") ⟨[.type "bytes", .bytes b t], []⟩) (wants Q E) s := by
  refine codeAny_of_tree ?_
  show wpAny _ A.in1 (do checkBuiltinCall "bytes.__new__" ⟨[.type "bytes", .bytes b t], []⟩; again (.builtin "bytes.__new__" ⟨[.type "bytes", .bytes b t], []⟩)) _ _ s
  refine wpAny_bind (wpAny_of_eq (F.bm_newCall _) (wpAny_pure ⟨plainId_quiet F.bm_plain _, codeAny_builtin F.bm_entry ?_⟩))
  rw [Around.under_plainId F.bm_plain _]
  have hT : s.TypeIs (.bytes b t) "bytes" := PySem.W.typeIs_bytes s b t
  unfold Builtin.«bytes.__new__»
  refine wpAny_bind (wpAny_of_eq (a := true) rfl ?_)
  refine bm_if_false rfl ?_
  refine wpAny_bind (wpAny_of_eq F.bm_sub ?_)
  refine bm_if_false rfl ?_
  refine wpAny_bind (wpAny_of_eq (F.bm_bind _) ?_)
  refine wpAny_bind (wpAny_of_eq (a := ()) rfl ?_)
  refine wpAny_bind (wpAny_of_eq (a := ()) rfl ?_)
  refine bm_if_false rfl ?_
  refine wpAny_bind (wpAny_specialOf hT bc_look ?_)
  dsimp only
  refine wpAny_bind (wpAny_rule ?_)
  refine wpAny_bind (wpAny_typeOf hT ?_)
  refine bm_if_true (by decide +kernel) ?_
  refine wpAny_of_eq (a := Fin.done (.ret (.bytes b t))) (by first | rfl | kernel_rfl) ?_
  exact hQ
theorem m_bytesB (h : Q (.bytes b t) s) : wpAny (model prog w) A (call (.type "bytes") [.bytes b t]) Q E s := by
  refine callType_codes (Q₁ := fun obj s₁ => s₁.TypeIs obj "bytes" ∧ Q obj s₁) F.bm_called (F.bm_typeCall _) F.entry_object_init
    (bc_new ⟨PySem.W.typeIs_bytes _ _ _, h⟩) fun obj s₁ h₁ => ?_
  exact ⟨h₁.1, F.args_object_init_2 obj _, object_init_meets F.bm_called.init.lookup F.bm_called.made (by decide) prog w A.in1 _ s₁ ⟨h₁.1, rfl, h₁.2⟩⟩
theorem byteArr_bInts (b : Array UInt8) : byteArr (KBw.bInts b) = b := by
  apply Array.ext'
  simp only [byteArr, KBw.bInts, List.map_map]
  have e : ∀ c ∈ b.toList, ((fun n : Int => n.toNat.toUInt8) ∘ fun c : UInt8 => (c.toNat : Int)) c = c := by
    intro c _
    simp
  exact (List.map_congr_left (g := _root_.id) e).trans (List.map_id _)
theorem m_sliceB {value slice : PySem.Expr} {x y : Int} {tx ty : Tok} (hF : Fr h₀ L s.heap m) (hN : News h₀ L s.heap news) (hr : KBa.In ns) (h0 : 0 ≤ x) (h1 : x ≤ y) (h2 : y ≤ (ns.length : Int)) (hz : ns.length ≤ 16777216)
    (h : ∀ h' t' k, Fr h₀ L h' m → News h₀ L h' news → Q (.bytes (byteArr ((ns.drop x.toNat).take (y - x).toNat)) t') { s with heap := h', toks := k })
    (hs : subscripted slice false (.bytes (byteArr ns) t) (.ref s.heap.objs.size) = operate [.ref s.heap.objs.size, .bytes (byteArr ns) t] (getItem (.bytes (byteArr ns) t) (.ref s.heap.objs.size)))
    (ht : ∀ r, letTemporaryGo value (.bytes (byteArr ns) t) r = pure ()) :
    wpAny (model prog w) A (subscriptTail value slice (.bytes (byteArr ns) t) (.ref s.heap.objs.size)) Q E { s with heap := s.heap.push { cls := .type "slice", data := .fields #[.int x tx, .int y ty, .none] } } := by
  refine KBc.slice_K (lo := some x) (hi := some y) hF hN (KBa.ints_make hr) (by constructor) (by constructor) hz (fun h' t' k F' N' hk => ?_) hs ht
  have e : KBy.picked (byteArr ns) (some x) (some y) = byteArr ((ns.drop x.toNat).take (y - x).toNat) := by
    rw [← byteArr_bInts (KBy.picked _ _ _), hk]
    simp only [Option.elim]
    rw [clipAt_in h0 (by omega), clipAt_in (by omega) h2]
    congr 2
    omega
  rw [e]
  exact h h' t' k F' N'
end
theorem in_drop {ns : List Int} {k : Nat} (h : KBa.In ns) : KBa.In (ns.drop k) := fun x hx => h x (List.mem_of_mem_drop hx)
theorem in_take {ns : List Int} {k : Nat} (h : KBa.In ns) : KBa.In (ns.take k) := fun x hx => h x (List.mem_of_mem_take hx)
theorem allLt_ne {d : Nat} : ∀ {l : List (Addr × Obj)}, AllLt d l → ∀ p ∈ l, p.1 ≠ d
  | [], _ => fun _ h => nomatch h
  | p :: r, h => fun q hq => (List.mem_cons.mp hq).elim (fun e => e ▸ Nat.ne_of_lt h.1) (allLt_ne h.2 q)
theorem words_PWw_0_9 : True := by
  k_with "W:setAttr ref" => ((k_here; k_dflt (refine' set_dict ?k1 ?k2 ?k3 ?k4 ?k5 ?k6 ?k7 ?k8 ?k9 ?k10 ?k11 ?k12 ?k13 ?_; (case k1 => k_asm); (case k2 => k_asm); (case k3 => k_asm); (case k4 => k_inst); (case k5 => exact rfl); (case k6 => k_is); (case k7 => k_is); (case k8 => k_is); (case k9 => k_is); (case k10 => k_get); (case k11 => k_put); (case k12 => k_upd); (case k13 => exact Nat.le_of_ble_eq_true rfl); k_whole); intro h'w F'w N'w; (try k_sweep)))
  k_with "W:m_in" => (first | (refine in_take ?_; walk_at "m_in") | (refine in_drop ?_; walk_at "m_in"))
  k_with "W:call type:bytes" => ((k_here; (with_reducible show wpAny _ _ (call (Value.type "bytes") [Value.bytes _ _]) _ _ _); k_dflt (refine' m_bytesB ?_)))
  k_with "W:subscriptTail" => ((k_here; (with_reducible show wpAny _ _ (subscriptTail _ (PySem.Expr.Slice _ _ none _) (Value.bytes (byteArr _) _) (Value.ref _)) _ _ _); (with_reducible rename Fr _ _ _ _ => lF'w); (with_reducible rename News _ _ _ _ => lN'w); k_dflt (refine' m_sliceB (s := ⟨_, _, _, _, _⟩) lF'w lN'w ?k1 ?k2 ?k3 ?k4 ?k5 ?_ ?k6 ?k7; (case k1 => walk_at "m_in"); (case k2 => walk_at "m_len"); (case k3 => walk_at "m_len"); (case k4 => walk_at "m_len"); (case k5 => walk_at "m_len"); (case k6 => with_unfolding_all rfl); (case k7 => intro _; with_unfolding_all rfl)); intro h'w t'w k'w F'w N'w))
  trivial
end
local macro_rules | `(tactic| k_all) => `(tactic| first | assumption | exact allLt_ne (by assumption) | exact allLt_ne (And.right (by assumption)))
section
variable {prog : Program} {w : World} {A : Around} {E : Value → Shared → Prop} {s : Shared} {env : Env} {h₀ : Heap} {x : Str} {body : List Stmt} {Q : Flow → Shared → Prop}
theorem EndJ.mono {L I : Addr} {oI : Obj} {J J' : (Str → Option Value) → List (Addr × Obj) → Prop} {s₁ s₂ : Shared} (h : EndJ h₀ L I oI J s₁ s₂) (k : ∀ m n, J m n → J' m n) : EndJ h₀ L I oI J' s₁ s₂ := by
  refine hide _ fun hidP hidH => ?_
  obtain ⟨h', tk, m', news', e, F', N', hn, hm⟩ := h
  refine hidH ?_
  clear hidH
  exact ⟨h', tk, m', news', e, F', N', hn, k _ _ hm⟩
theorem PostJ.mono {L I : Addr} {oI : Obj} {J J' : (Str → Option Value) → List (Addr × Obj) → Prop} {s₁ s₂ : Shared} {f : Flow} (h : PostJ h₀ L I oI J s₁ Q f s₂) (k : ∀ m n, J m n → J' m n) : PostJ h₀ L I oI J' s₁ Q f s₂ := by
  cases f with
  | ret v => exact h
  | brk => exact h
  | next => exact EndJ.mono h k
  | cont => exact EndJ.mono h k
end
noncomputable def rowB (c : Int × Int × Int × Int) : List Int := [c.1, c.2.1 * 16 + c.2.2.1, c.2.2.2]
noncomputable def frameB (p h w : Int) (ks : List (Int × Int × Int × Int)) : List Int := [p] ++ [h / 256, h % 256] ++ [w / 256, w % 256] ++ [(ks.length : Int)] ++ ks.flatMap rowB
section
variable {prog : Program} {w : World} {A : Around} {E : Value → Shared → Prop} {s : Shared} {env : Env} {h₀ : Heap} {x : Str} {body : List Stmt} {Q : Flow → Shared → Prop}
end
noncomputable def recAt (ns : List Int) (i : Nat) : Int × Int × Int × Int := (ns.getD (6 + 3 * i) 0, ns.getD (7 + 3 * i) 0 / 16, ns.getD (7 + 3 * i) 0 % 16, ns.getD (8 + 3 * i) 0)
noncomputable def recs (ns : List Int) (k : Nat) : List (Int × Int × Int × Int) := (List.range k).map (recAt ns)
theorem recs_len (ns : List Int) (k : Nat) : (recs ns k).length = k := by simp [recs]
theorem CompAt.mono {news news' : List (Addr × Obj)} {v : Value} {c : Int × Int × Int × Int} (h : CompAt news v c) (hs : ∀ p ∈ news, p ∈ news') : CompAt news' v c := by
  refine hide _ fun hidP hidH => ?_
  obtain ⟨x, dx, h1, h2, h3, h4, t1, t2, t3, t4, ti, ta, td, tq, n, e, a, b⟩ := h
  refine hidH ?_
  clear hidH
  exact ⟨x, dx, h1, h2, h3, h4, t1, t2, t3, t4, ti, ta, td, tq, n, e, hs _ a, hs _ b⟩
theorem CompsAt.mono {news news' : List (Addr × Obj)} {vs : List Value} {ks : List (Int × Int × Int × Int)} (h : CompsAt news vs ks) (hs : ∀ p ∈ news, p ∈ news') : CompsAt news' vs ks :=
  ⟨h.1, fun i v c a b => (h.2 i v c a b).mono hs⟩
theorem CompsAt.snoc {news : List (Addr × Obj)} {vs : List Value} {ks : List (Int × Int × Int × Int)} {v : Value} {c : Int × Int × Int × Int} (h : CompsAt news vs ks) (hc : CompAt news v c) : CompsAt news (vs ++ [v]) (ks ++ [c]) := by
  refine ⟨by have := h.1; simp [this], fun i v' c' a b => ?_⟩
  have hlen : vs.length = ks.length := h.1
  by_cases hi : i < vs.length
  · rw [List.getElem?_append_left hi] at a
    rw [List.getElem?_append_left (hlen ▸ hi)] at b
    exact h.2 i v' c' a b
  · have hi' : i = vs.length := by
      have := (List.getElem?_eq_some_iff.mp a).1
      simp at this; omega
    subst hi'
    rw [List.getElem?_append_right (Nat.le_refl _)] at a
    rw [List.getElem?_append_right (by omega)] at b
    simp [hlen] at a b
    subst a; subst b; exact hc
theorem CompsAt.nil {news : List (Addr × Obj)} : CompsAt news [] [] := ⟨rfl, fun i v c a => by simp at a⟩
section
variable {prog : Program} {w : World} {A : Around} {E : Value → Shared → Prop} {s : Shared} {env : Env} {h₀ : Heap} {x : Str} {body : List Stmt} {Q : Flow → Shared → Prop}
end
section
variable {prog : Program} {w : World} {A : Around} {E : Value → Shared → Prop} {s : Shared} {env : Env} {h₀ : Heap} {x : Str} {body : List Stmt} {Q : Flow → Shared → Prop}
end
inductive FrameAt (news : List (Addr × Obj)) (v : Value) (c p hh ww : Int) (ks : List (Int × Int × Int × Int)) : Prop
  | mk (x d l : Addr) (h1 h2 h3 h4 h5 : Int) (t1 t2 t3 t4 t5 tc tp th tw : Tok) (n nn : Nat) (vs : List Value) (z0 : v = .ref x) (z1 : (x, instObj 171 d) ∈ news) (z2 : (d, dictOf [⟨h1, .str (Str.ofString "code") t1, .int c tc⟩, ⟨h2, .str (Str.ofString "precision") t2, .int p tp⟩, ⟨h3, .str (Str.ofString "height") t3, .int hh th⟩, ⟨h4, .str (Str.ofString "width") t4, .int ww tw⟩, ⟨h5, .str (Str.ofString "components") t5, .ref l⟩] n) ∈ news) (z3 : (l, listOf vs.toArray nn) ∈ news) (z4 : CompsAt news vs ks) : FrameAt news v c p hh ww ks
noncomputable def payOk (ns : List Int) : Prop := 6 ≤ (ns.length : Int) ∧ (ns.length : Int) = 6 + 3 * ns.getD 5 0
noncomputable def frH (ns : List Int) : Int := ns.getD 1 0 * 256 + ns.getD 2 0
noncomputable def frW (ns : List Int) : Int := ns.getD 3 0 * 256 + ns.getD 4 0
noncomputable def frK (ns : List Int) : List (Int × Int × Int × Int) := recs ns (ns.getD 5 0).toNat
theorem recs_small {ns : List Int} (h : ns.getD 5 0 < 256) : (recs ns (ns.getD 5 0).toNat).length < 1000 := by rw [recs_len]; omega
section
variable {prog : Program} {w : World} {A : Around} {E : Value → Shared → Prop} {s : Shared} {env : Env} {h₀ : Heap} {x : Str} {body : List Stmt} {Q : Flow → Shared → Prop}
end
section
variable {prog : Program} {w : World} {A : Around} {E : Value → Shared → Prop} {s : Shared} {h₀ : Heap} {L l b : Addr} {m : Str → Option Value} {news : List (Addr × Obj)} {vs us : List Value} {ns ks : List Int} {nn nm : Nat} {Q : Value → Shared → Prop} {t u : Tok}
theorem m_copyL (F : Fr h₀ L s.heap m) (N : News h₀ L s.heap news) (hm : (l, listOf vs.toArray nn) ∈ news) (hi : IntsAre vs ns) (hz : ns.length ≤ 16777216)
    (h : ∀ D c h', Fr h₀ L h' m → News h₀ L h' ((D, listOf vs.toArray c) :: news) → (∀ q ∈ news, q.1 < D) → Q (.ref D) { s with heap := h' }) : wpAny (model prog w) A (call (.type "list") [.ref l]) Q E s :=
  kup_listOf F N hm rfl h (by rw [sizeLine_eq]; show vs.length ≤ _; rw [hi.length]; exact hz)
theorem m_addL (F : Fr h₀ L s.heap m) (N : News h₀ L s.heap news) (hm : (l, listOf vs.toArray nn) ∈ news) (hb : (b, listOf us.toArray nm) ∈ news) (hi : IntsAre vs ns) (hj : IntsAre us ks) (hz : ns.length + ks.length ≤ 16777216)
    (h : ∀ D ws h', Fr h₀ L h' m → News h₀ L h' ((D, listOf (List.toArray ws) 0) :: news) → (∀ p ∈ news, p.1 < D) → IntsAre ws (ns ++ ks) → Q (.ref D) { s with heap := h' }) : wpAny (model prog w) A (binaryOp .Add (.ref l) (.ref b)) Q E s :=
  kmk_add_ints F N (ledList N hm) (ledList N hb) hi hj h (by rw [sizeLine_eq]; exact hz)
end
noncomputable def ScanOk (is ds as : List Int) (st en hi lo : Int) : Prop :=
  (1 ≤ is.length ∧ is.length ≤ 4) ∧ (ds.length = is.length ∧ as.length = is.length) ∧ is.Nodup ∧ (∀ k ∈ is, 0 ≤ k ∧ k ≤ 255) ∧ (∀ k ∈ ds ++ as, 0 ≤ k ∧ k ≤ 3) ∧ (0 ≤ st ∧ st ≤ 63 ∧ 0 ≤ en ∧ en ≤ 63) ∧ (0 ≤ hi ∧ hi ≤ 15 ∧ 0 ≤ lo ∧ lo ≤ 15)
/-- the entries of a scan's head -/
noncomputable abbrev scanEs (h1 h2 h3 h4 h5 h6 h7 : Int) (t1 t2 t3 t4 t5 t6 t7 ts te th tl : Tok) (li ld la : Addr) (st en hi lo : Int) : List DictEntry :=
  [⟨h1, .str (Str.ofString "idents") t1, .ref li⟩, ⟨h2, .str (Str.ofString "dc_slots") t2, .ref ld⟩, ⟨h3, .str (Str.ofString "ac_slots") t3, .ref la⟩, ⟨h4, .str (Str.ofString "start") t4, .int st ts⟩, ⟨h5, .str (Str.ofString "end") t5, .int en te⟩, ⟨h6, .str (Str.ofString "high") t6, .int hi th⟩, ⟨h7, .str (Str.ofString "low") t7, .int lo tl⟩]
section
variable {prog : Program} {w : World} {A : Around} {E : Value → Shared → Prop} {s : Shared} {env : Env} {h₀ : Heap} {x : Str} {body : List Stmt} {Q : Flow → Shared → Prop}
end
noncomputable def slotB (is ds as : List Int) (i : Nat) : List Int := [is.getD (0 + (i : Int)).toNat 0, ds.getD (0 + (i : Int)).toNat 0 * 16 + as.getD (0 + (i : Int)).toNat 0]
noncomputable def scanB (is ds as : List Int) (st en hi lo : Int) : List Int := [(is.length : Int)] ++ (List.range is.length).flatMap (slotB is ds as) ++ [st, en, hi * 16 + lo]
theorem getD_ok {P : Int → Prop} {l : List Int} {i : Nat} (h : ∀ k ∈ l, P k) (hi : i < l.length) : P (l.getD (0 + (i : Int)).toNat 0) := by
  have e : (0 + (i : Int)).toNat = i := by omega
  rw [e]
  have e2 : l.getD i 0 = l[i] := by simp [hi]
  rw [e2]
  exact h _ (List.getElem_mem hi)
section
variable {prog : Program} {w : World} {A : Around} {E : Value → Shared → Prop} {s : Shared} {env : Env} {h₀ : Heap} {x : Str} {body : List Stmt} {Q : Flow → Shared → Prop}
end
noncomputable def sI (ns : List Int) (k : Nat) : List Int := (List.range k).map fun i => ns.getD (1 + 2 * i) 0
noncomputable def sD (ns : List Int) (k : Nat) : List Int := (List.range k).map fun i => ns.getD (2 + 2 * i) 0 / 16
noncomputable def sA (ns : List Int) (k : Nat) : List Int := (List.range k).map fun i => ns.getD (2 + 2 * i) 0 % 16
theorem range_map_succ (g : Nat → Int) (i : Nat) : (List.range (i + 1)).map g = (List.range i).map g ++ [g i] := by simp [List.range_succ]
section
variable {prog : Program} {w : World} {A : Around} {E : Value → Shared → Prop} {s : Shared} {env : Env} {h₀ : Heap} {x : Str} {body : List Stmt} {Q : Flow → Shared → Prop}
end
inductive ScanAt (news : List (Addr × Obj)) (v : Value) (is ds as : List Int) (st en hi lo : Int) : Prop
  | mk (x d li ld la : Addr) (h1 h2 h3 h4 h5 h6 h7 : Int) (t1 t2 t3 t4 t5 t6 t7 ts te th tl : Tok) (n ni nd na : Nat) (vi vd va : List Value) (z0 : v = .ref x) (z1 : (x, instObj 192 d) ∈ news) (z2 : (d, dictOf (scanEs h1 h2 h3 h4 h5 h6 h7 t1 t2 t3 t4 t5 t6 t7 ts te th tl li ld la st en hi lo) n) ∈ news) (z3 : (li, listOf vi.toArray ni) ∈ news) (z4 : (ld, listOf vd.toArray nd) ∈ news) (z5 : (la, listOf va.toArray na) ∈ news) (z6 : IntsAre vi is) (z7 : IntsAre vd ds) (z8 : IntsAre va as) : ScanAt news v is ds as st en hi lo
noncomputable def payS (ns : List Int) : Prop := 1 ≤ (ns.length : Int) ∧ (ns.length : Int) = 4 + 2 * ns.getD 0 0
noncomputable abbrev scK (ns : List Int) : Nat := (ns.getD 0 0).toNat
noncomputable abbrev scI (ns : List Int) : List Int := sI ns (scK ns)
noncomputable abbrev scD (ns : List Int) : List Int := sD ns (scK ns)
noncomputable abbrev scA (ns : List Int) : List Int := sA ns (scK ns)
theorem s_small {ns : List Int} (h : ns.getD 0 0 < 256) : (sI ns (ns.getD 0 0).toNat).length < 1000 ∧ (sD ns (ns.getD 0 0).toNat).length < 1000 ∧ (sA ns (ns.getD 0 0).toNat).length < 1000 := by
  simp only [sI, sD, sA, List.length_map, List.length_range]; omega
/-- a tuple in the ledger -/
noncomputable abbrev tup (vs : List Value) : Obj := { cls := .type "tuple", data := .seq vs.toArray }
inductive RowAt (news : List (Addr × Obj)) (v : Value) (c : Int × Int × Int × Int) : Prop
  | mk (r : Addr) (t1 t2 t3 t4 : Tok) (z0 : v = .ref r) (z1 : (r, tup [.int c.1 t1, .int c.2.1 t2, .int c.2.2.1 t3, .int c.2.2.2 t4]) ∈ news) : RowAt news v c
noncomputable def RowsAt (news : List (Addr × Obj)) (vs : List Value) (cs : List (Int × Int × Int × Int)) : Prop := vs.length = cs.length ∧ ∀ (i : Nat) (v : Value) (c : Int × Int × Int × Int), vs[i]? = some v → cs[i]? = some c → RowAt news v c
theorem RowAt.mono {news news' : List (Addr × Obj)} {v : Value} {c : Int × Int × Int × Int} (h : RowAt news v c) (hs : ∀ p ∈ news, p ∈ news') : RowAt news' v c := by
  refine hide _ fun hidP hidH => ?_
  obtain ⟨r, t1, t2, t3, t4, e, hm⟩ := h
  refine hidH ?_
  clear hidH
  exact ⟨r, t1, t2, t3, t4, e, hs _ hm⟩
theorem RowsAt.mono {news news' : List (Addr × Obj)} {vs : List Value} {ks : List (Int × Int × Int × Int)} (h : RowsAt news vs ks) (hs : ∀ p ∈ news, p ∈ news') : RowsAt news' vs ks :=
  ⟨h.1, fun i v c a b => (h.2 i v c a b).mono hs⟩
theorem RowsAt.nil {news : List (Addr × Obj)} : RowsAt news [] [] := ⟨rfl, fun i v c a => by simp at a⟩
theorem RowsAt.snoc {news : List (Addr × Obj)} {vs : List Value} {ks : List (Int × Int × Int × Int)} {v : Value} {c : Int × Int × Int × Int} (h : RowsAt news vs ks) (hc : RowAt news v c) : RowsAt news (vs ++ [v]) (ks ++ [c]) := by
  refine ⟨by have := h.1; simp [this], fun i v' c' a b => ?_⟩
  have hlen : vs.length = ks.length := h.1
  by_cases hi : i < vs.length
  · rw [List.getElem?_append_left hi] at a
    rw [List.getElem?_append_left (hlen ▸ hi)] at b
    exact h.2 i v' c' a b
  · have hi' : i = vs.length := by
      have := (List.getElem?_eq_some_iff.mp a).1
      simp at this; omega
    subst hi'
    rw [List.getElem?_append_right (Nat.le_refl _)] at a
    rw [List.getElem?_append_right (by omega)] at b
    simp [hlen] at a b
    subst a; subst b; exact hc
theorem RowsAt.get {news : List (Addr × Obj)} {vs : List Value} {cs : List (Int × Int × Int × Int)} (h : RowsAt news vs cs) {i : Nat} {v : Value} (e : vs[i]? = some v) : ∃ c, cs[i]? = some c ∧ RowAt news v c := by
  have hi : i < vs.length := (List.getElem?_eq_some_iff.mp e).1
  have hc : cs[i]? = some (cs[i]'(h.1 ▸ hi)) := List.getElem?_eq_getElem _
  exact ⟨_, hc, h.2 i v _ e hc⟩
inductive FrameRow (news : List (Addr × Obj)) (v : Value) (c p hh ww : Int) (ks : List (Int × Int × Int × Int)) : Prop
  | mk (x l : Addr) (tc tp th tw : Tok) (nn : Nat) (vs : List Value) (z0 : v = .ref x) (z1 : (x, tup [.int c tc, .int p tp, .int hh th, .int ww tw, .ref l]) ∈ news) (z2 : (l, listOf vs.toArray nn) ∈ news) (z3 : RowsAt news vs ks) : FrameRow news v c p hh ww ks
theorem FrameRow.mono {news news' : List (Addr × Obj)} {v : Value} {c p hh ww : Int} {ks : List (Int × Int × Int × Int)} (h : FrameRow news v c p hh ww ks) (hs : ∀ p ∈ news, p ∈ news') : FrameRow news' v c p hh ww ks := by
  refine hide _ fun hidP hidH => ?_
  obtain ⟨x, l, tc, tp, th, tw, nn, vs, e, a, b, r⟩ := h
  refine hidH ?_
  clear hidH
  exact ⟨x, l, tc, tp, th, tw, nn, vs, e, hs _ a, hs _ b, r.mono hs⟩
theorem fill_ (w : World) : K w.params = K w.params ∧ PySem.Challenge.rw_pf0239_01 = PySem.Challenge.rw_pf0239_01 := ⟨rfl, rfl⟩
section
variable {w : World} {cs : Scope} {c : Cx w cs} {D : Nat} {sl : Sl} {n : Led} {t : Nat}
theorem want_t (ok : c.Ok D) {b : Bool} {x : Str} {tk : Tok} {k : KV} (hD : Nat.ble 4 D = true) (h1 : b = true → ∀ t, k .none sl n t) (h2 : b = false → (∀ p ∈ c.n₀, p ∈ n) ∧ c.ke 44) : Tri c sl n t (call (.ref 203) [.bool b, .str x tk]) k :=
  (want_c w b x tk n).tri ok hD (by rintro v n' ⟨rfl, rfl, hb⟩; exact h1 hb) (by rintro C ⟨rfl, hb⟩; exact h2 hb)
theorem attr_at {x C dx : Addr} {es : List DictEntry} {k : Nat} {sl : Array (Option Value)} {name : Str} {v : Value} (ho : (x, ({ cls := .ref C, dict := some dx, slots := sl } : Obj)) ∈ n) (hd : (dx, dictOf es k) ∈ n)
    (hr : readOk (K w.params) C name = true) (hl : getL name es = some (some v)) (hh : handedIn v = true) : AttrAt w n x name v := ⟨C, dx, es, k, sl, ⟨ho, hd⟩, hr, hl, hh⟩
theorem div_t {a b : Int} {ta tb : Tok} {k : KV} (hb : (0 < b ∧ b.natAbs < 1073741824)) (h : ∀ t' t, k (.int (a / b) t') sl n t) : Tri c sl n t (binaryOp .FloorDiv (.int a ta) (.int b tb)) k :=
  fun hp H => m_div (s := c.sh hp t) hb.1 hb.2 fun t' k' => ⟨hp, sl, n, k', rfl, H, h t' k'⟩
theorem mod_t {a b : Int} {ta tb : Tok} {k : KV} (hb : 0 < b) (h : ∀ t' t, k (.int (a % b) t') sl n t) : Tri c sl n t (binaryOp .Mod (.int a ta) (.int b tb)) k :=
  fun hp H => m_mod (s := c.sh hp t) hb fun t' k' => ⟨hp, sl, n, k', rfl, H, h t' k'⟩
theorem mul_t {a b : Int} {ta tb : Tok} {k : KV} (hb : IntMulOk a b) (h : k (.int (a * b) t) sl n (t + 1)) : Tri c sl n t (binaryOp .Mult (.int a ta) (.int b tb)) k :=
  fun hp H => mul_int (s := c.sh hp t) ⟨hp, sl, n, t + 1, rfl, H, h⟩ hb
theorem bytes_t {l : Addr} {vs : List Value} {nn : Nat} {ns : List Int} {k : KV} (hm : (l, listOf vs.toArray nn) ∈ n) (hi : IntsAre vs ns) (hr : KBa.In ns) (hn : ns.length ≤ 16777216) (h : ∀ t' t, k (.bytes (byteArr ns) t') sl n t) : Tri c sl n t (call (.type "bytes") [.ref l]) k :=
  fun hp ⟨b, W, F, N⟩ => m_bytes (s := c.sh hp t) F N rfl hm hi hr hn fun h' t' k' F' N' => ⟨h', sl, n, k', rfl, ⟨b, W, F', N'⟩, h t' k'⟩
theorem bytesB_t {b : Array UInt8} {tb : Tok} {k : KV} (h : k (.bytes b tb) sl n t) : Tri c sl n t (call (.type "bytes") [.bytes b tb]) k :=
  fun hp H => m_bytesB (s := c.sh hp t) ⟨hp, sl, n, t, rfl, H, h⟩
theorem addB_t {a b : List Int} {ta tb : Tok} {k : KV} (hsz : a.length + b.length ≤ 16777216) (h : ∀ t' t, k (.bytes (byteArr (a ++ b)) t') sl n t) : Tri c sl n t (binaryOp .Add (.bytes (byteArr a) ta) (.bytes (byteArr b) tb)) k :=
  fun hp H => m_addB (s := c.sh hp t) hsz fun t' k' => ⟨hp, sl, n, k', rfl, H, h t' k'⟩
theorem lenB_t {ns : List Int} {tb : Tok} {k : KV} (hfit : ns.length ≤ 1099511627776) (h : ∀ t' t, k (.int (ns.length : Nat) t') sl n t) : Tri c sl n t (call (.builtin "len") [.bytes (byteArr ns) tb]) k :=
  fun hp H => m_lenB (s := c.sh hp t) hfit fun t' k' => ⟨hp, sl, n, k', rfl, H, h t' k'⟩
theorem itemB_t {value slice : PySem.Expr} {i : Int} {ui tb : Tok} {ns : List Int} {k : KV} (hr : KBa.In ns) (hfit : ns.length ≤ 1099511627776) (h0 : 0 ≤ i) (h1 : i < (ns.length : Int)) (h : ∀ t' t, k (.int (ns.getD i.toNat 0) t') sl n t)
    (hs : subscripted slice false (.bytes (byteArr ns) tb) (.int i ui) = operate [.bytes (byteArr ns) tb, .int i ui] (getItem (.bytes (byteArr ns) tb) (.int i ui)) := by with_unfolding_all rfl)
    (ht : ∀ r, letTemporaryGo value (.bytes (byteArr ns) tb) r = pure () := by intro _; with_unfolding_all rfl) : Tri c sl n t (subscriptTail value slice (.bytes (byteArr ns) tb) (.int i ui)) k :=
  fun hp H => m_itemB (s := c.sh hp t) hr hfit h0 h1 (fun t' k' _ _ => ⟨hp, sl, n, k', rfl, H, h t' k'⟩) hs ht
theorem eqB_t {a b : List Int} {ta tb : Tok} {k : KV} (ha : KBa.In a) (hb : KBa.In b) (h : k (.bool (decide (a = b))) sl n t) : Tri c sl n t (compareOp .Eq (.bytes (byteArr a) ta) (.bytes (byteArr b) tb)) k :=
  fun hp H => m_eqB (s := c.sh hp t) ha hb ⟨hp, sl, n, t, rfl, H, h⟩
theorem neB_t {a b : List Int} {ta tb : Tok} {k : KV} (ha : KBa.In a) (hb : KBa.In b) (h : k (.bool (decide (a ≠ b))) sl n t) : Tri c sl n t (compareOp .NotEq (.bytes (byteArr a) ta) (.bytes (byteArr b) tb)) k :=
  fun hp H => m_neB (s := c.sh hp t) ha hb ⟨hp, sl, n, t, rfl, H, h⟩
theorem len_t {l : Addr} {vs : List Value} {nn : Nat} {k : KV} (hm : (l, listOf vs.toArray nn) ∈ n) (hfit : vs.length < 2 ^ 62) (h : ∀ t' t, k (.int (vs.length : Nat) t') sl n t) : Tri c sl n t (call (.builtin "len") [.ref l]) k :=
  fun hp ⟨b, W, F, N⟩ => len_led (s := c.sh hp t) N hm hfit ⟨hp, sl, n, t + 1 + 1, rfl, ⟨b, W, F, N⟩, h _ _⟩
theorem item_t {value slice : PySem.Expr} {l : Addr} {vs : List Value} {ns : List Int} {nn : Nat} {i : Int} {u : Tok} {k : KV} (hm : (l, listOf vs.toArray nn) ∈ n) (hi : IntsAre vs ns) (h0 : 0 ≤ i) (h1 : i < ns.length) (hfit : ns.length < 2 ^ 62) (h : ∀ t' t, k (.int (ns.getD i.toNat 0) t') sl n t)
    (hs : subscripted slice false (.ref l) (.int i u) = operate [.ref l, .int i u] (getItem (.ref l) (.int i u)) := by with_unfolding_all rfl) : Tri c sl n t (subscriptTail value slice (.ref l) (.int i u)) k :=
  fun hp ⟨b, W, F, N⟩ => item_ints (s := c.sh hp t) N hm hi h0 h1 hfit (fun t' => ⟨hp, sl, n, _, rfl, ⟨b, W, F, N⟩, h _ _⟩) hs
theorem copyL_t {l : Addr} {vs : List Value} {ns : List Int} {nn : Nat} {k : KV} (hm : (l, listOf vs.toArray nn) ∈ n) (hi : IntsAre vs ns) (hz : ns.length ≤ 16777216) (h : ∀ D m, (∀ q ∈ n, q.1 < D) → k (.ref D) sl ((D, listOf vs.toArray m) :: n) t) : Tri c sl n t (call (.type "list") [.ref l]) k :=
  fun hp ⟨b, W, F, N⟩ => m_copyL (s := c.sh hp t) F N hm hi hz fun D m h' F' N' l1 => ⟨h', sl, _, t, rfl, ⟨b, W, F', N'⟩, h D m l1⟩
theorem addL_t {l l' : Addr} {vs us : List Value} {ns ks : List Int} {nn nm : Nat} {k : KV} (hm : (l, listOf vs.toArray nn) ∈ n) (hb : (l', listOf us.toArray nm) ∈ n) (hi : IntsAre vs ns) (hj : IntsAre us ks) (hz : ns.length + ks.length ≤ 16777216)
    (h : ∀ D ws, (∀ q ∈ n, q.1 < D) → IntsAre ws (ns ++ ks) → k (.ref D) sl ((D, listOf ws.toArray 0) :: n) t) : Tri c sl n t (binaryOp .Add (.ref l) (.ref l')) k :=
  fun hp ⟨b, W, F, N⟩ => m_addL (s := c.sh hp t) F N hm hb hi hj hz fun D ws h' F' N' l1 hw => ⟨h', sl, _, t, rfl, ⟨b, W, F', N'⟩, h D ws l1 hw⟩
theorem append_t {l : Addr} {vs : Array Value} {m : Nat} {v : Value} {n' : Led} {k : KV} (U : Upd l (listOf vs m) (listOf (vs.push v) (m + 1)) n n') (hz : vs.size ≤ sizeLine) (h : k .none sl n' t) : Tri c sl n t (call (.builtin "list.append") [.ref l, v]) k :=
  fun hp ⟨b, W, F, N⟩ => append_K (s := c.sh hp t) F N U (fun h' F' N' => ⟨h', sl, n', t, rfl, ⟨b, W, F', N'⟩, h⟩) hz
noncomputable def rangeObj (b : Int) (t u v : Tok) : Obj := { cls := .type "range", data := .fields #[.int 0 t, .int b u, .int 1 v] }
theorem range_t {a : Int} {ta : Tok} {k : KV} (h : ∀ r t1 u1 v1 t, (∀ p ∈ n, p.1 < r) → k (.ref r) sl ((r, rangeObj a t1 u1 v1) :: n) t) : Tri c sl n t (call (.type "range") [.int a ta]) k := by
  intro hp hz1
  refine hide _ fun hidP hidH => ?_
  obtain ⟨b, W, F, N⟩ := hz1
  refine hidH ?_
  clear hidH
  refine range1_rows (s := c.sh hp t) F N fun h' tk' t1 u1 v1 R F' N' kp => ⟨h', sl, _, tk', rfl, ⟨b, W, F', fun p hq => ?_⟩, h _ t1 u1 v1 tk' fun p hq => Heap.lt_size (N p hq).1⟩
  rcases List.mem_cons.mp hq with rfl | hq
  · refine ⟨R, fun e => ?_, next_is_new F⟩
    exact absurd F.ns.lt (e ▸ Nat.lt_irrefl _)
  · exact N' p hq
/-- a loop's values, one by one -/
noncomputable def IterT (c : Cx w cs) (x : Str) (body : List Stmt) (v : Value) (sl : Sl) (n : Led) (t : Nat) (kf : KF) : Prop :=
  ∀ b h, c.turn b → Fr b c.L h (menuOf cs.names sl) → News b c.L h n → wpAny (MM w) c.A (pyIter v) (fun it s₂ => LoopAtV PySem.Challenge.rw_pf0239_01.prog w c.A b c.env x body (Post c kf) c.E it s₂) c.E (c.sh h t)
theorem for_t (ok : c.Ok D) (one : c.One) {x : Str} {px pos : Pos} {iter : PySem.Expr} {body : List Stmt} {ix : Nat} {re : RE} {kf : KF} (hx : locIx cs x = some ix) (hi : tr cs 12 iter = re) (hs : ∀ v, foldedSetIterable iter c.env v = pure v)
    (h : vcE c re sl n t fun v sl n t => IterT c x body v sl n t kf) : Tri c sl n t (exec (.For (.Name x px) iter body [] pos) c.env) kf := by
  subst hi
  intro hp hz2
  refine hide _ fun hidP hidH => ?_
  obtain ⟨b, W, F, N⟩ := hz2
  refine hidH ?_
  clear hidH
  obtain ⟨a1, a2⟩ := locIx_of hx
  obtain ⟨b1, b2, b3⟩ := locIn_of (cn := c.cn) (L := c.L) (a := c.a) (ccd := c.ccd) (cl := c.cl) a1
  refine For_invVF (s := c.sh hp t) F b1 ?_ ((vc_ok ok 12 iter sl n t _ h).seq ?_ ⟨b, W, F, N⟩) hs ok.own
  · show (cs.kind == .class || (cs.kind == .module && _)) = false
    rw [ok.hk]; rfl
  · intro v sl' n' t' h1 h' hz3
    refine hide _ fun hidP hidH => ?_
    obtain ⟨b', W', F', N'⟩ := hz3
    refine hidH ?_
    clear hidH
    obtain rfl := one b b' W W'
    exact h1 b h' W F' N'
/-- at a turn's end -/
noncomputable def TurnEnd (J : Sl → Led → Prop) (I : Addr) (oI : Obj) (sl : Sl) (n : Led) : Prop := (I, oI) ∈ n ∧ ∃ n', (∀ p ∈ n', p ∈ n) ∧ (∀ p ∈ n', p.1 ≠ I) ∧ J sl n'
noncomputable def turnK (J : Sl → Led → Prop) (I : Addr) (oI : Obj) (kf : KF) : KF := fun fl sl n t => match fl with
  | .ret v => kf (.ret v) sl n t
  | .brk => kf .next sl n t
  | _ => TurnEnd J I oI sl n
theorem turn_post {b : Heap} (one : c.One) (W : c.turn b) {J : Sl → Led → Prop} {J' : (Str → Option Value) → List (Addr × Obj) → Prop} {I : Addr} {oI : Obj} {kf : KF} {h : Heap} {tk : Nat} {x : Sem Flow} (hJ : ∀ sl n, J sl n → J' (menuOf cs.names sl) n)
    (T : wpAny (MM w) c.A x (Post c (turnK J I oI kf)) c.E (c.sh h tk)) : wpAny (MM w) c.A x (PostJ b c.L I oI J' (c.sh h tk) (Post c kf)) c.E (c.sh h tk) := by
  refine wpAny_mono T ?_ fun _ _ e => e
  intro fl s hz4
  refine hide _ fun hidP hidH => ?_
  obtain ⟨h', sl, n, t, rfl, ⟨b', W', F, N⟩, hk⟩ := hz4
  refine hidH ?_
  clear hidH
  obtain rfl := one b b' W W'
  have e : TurnEnd J I oI sl n → EndJ b c.L I oI J' (c.sh h tk) (c.sh h' t) := by
    intro hz5
    refine hide _ fun hidP hidH => ?_
    obtain ⟨hi, n', hs, hn, hj⟩ := hz5
    refine hidH ?_
    clear hidH
    exact EndJ.intro F (fun p hp => (List.mem_cons.mp hp).elim (fun e => e ▸ N _ hi) fun hp => N _ (hs p hp)) hn (hJ _ _ hj)
  cases fl with
  | ret v => exact ⟨h', sl, n, t, rfl, ⟨b, W, F, N⟩, hk⟩
  | brk => exact ⟨h', sl, n, t, rfl, ⟨b, W, F, N⟩, hk⟩
  | next => exact e hk
  | cont => exact e hk
theorem iter_list_t (one : c.One) {x : Str} {body : List Stmt} {ix : Nat} {kf : KF} {l : Addr} {vs : List Value} {nn : Nat} (J : Nat → Sl → Led → Prop) (hx : ixOf x cs.names = some ix) (hl : (l, listOf vs.toArray nn) ∈ n) (h0 : J 0 sl n) (keepl : ∀ i sl n, J i sl n → (l, listOf vs.toArray nn) ∈ n)
    (turn : ∀ i v sl n I oI t, vs[i]? = some v → J i sl n → (∀ p ∈ n, p.1 ≠ I) → Tri c (setAt ix (some v) sl) ((I, oI) :: n) t (execs body c.env) (turnK (J (i + 1)) I oI kf))
    (done : ∀ sl n t, J vs.length sl n → kf .next sl n t) : IterT c x body (.ref l) sl n t kf := by
  intro b h W F N
  refine iterJ_list (s := c.sh h t) (env := c.env) (fun i m n' => ∃ sl, m = menuOf cs.names sl ∧ J i sl n') rfl hl F N ⟨sl, rfl, h0⟩ (fun i m n' ⟨sl, _, hj⟩ => keepl i sl n' hj) ?_ ?_
  · rintro i v m₁ n₁ I oI h' tk hv ⟨sl₁, rfl, hj⟩ hI F₁ N₁
    rw [← menuOf_set hx] at F₁
    exact turn_post one W (fun sl n hj => ⟨sl, rfl, hj⟩) (turn i v sl₁ n₁ I oI tk hv hj hI h' ⟨b, W, F₁, N₁⟩)
  · rintro m₁ n₁ h' tk ⟨sl₁, rfl, hj⟩ F₁ N₁
    exact ⟨h', sl₁, n₁, tk, rfl, ⟨b, W, F₁, N₁⟩, done sl₁ n₁ tk hj⟩
theorem iter_range_t (one : c.One) {x : Str} {body : List Stmt} {ix : Nat} {kf : KF} {r : Addr} {a : Int} {t1 u1 v1 : Tok} {N : Nat} (J : Nat → Sl → Led → Prop) (hx : ixOf x cs.names = some ix) (hr : (r, rangeObj a t1 u1 v1) ∈ n) (ha : a = (N : Int)) (hN : N < 100000) (h0 : J 0 sl n)
    (turn : ∀ i tv sl n I oI t, i < N → J i sl n → (∀ p ∈ n, p.1 ≠ I) → Tri c (setAt ix (some (.int (0 + (i : Int)) tv)) sl) ((I, oI) :: n) t (execs body c.env) (turnK (J (i + 1)) I oI kf))
    (done : ∀ sl n t, J N sl n → kf .next sl n t) : IterT c x body (.ref r) sl n t kf := by
  subst ha
  intro b h W F N'
  refine iterJ_range (s := c.sh h t) (env := c.env) (fun i m n' => ∃ sl, m = menuOf cs.names sl ∧ J i sl n') rfl (N' _ hr).1 (small_one (by omega) (by omega) (by omega) (by omega)) (range0_size _) F N' ⟨sl, rfl, h0⟩ ?_ ?_
  · rintro i tv m₁ n₁ I oI h' tk hv ⟨sl₁, rfl, hj⟩ hI F₁ N₁
    rw [← menuOf_set hx] at F₁
    exact turn_post one W (fun sl n hj => ⟨sl, rfl, hj⟩) (turn i tv sl₁ n₁ I oI tk hv hj hI h' ⟨b, W, F₁, N₁⟩)
  · rintro m₁ n₁ h' tk ⟨sl₁, rfl, hj⟩ F₁ N₁
    exact ⟨h', sl₁, n₁, tk, rfl, ⟨b, W, F₁, N₁⟩, done sl₁ n₁ tk hj⟩
/-- a comprehension's source -/
noncomputable def CompT (c : Cx w cs) (elt : PySem.Expr) (x : Str) (scope : Scope) (cl : List (Str × Addr)) (sl₀ : Sl) (k : KV) (v : Value) (sl : Sl) (n : Led) (t : Nat) : Prop :=
  sl = sl₀ ∧ ∀ b h, c.turn b → Fr b c.L h (menuOf cs.names sl₀) → News b c.L h n → LCg.CompSrc PySem.Challenge.rw_pf0239_01.prog w c.A b c.L (menuOf cs.names sl₀) c.env elt x scope cl (fun s₂ => LCg.FinE b c.L (menuOf cs.names sl₀) s₂ (Post c k)) v (c.sh h t)
theorem comp_t (ok : c.Ok D) (one : c.One) {elt iter : PySem.Expr} {x : Str} {px : Pos} {scope : Scope} {cl : List (Str × Addr)} {pos : Pos} {re : RE} {k : KV} (hcl : closureFor scope c.env = pure cl) (hnc : ∀ y ∈ scope.names, y.2 ≠ .cell) (hk : scope.kind = .function)
    (hl : ∀ y ∈ scope.names, y.2 = .local → scope.names.lookup y.1 = some .local) (hx : scope.names.lookup x = some .local) (hs : ∀ v, foldedSetIterable iter c.env v = pure v) (hi : tr cs 12 iter = re) (h : vcE c re sl n t (CompT c elt x scope cl sl k)) :
    Tri c sl n t (eval (.ListComp elt [{ target := .Name x px, iter := iter, ifs := [], is_async := 0 }] scope pos) c.env) k := by
  subst hi
  intro hp hz6
  refine hide _ fun hidP hidH => ?_
  obtain ⟨b, W, F, N⟩ := hz6
  refine hidH ?_
  clear hidH
  refine LCg.ListComp_U (s := c.sh hp t) F hcl hnc hk hl hx ((vc_ok ok 12 iter sl n t _ h).seq ?_ ⟨b, W, F, N⟩) hs
  intro v sl' n' t' hz7 h' hz8
  refine hide _ fun hidP hidH => ?_
  obtain ⟨rfl, h1⟩ := hz7
  obtain ⟨b', W', F', N'⟩ := hz8
  refine hidH ?_
  clear hidH
  obtain rfl := one b b' W W'
  exact h1 b h' W F' N'
theorem comp_ident_t (ok : c.Ok D) {x : Str} {xp ap : Pos} {scope : Scope} {cl : List (Str × Addr)} {l : Addr} {vs : List Value} {nn : Nat} {ks : List (Int × Int × Int × Int)} {k : KV} (hm : (l, listOf vs.toArray nn) ∈ n) (hcs : CompsAt n vs ks) (hz : vs.length < 1000)
    (hk : ∀ C, (compEnvC scope cl C c.env).scope.kind = .function) (hx : ∀ C, (compEnvC scope cl C c.env).kindOf x = some .local) (hd : (x == ("__debug__" : Str)) = false)
    (h : ∀ ys D' t, IntsAre ys (ks.map fun c => c.1) → LCg.Off1 D' n → k (.ref D') sl ((D', LCg.lst ys) :: n) t) : CompT c (.Attribute (.Name x xp) (Str.ofString "ident") ap) x scope cl sl k (.ref l) sl n t := by
  refine ⟨rfl, fun b hp W F N => LCg.CompSrc.ledger (s₁ := c.sh hp t) rfl F N hm (by rw [PySem.sizeLine_eq, List.size_toArray]; omega) fun g => comp_comps (fun c => c.1) hcs ?_ ?_⟩
  · intro k' x' dx h1 h2 h3 h4 t1 t2 t3 t4 ti ta td tq m I oI C oC D' m₂ ys h' tk E' hc hx' hdx hC hm2 F' N' off ne
    refine Attribute_Name_ (LCgL.ld_own (v := .ref x') N' (.tail _ (.head _)) hC hm2 ?_ (hk C) (hx C) hd)
    refine get_own (s := { c.sh g t with heap := h', toks := tk }) F' (ok.X b W) (InstAt.of_news N' (.tail _ (.tail _ (.tail _ hx'))) (.tail _ (.tail _ (.tail _ hdx)))) (by kernel_rfl) (by kernel_rfl) (attr := none) (by kernel_rfl) (by kernel_rfl) (v := .int k'.1 ti) (by kernel_rfl) rfl ?_
    exact LCg.CompEnd.intro F' N' n (fun p hp => hp) off (.inr ⟨_, hm, rfl, _, rfl⟩) ⟨rfl, _, rfl⟩
  · intro ys hi
    unfold LCg.FinE
    intro D' h' tk F' N' o1
    exact ⟨h', sl, _, tk, rfl, ⟨b, W, F', N'⟩, h ys D' tk hi o1⟩
theorem setAt_setAt : ∀ (i : Nat) (v v' : Option Value) (sl : Sl), setAt i v (setAt i v' sl) = setAt i v sl
  | 0, _, _, [] => rfl
  | 0, _, _, _ :: _ => rfl
  | i + 1, v, v', [] => congrArg (none :: ·) (setAt_setAt i v v' [])
  | i + 1, v, v', x :: r => congrArg (x :: ·) (setAt_setAt i v v' r)
/-- a loop that changes nothing but its own name -/
theorem each_t (one : c.One) {x : Str} {body : List Stmt} {ix : Nat} {kf : KF} {l : Addr} {vs : List Value} {nn : Nat} (P : Nat → Prop) (hx : ixOf x cs.names = some ix) (hl : (l, listOf vs.toArray nn) ∈ n) (h0 : P 0)
    (turn : ∀ i v I oI t, vs[i]? = some v → P i → (∀ p ∈ n, p.1 ≠ I) → Tri c (setAt ix (some v) sl) ((I, oI) :: n) t (execs body c.env) (turnK (fun sl' n' => (∃ o, sl' = setAt ix o sl) ∧ n' = n ∧ P (i + 1)) I oI kf))
    (start : sl = setAt ix (getAt sl ix) sl) (done : ∀ o t, P vs.length → kf .next (setAt ix o sl) n t) : IterT c x body (.ref l) sl n t kf := by
  refine iter_list_t one (fun i sl' n' => (∃ o, sl' = setAt ix o sl) ∧ n' = n ∧ P i) hx hl ⟨⟨_, start⟩, rfl, h0⟩ (fun i sl' n' q => q.2.1 ▸ hl) ?_ ?_
  · intro i v sl' n' I oI t hv hz9 hI
    refine hide _ fun hidP hidH => ?_
    obtain ⟨⟨o, rfl⟩, rfl, hp⟩ := hz9
    refine hidH ?_
    clear hidH
    rw [setAt_setAt]
    exact turn i v I oI t hv hp hI
  · intro sl' n' t hz10
    refine hide _ fun hidP hidH => ?_
    obtain ⟨⟨o, rfl⟩, rfl, hp⟩ := hz10
    refine hidH ?_
    clear hidH
    exact done o t hp
theorem each_end {ix : Nat} {I : Addr} {oI : Obj} {v : Option Value} {P : Prop} (hI : ∀ p ∈ n, p.1 ≠ I) (h : P) : TurnEnd (fun sl' n' => (∃ o, sl' = setAt ix o sl) ∧ n' = n ∧ P) I oI (setAt ix v sl) ((I, oI) :: n) :=
  ⟨.head _, n, fun _ hp => .tail _ hp, hI, ⟨_, rfl⟩, rfl, h⟩
noncomputable def SliceK (c : Cx w cs) (a x y : Value) (sl : Sl) (n : Led) (t : Nat) (k : KV) : Prop :=
  ∃ ns ta x' tx y' ty, a = .bytes (byteArr ns) ta ∧ x = .int x' tx ∧ y = .int y' ty ∧ KBa.In ns ∧ 0 ≤ x' ∧ x' ≤ y' ∧ y' ≤ (ns.length : Int) ∧ ns.length ≤ 16777216 ∧ ∀ t' t, k (.bytes (byteArr ((ns.drop x'.toNat).take (y' - x').toNat)) t') sl n t
theorem sliceB_t (ok : c.Ok D) {v lo hi : PySem.Expr} {p pos : Pos} {rv rlo rhi : RE} {k : KV} (h1 : tr cs 12 v = rv) (h2 : tr cs 12 lo = rlo) (h3 : tr cs 12 hi = rhi)
    (hs : ∀ ns ta r, subscripted (.Slice (some lo) (some hi) none p) false (.bytes (byteArr ns) ta) (.ref r) = operate [.ref r, .bytes (byteArr ns) ta] (getItem (.bytes (byteArr ns) ta) (.ref r)))
    (ht : ∀ ns ta r, letTemporaryGo v (.bytes (byteArr ns) ta) r = pure ())
    (h : vcE c rv sl n t fun a sl n t => vcE c rlo sl n t fun x sl n t => vcE c rhi sl n t fun y sl n t => SliceK c a x y sl n t k) : Tri c sl n t (eval (.Subscript v (.Slice (some lo) (some hi) none p) pos) c.env) k := by
  subst h1 h2 h3
  intro hp H
  refine Subscript_ ((vc_ok ok 12 v sl n t _ h).seq (fun a sl n t g1 _ H1 => wpAny_Slice (evalPart_some_step ((vc_ok ok 12 lo sl n t _ g1).seq (fun x sl n t g2 _ H2 => evalPart_some_step ((vc_ok ok 12 hi sl n t _ g2).seq (fun y sl n t g3 h3 H3 => evalPart_none_step ?_) H2)) H1))) H)
  refine hide _ fun hidP hidH => ?_
  obtain ⟨ns, ta, x', tx, y', ty, rfl, rfl, rfl, hi', a1, a2, a3, a4, hk⟩ := g3
  refine hidH ?_
  clear hidH
  refine hide _ fun hidP hidH => ?_
  obtain ⟨b, W, F, N⟩ := H3
  refine hidH ?_
  clear hidH
  exact m_sliceB (s := c.sh h3 t) F N hi' a1 a2 a3 a4 (fun h' t' k' F' N' => ⟨h', sl, n, k', rfl, ⟨b, W, F', N'⟩, hk t' k'⟩) (hs ns ta _) (ht ns ta)
/-- a part of an object set, its dict ahead -/
theorem setK_ {x C dx : Addr} {es es' : List DictEntry} {m m' : Nat} {slots : Array (Option Value)} {name : Str} {v : Value} {P : Led → Prop} {rest n : Led} (hn : n = (dx, dictOf es m) :: rest) (hx : (x, ({ cls := .ref C, dict := some dx, slots := slots } : Obj)) ∈ n) (off : ∀ p ∈ rest, p.1 ≠ dx)
    (hs : setOk (K w.params) C name = true) (hg : (getL name es).isSome = true) (hp : (putL name (PyData.keyHash w.params name) (.str name (t + 1)) v es, putN name es m) = (es', m')) (hz : es'.length ≤ 1000) (h : P ((dx, dictOf es' m') :: rest)) : SetK w n x name v t P := by
  subst hn
  exact ⟨_, ⟨C, dx, es, m, es', m', slots, ⟨hx, .head _⟩, hs, hg, hp, .head off, hz⟩, h⟩
end
theorem words_PWw_0_10 : True := by
  k_with "W:v_enter" => (((case hf => k_is); (case hc => k_is); (case hb => exact fun s => BindsTo.of_eq rfl); (case hl => exact locs rfl); (case c2 => exact rfl); (case c3 => exact rfl); (case c4 => exact rfl); (case c5 => decide); (case hs => exact rfl)))
  trivial
section
variable {w : World} {cs : Scope} {c : Cx w cs} {D : Nat} {sl : Sl} {n : Led} {t : Nat}
theorem is_frame_t (ok : c.Ok D) {i : Int} {ti : Tok} {k : KV} (hD : Nat.ble 2 D = true) (h : ∀ t, k (.bool (decide (192 ≤ i ∧ i ≤ 207 ∧ i ≠ 196 ∧ i ≠ 200 ∧ i ≠ 204))) sl n t) : Tri c sl n t (call (.ref 77) [.int i ti]) k :=
  (is_frame_c w i ti n).tri ok hD (by rintro _ _ ⟨rfl, rfl⟩; exact h) fun _ z => z.elim
theorem is_precision_t (ok : c.Ok D) {i p : Int} {ti tp : Tok} {k : KV} (hD : Nat.ble 5 D = true) (h : ∀ t, k (.bool (decide (if Int.fmod i 4 = 3 then 2 ≤ p ∧ p ≤ 16 else p = 8 ∨ (p = 12 ∧ i ≠ 192)))) sl n t) : Tri c sl n t (call (.ref 217) [.int i ti, .int p tp]) k :=
  (is_precision_c w i p ti tp n).tri ok hD (by rintro _ _ ⟨rfl, rfl⟩; exact h) fun _ z => z.elim
theorem are_unlike_t (ok : c.Ok D) {l : Addr} {vs : List Value} {ns : List Int} {nn : Nat} {k : KV} (hl : (l, listOf vs.toArray nn) ∈ n) (hi : IntsAre vs ns) (hn : ns.length < 1000) (hD : Nat.ble 2 D = true) (h : ∀ t, k (.bool (decide ns.Nodup)) sl n t) : Tri c sl n t (call (.ref 224) [.ref l]) k :=
  (are_unlike_c w l vs ns nn n hl hi hn).tri ok hD (by rintro _ _ ⟨rfl, rfl⟩; exact h) fun _ z => z.elim
end
theorem check_component_c (w : World) (x dx : Addr) (h1 h2 h3 h4 : Int) (t1 t2 t3 t4 ti ta td tq : Tok) (i a d q' : Int) (n : Nat) (news : List (Addr × Obj)) (hx : (x, instObj 150 dx) ∈ news) (hdx : (dx, dictOf [⟨h1, .str (Str.ofString "ident") t1, .int i ti⟩, ⟨h2, .str (Str.ofString "across") t2, .int a ta⟩, ⟨h3, .str (Str.ofString "down") t3, .int d td⟩, ⟨h4, .str (Str.ofString "quant") t4, .int q' tq⟩] n) ∈ news) :
    Cn w 8 231 [.ref x] news (fun v n' => v = .none ∧ n' = news ∧ CompOk (i, a, d, q')) (fun C => C = 44 ∧ ¬ CompOk (i, a, d, q')) := by
  have hfill := fill_ w
  revert hfill
  k_fill
  intro _
  refine' Cn.of (binds := [(Str.ofString "component", .ref x)]) (sl₀ := [some (.ref x)]) (z := 3) ?hf ?hc ?hb ?hl ?c2 ?c3 ?c4 ?c5 ?hs ?_
  walk_at "v_enter"
  intro c S ok one hn he hr t
  refine vc_go (f := 40) (rs := rs_check_component) ok (by kernel_rfl) (by kernel_rfl) ?_
  refine attrK (attr_at hx hdx (by kernel_rfl) (by kernel_rfl) rfl : AttrAt w news x (Str.ofString "ident") (.int i ti)) ?_
  intro t
  refine want_t ok rfl (fun h1 t => ?_) fun h1 => ⟨hn, he _ ⟨rfl, fun h => ?_⟩⟩
  rotate_left
  · obtain ⟨e1, e2, _⟩ := h; simp [e1, e2] at h1
  refine attrK (attr_at hx hdx (by kernel_rfl) (by kernel_rfl) rfl : AttrAt w news x (Str.ofString "across") (.int a ta)) ?_
  intro t
  refine want_t ok rfl (fun h2 t => ?_) fun h1 => ⟨hn, he _ ⟨rfl, fun h => ?_⟩⟩
  rotate_left
  · obtain ⟨_, _, e1, e2, _⟩ := h; simp [e1, e2] at h1
  refine attrK (attr_at hx hdx (by kernel_rfl) (by kernel_rfl) rfl : AttrAt w news x (Str.ofString "down") (.int d td)) ?_
  intro t
  refine want_t ok rfl (fun h3 t => ?_) fun h1 => ⟨hn, he _ ⟨rfl, fun h => ?_⟩⟩
  rotate_left
  · obtain ⟨_, _, _, _, e1, e2, _⟩ := h; simp [e1, e2] at h1
  refine attrK (attr_at hx hdx (by kernel_rfl) (by kernel_rfl) rfl : AttrAt w news x (Str.ofString "quant") (.int q' tq)) ?_
  intro t
  refine want_t ok rfl (fun h4 t => ?_) fun h1 => ⟨hn, he _ ⟨rfl, fun h => ?_⟩⟩
  rotate_left
  · obtain ⟨_, _, _, _, _, _, e1, e2⟩ := h; simp [e1, e2] at h1
  simp only [Bool.and_eq_true, decide_eq_true_eq] at h1 h2 h3 h4
  exact ⟨_, fun _ hp => hp, hr _ _ ⟨rfl, rfl, h1.1, h1.2, h2.1, h2.2, h3.1, h3.2, h4.1, h4.2⟩⟩
theorem check_component_t {w : World} {cs : Scope} {c : Cx w cs} {D : Nat} {sl : Sl} {n : Led} {t : Nat} (ok : c.Ok D) {v : Value} {k : Int × Int × Int × Int} {kv : KV} (h : CompAt n v k) (hD : Nat.ble 8 D = true) (h1 : CompOk k → ∀ t, kv .none sl n t) (h2 : ¬ CompOk k → (∀ p ∈ c.n₀, p ∈ n) ∧ c.ke 44) :
    Tri c sl n t (call (.ref 231) [v]) kv := by
  refine hide _ fun hidP hidH => ?_
  obtain ⟨y, dy, g1, g2, g3, g4, u1, u2, u3, u4, u5, u6, u7, u8, m, rfl, hy, hdy⟩ := h
  refine hidH ?_
  clear hidH
  exact (check_component_c w y dy _ _ _ _ _ _ _ _ _ _ _ _ _ _ _ _ _ _ hy hdy).tri ok hD (by rintro _ _ ⟨rfl, rfl, q⟩; exact h1 q) (by rintro _ ⟨rfl, q⟩; exact h2 q)
theorem all_step {α : Type} {P : α → Prop} {ks : List α} {i : Nat} {k : α} (h : ∀ j c, j < i → ks[j]? = some c → P c) (hk : ks[i]? = some k) (hp : P k) : ∀ j c, j < i + 1 → ks[j]? = some c → P c := by
  intro j c z hc
  rcases Nat.lt_succ_iff_lt_or_eq.mp z with z | rfl
  · exact h j c z hc
  · rw [hk] at hc; cases hc; exact hp
theorem all_done {α : Type} {P : α → Prop} {ks : List α} {i : Nat} (h : ∀ j c, j < i → ks[j]? = some c → P c) (e : i = ks.length) : ∀ c ∈ ks, P c := fun c hc => by
  obtain ⟨j, hj⟩ := List.getElem?_of_mem hc
  exact h j c (e ▸ (List.getElem?_eq_some_iff.mp hj).1) hj
theorem comps_at {n : Led} {vs : List Value} {ks : List (Int × Int × Int × Int)} (h : CompsAt n vs ks) {i : Nat} {v : Value} (hv : vs[i]? = some v) : ks[i]? = some (ks.getD i (0, 0, 0, 0)) ∧ CompAt n v (ks.getD i (0, 0, 0, 0)) := by
  obtain ⟨k, hk, hc⟩ := h.get hv
  have e : ks.getD i (0, 0, 0, 0) = k := by simp [List.getD, hk]
  rw [e]
  exact ⟨hk, hc⟩
theorem and_dec {p q : Prop} [Decidable p] [Decidable q] (h : (decide p && decide q) = true) : p ∧ q := by simpa using h
theorem and_dec_no {p q : Prop} [Decidable p] [Decidable q] (h : (decide p && decide q) = false) : ¬ (p ∧ q) := by simpa using h
theorem count_ok {a b : Nat} (e : a = b) (h : (1 : Int) ≤ (a : Nat) ∧ ((a : Nat) : Int) ≤ 255) : 1 ≤ b ∧ b ≤ 255 := by omega
theorem count_no {a b : Nat} (e : a = b) (h : 1 ≤ b ∧ b ≤ 255) : (1 : Int) ≤ (a : Nat) ∧ ((a : Nat) : Int) ≤ 255 := by omega
noncomputable def FrameAt5 (n : Led) (x d l : Addr) (h1 h2 h3 h4 h5 : Int) (t1 t2 t3 t4 t5 tc tp th tw : Tok) (c p hh ww : Int) (k : Nat) : Prop := (x, instObj 171 d) ∈ n ∧ (d, dictOf [⟨h1, .str (Str.ofString "code") t1, .int c tc⟩, ⟨h2, .str (Str.ofString "precision") t2, .int p tp⟩, ⟨h3, .str (Str.ofString "height") t3, .int hh th⟩, ⟨h4, .str (Str.ofString "width") t4, .int ww tw⟩, ⟨h5, .str (Str.ofString "components") t5, .ref l⟩] k) ∈ n
section
variable {w : World} {n : Led} {x d l : Addr} {h1 h2 h3 h4 h5 : Int} {t1 t2 t3 t4 t5 tc tp th tw : Tok} {c p hh ww : Int} {k : Nat} (h : FrameAt5 n x d l h1 h2 h3 h4 h5 t1 t2 t3 t4 t5 tc tp th tw c p hh ww k)
include h
theorem fa_code : AttrAt w n x (Str.ofString "code") (.int c tc) := attr_at h.1 h.2 (by kernel_rfl) (by kernel_rfl) rfl
theorem fa_precision : AttrAt w n x (Str.ofString "precision") (.int p tp) := attr_at h.1 h.2 (by kernel_rfl) (by kernel_rfl) rfl
theorem fa_height : AttrAt w n x (Str.ofString "height") (.int hh th) := attr_at h.1 h.2 (by kernel_rfl) (by kernel_rfl) rfl
theorem fa_width : AttrAt w n x (Str.ofString "width") (.int ww tw) := attr_at h.1 h.2 (by kernel_rfl) (by kernel_rfl) rfl
theorem fa_components : AttrAt w n x (Str.ofString "components") (.ref l) := attr_at h.1 h.2 (by kernel_rfl) (by kernel_rfl) rfl
end
theorem check_frame_c (w : World) (x d l : Addr) (h1 h2 h3 h4 h5 : Int) (t1 t2 t3 t4 t5 tc tp th tw : Tok) (c p hh ww : Int) (n nn : Nat) (vs : List Value) (ks : List (Int × Int × Int × Int)) (news : List (Addr × Obj)) (hx : (x, instObj 171 d) ∈ news)
    (hd : (d, dictOf [⟨h1, .str (Str.ofString "code") t1, .int c tc⟩, ⟨h2, .str (Str.ofString "precision") t2, .int p tp⟩, ⟨h3, .str (Str.ofString "height") t3, .int hh th⟩, ⟨h4, .str (Str.ofString "width") t4, .int ww tw⟩, ⟨h5, .str (Str.ofString "components") t5, .ref l⟩] n) ∈ news)
    (hl : (l, listOf vs.toArray nn) ∈ news) (hcs : CompsAt news vs ks) (hlen : ks.length < 1000) :
    Cn w 14 236 [.ref x] news (fun v n' => v = .none ∧ n' = news ∧ FrameOk c p hh ww ks) (fun C => C = 44 ∧ ¬ FrameOk c p hh ww ks) := by
  have hfill := fill_ w
  revert hfill
  k_fill
  intro _
  refine' Cn.of (binds := [(Str.ofString "head", .ref x)]) (sl₀ := [some (.ref x), none]) (z := 6) ?hf ?hc ?hb ?hl ?c2 ?c3 ?c4 ?c5 ?hs ?_
  walk_at "v_enter"
  intro cx S ok one hn he hr t
  have H : FrameAt5 news x d l h1 h2 h3 h4 h5 t1 t2 t3 t4 t5 tc tp th tw c p hh ww n := ⟨hx, hd⟩
  have hl2 : vs.length = ks.length := hcs.1
  refine vc_go (f := 40) (rs := rs_check_frame) ok (by kernel_rfl) (by kernel_rfl) ?_
  refine attrK (fa_code H) (is_frame_t ok rfl fun t => ?_)
  refine want_t ok rfl (fun q1 t => ?_) fun q => ⟨hn, he _ ⟨rfl, fun h => of_decide_eq_false q h.1⟩⟩
  refine attrK (fa_code H) (attrK (fa_precision H) (is_precision_t ok rfl fun t => ?_))
  refine want_t ok rfl (fun q2 t => ?_) fun q => ⟨hn, he _ ⟨rfl, fun h => of_decide_eq_false q h.2.1⟩⟩
  refine attrK (fa_height H) fun t => ?_
  refine want_t ok rfl (fun q3 t => ?_) fun q => ⟨hn, he _ ⟨rfl, fun h => and_dec_no q h.2.2.1⟩⟩
  refine attrK (fa_width H) fun t => ?_
  refine want_t ok rfl (fun q4 t => ?_) fun q => ⟨hn, he _ ⟨rfl, fun h => and_dec_no q h.2.2.2.1⟩⟩
  refine attrK (fa_components H) (len_t hl (by rw [hl2]; exact Nat.lt_trans hlen (by decide)) fun _ t t' => ?_)
  refine want_t ok rfl (fun q5 t => ?_) fun q => ⟨hn, he _ ⟨rfl, fun h => and_dec_no q (count_no hl2 h.2.2.2.2.1)⟩⟩
  refine for_t (ix := 1) ok one (re := .attr 0 (Str.ofString "components")) (by kernel_rfl) (by kernel_rfl) (fun _ => rfl) ?_
  refine attrK (fa_components H) ?_
  refine each_t (ix := 1) one (fun i => ∀ j c, j < i → ks[j]? = some c → CompOk c) (by kernel_rfl) hl (fun j c z => absurd z (Nat.not_lt_zero _)) (fun i v I oI t hv hp hI => ?_) rfl fun o t hp => ?_
  · refine vc_go (f := 40) (rs := rs_check_frame_5) ok (by kernel_rfl) (by kernel_rfl) ?_
    exact check_component_t ok ((comps_at hcs hv).2.mono fun p hp => .tail _ hp) rfl (fun hok t => each_end hI (all_step hp (comps_at hcs hv).1 hok)) fun q => ⟨fun p hp => .tail _ (hn p hp), he _ ⟨rfl, fun h => q (h.2.2.2.2.2.1 _ (List.mem_of_getElem? (comps_at hcs hv).1))⟩⟩
  · refine comp_t ok one (re := .attr 0 (Str.ofString "components")) (by with_unfolding_all rfl) (by decide) rfl (by decide) rfl (fun _ => rfl) (by kernel_rfl) ?_
    refine attrK (fa_components H) ?_
    refine comp_ident_t ok hl hcs (by rw [hl2]; exact hlen) (fun _ => rfl) (fun _ => rfl) (by decide) fun ys D' t hi hD' => ?_
    refine are_unlike_t ok (nn := _) (.head _) hi (by rw [List.length_map]; exact hlen) rfl fun t => ?_
    refine want_t ok rfl (fun q6 t => ?_) fun q => ⟨fun p hp => .tail _ (hn p hp), he _ ⟨rfl, fun h => of_decide_eq_false q h.2.2.2.2.2.2⟩⟩
    exact ⟨_, fun _ hp => .tail _ hp, hr _ _ ⟨rfl, rfl, of_decide_eq_true q1, of_decide_eq_true q2, and_dec q3, and_dec q4, count_ok hl2 (and_dec q5), all_done hp hl2, of_decide_eq_true q6⟩⟩
theorem off_of_lt {n : Led} {d : Addr} (h : ∀ p ∈ n, p.1 < d) : ∀ p ∈ n, p.1 ≠ d := fun p hp => Nat.ne_of_lt (h p hp)
theorem off_cons {x d : Addr} {o : Obj} {n : Led} (hx : @Ne Nat x d) (h : ∀ p ∈ n, p.1 ≠ d) : ∀ p ∈ (x, o) :: n, p.1 ≠ d := fun p hp => (List.mem_cons.mp hp).elim (fun e => e ▸ hx) (h p)
theorem swap2 {a b : Addr × Obj} {n : Led} : ∀ p ∈ b :: a :: n, p ∈ a :: b :: n := fun p hp => (List.mem_cons.mp hp).elim (fun e => e ▸ .tail _ (.head _)) fun hp => (List.mem_cons.mp hp).elim (fun e => e ▸ .head _) fun hp => .tail _ (.tail _ hp)
noncomputable abbrev compD (h1 h2 h3 h4 : Int) (t1 t2 t3 t4 : Tok) (v1 v2 v3 v4 : Value) : Obj := dictOf [⟨h1, .str (Str.ofString "ident") t1, v1⟩, ⟨h2, .str (Str.ofString "across") t2, v2⟩, ⟨h3, .str (Str.ofString "down") t3, v3⟩, ⟨h4, .str (Str.ofString "quant") t4, v4⟩] 4
theorem init_comp (w : World) (x dx : Addr) (v1 v2 v3 v4 : Value) (n : Led) (l1 : ∀ p ∈ n, p.1 < dx) (l2 : dx < x) :
    CnA w 2 147 [.ref x, v1, v2, v3, v4] ((x, instObj 150 dx) :: (dx, dictOf [] 0) :: n) (fun v n' => v = .none ∧ ∃ h1 h2 h3 h4 t1 t2 t3 t4, n' = (dx, compD h1 h2 h3 h4 t1 t2 t3 t4 v1 v2 v3 v4) :: (x, instObj 150 dx) :: n) (fun _ => False) := by
  have hfill := fill_ w
  revert hfill
  k_fill
  intro _
  refine' CnA.of (binds := [(Str.ofString "self", .ref x), (Str.ofString "ident", v1), (Str.ofString "across", v2), (Str.ofString "down", v3), (Str.ofString "quant", v4)]) (sl₀ := [some (.ref x), some v1, some v2, some v3, some v4]) (z := 0) ?hf ?hc ?hb ?hl ?c2 ?c3 ?c4 ?c5 ?hs ?_
  walk_at "v_enter"
  intro cx S ok one hn he hr t
  refine Tri.drop swap2 (vc_go (f := 40) (rs := rs_ComponentHead___init__) ok (by kernel_rfl) (by kernel_rfl) ?_)
  have off : ∀ p ∈ (x, instObj 150 dx) :: n, p.1 ≠ dx := off_cons (Nat.ne_of_gt l2) (off_of_lt l1)
  refine setK_ (es' := [⟨_, .str (Str.ofString "ident") _, v1⟩]) (m' := 1) rfl (.tail _ (.head _)) off (by kernel_rfl) rfl rfl (Nat.le_of_ble_eq_true rfl) ?_
  refine setK_ (es' := [⟨_, .str (Str.ofString "ident") _, v1⟩, ⟨_, .str (Str.ofString "across") _, v2⟩]) (m' := 2) rfl (.tail _ (.head _)) off (by kernel_rfl) (by kernel_rfl) rfl (Nat.le_of_ble_eq_true rfl) ?_
  refine setK_ (es' := [⟨_, .str (Str.ofString "ident") _, v1⟩, ⟨_, .str (Str.ofString "across") _, v2⟩, ⟨_, .str (Str.ofString "down") _, v3⟩]) (m' := 3) rfl (.tail _ (.head _)) off (by kernel_rfl) (by kernel_rfl) rfl (Nat.le_of_ble_eq_true rfl) ?_
  refine setK_ (es' := [⟨_, .str (Str.ofString "ident") _, v1⟩, ⟨_, .str (Str.ofString "across") _, v2⟩, ⟨_, .str (Str.ofString "down") _, v3⟩, ⟨_, .str (Str.ofString "quant") _, v4⟩]) (m' := 4) rfl (.tail _ (.head _)) off (by kernel_rfl) (by kernel_rfl) rfl (Nat.le_of_ble_eq_true rfl) ?_
  exact ⟨_, fun _ hp => hp, hr _ _ ⟨rfl, _, _, _, _, _, _, _, _, rfl⟩⟩
theorem new_comp {w : World} {cs : Scope} {c : Cx w cs} {D : Nat} {sl : Sl} {n : Led} {t : Nat} {v1 v2 v3 v4 : Value} {k : KV} (ok : c.Ok D) (hD : Nat.ble 4 D = true) (h : ∀ x dx h1 h2 h3 h4 t1 t2 t3 t4 t, (∀ p ∈ n, p.1 < dx) → dx < x → k (.ref x) sl ((dx, compD h1 h2 h3 h4 t1 t2 t3 t4 v1 v2 v3 v4) :: (x, instObj 150 dx) :: n) t) : Tri c sl n t (call (.ref 150) [v1, v2, v3, v4]) k :=
  class_t (R := fun x dx n' => ∃ h1 h2 h3 h4 t1 t2 t3 t4, n' = (dx, compD h1 h2 h3 h4 t1 t2 t3 t4 v1 v2 v3 v4) :: (x, instObj 150 dx) :: n) ok hD (by kernel_rfl) (by kernel_rfl) (by kernel_rfl) (fun x dx l1 l2 => init_comp w x dx v1 v2 v3 v4 n l1 l2)
    (by rintro x dx _ t l1 l2 ⟨h1, h2, h3, h4, t1, t2, t3, t4, rfl⟩; exact h x dx h1 h2 h3 h4 t1 t2 t3 t4 t l1 l2)
noncomputable abbrev frameDict (h1 h2 h3 h4 h5 : Int) (t1 t2 t3 t4 t5 : Tok) (v1 v2 v3 v4 v5 : Value) : Obj := dictOf [⟨h1, .str (Str.ofString "code") t1, v1⟩, ⟨h2, .str (Str.ofString "precision") t2, v2⟩, ⟨h3, .str (Str.ofString "height") t3, v3⟩, ⟨h4, .str (Str.ofString "width") t4, v4⟩, ⟨h5, .str (Str.ofString "components") t5, v5⟩] 5
theorem init_frame (w : World) (x dx : Addr) (v1 v2 v3 v4 v5 : Value) (n : Led) (l1 : ∀ p ∈ n, p.1 < dx) (l2 : dx < x) :
    CnA w 2 168 [.ref x, v1, v2, v3, v4, v5] ((x, instObj 171 dx) :: (dx, dictOf [] 0) :: n) (fun v n' => v = .none ∧ ∃ h1 h2 h3 h4 h5 t1 t2 t3 t4 t5, n' = (dx, frameDict h1 h2 h3 h4 h5 t1 t2 t3 t4 t5 v1 v2 v3 v4 v5) :: (x, instObj 171 dx) :: n) (fun _ => False) := by
  have hfill := fill_ w
  revert hfill
  k_fill
  intro _
  refine' CnA.of (binds := [(Str.ofString "self", .ref x), (Str.ofString "code", v1), (Str.ofString "precision", v2), (Str.ofString "height", v3), (Str.ofString "width", v4), (Str.ofString "components", v5)]) (sl₀ := [some (.ref x), some v1, some v2, some v3, some v4, some v5]) (z := 0) ?hf ?hc ?hb ?hl ?c2 ?c3 ?c4 ?c5 ?hs ?_
  walk_at "v_enter"
  intro cx S ok one hn he hr t
  refine Tri.drop swap2 (vc_go (f := 40) (rs := rs_FrameHead___init__) ok (by kernel_rfl) (by kernel_rfl) ?_)
  have off : ∀ p ∈ (x, instObj 171 dx) :: n, p.1 ≠ dx := off_cons (Nat.ne_of_gt l2) (off_of_lt l1)
  refine setK_ (es' := [⟨_, .str (Str.ofString "code") _, v1⟩]) (m' := 1) rfl (.tail _ (.head _)) off (by kernel_rfl) rfl rfl (Nat.le_of_ble_eq_true rfl) ?_
  refine setK_ (es' := [⟨_, .str (Str.ofString "code") _, v1⟩, ⟨_, .str (Str.ofString "precision") _, v2⟩]) (m' := 2) rfl (.tail _ (.head _)) off (by kernel_rfl) (by kernel_rfl) rfl (Nat.le_of_ble_eq_true rfl) ?_
  refine setK_ (es' := [⟨_, .str (Str.ofString "code") _, v1⟩, ⟨_, .str (Str.ofString "precision") _, v2⟩, ⟨_, .str (Str.ofString "height") _, v3⟩]) (m' := 3) rfl (.tail _ (.head _)) off (by kernel_rfl) (by kernel_rfl) rfl (Nat.le_of_ble_eq_true rfl) ?_
  refine setK_ (es' := [⟨_, .str (Str.ofString "code") _, v1⟩, ⟨_, .str (Str.ofString "precision") _, v2⟩, ⟨_, .str (Str.ofString "height") _, v3⟩, ⟨_, .str (Str.ofString "width") _, v4⟩]) (m' := 4) rfl (.tail _ (.head _)) off (by kernel_rfl) (by kernel_rfl) rfl (Nat.le_of_ble_eq_true rfl) ?_
  refine setK_ (es' := [⟨_, .str (Str.ofString "code") _, v1⟩, ⟨_, .str (Str.ofString "precision") _, v2⟩, ⟨_, .str (Str.ofString "height") _, v3⟩, ⟨_, .str (Str.ofString "width") _, v4⟩, ⟨_, .str (Str.ofString "components") _, v5⟩]) (m' := 5) rfl (.tail _ (.head _)) off (by kernel_rfl) (by kernel_rfl) rfl (Nat.le_of_ble_eq_true rfl) ?_
  exact ⟨_, fun _ hp => hp, hr _ _ ⟨rfl, _, _, _, _, _, _, _, _, _, _, rfl⟩⟩
theorem new_frame {w : World} {cs : Scope} {c : Cx w cs} {D : Nat} {sl : Sl} {n : Led} {t : Nat} {v1 v2 v3 v4 v5 : Value} {k : KV} (ok : c.Ok D) (hD : Nat.ble 4 D = true) (h : ∀ x dx h1 h2 h3 h4 h5 t1 t2 t3 t4 t5 t, (∀ p ∈ n, p.1 < dx) → dx < x → k (.ref x) sl ((dx, frameDict h1 h2 h3 h4 h5 t1 t2 t3 t4 t5 v1 v2 v3 v4 v5) :: (x, instObj 171 dx) :: n) t) : Tri c sl n t (call (.ref 171) [v1, v2, v3, v4, v5]) k :=
  class_t (R := fun x dx n' => ∃ h1 h2 h3 h4 h5 t1 t2 t3 t4 t5, n' = (dx, frameDict h1 h2 h3 h4 h5 t1 t2 t3 t4 t5 v1 v2 v3 v4 v5) :: (x, instObj 171 dx) :: n) ok hD (by kernel_rfl) (by kernel_rfl) (by kernel_rfl) (fun x dx l1 l2 => init_frame w x dx v1 v2 v3 v4 v5 n l1 l2)
    (by rintro x dx _ t l1 l2 ⟨h1, h2, h3, h4, h5, t1, t2, t3, t4, t5, rfl⟩; exact h x dx h1 h2 h3 h4 h5 t1 t2 t3 t4 t5 t l1 l2)
noncomputable abbrev scanDict (h1 h2 h3 h4 h5 h6 h7 : Int) (t1 t2 t3 t4 t5 t6 t7 : Tok) (v1 v2 v3 v4 v5 v6 v7 : Value) : Obj := dictOf [⟨h1, .str (Str.ofString "idents") t1, v1⟩, ⟨h2, .str (Str.ofString "dc_slots") t2, v2⟩, ⟨h3, .str (Str.ofString "ac_slots") t3, v3⟩, ⟨h4, .str (Str.ofString "start") t4, v4⟩, ⟨h5, .str (Str.ofString "end") t5, v5⟩, ⟨h6, .str (Str.ofString "high") t6, v6⟩, ⟨h7, .str (Str.ofString "low") t7, v7⟩] 7
theorem init_scan (w : World) (x dx : Addr) (v1 v2 v3 v4 v5 v6 v7 : Value) (n : Led) (l1 : ∀ p ∈ n, p.1 < dx) (l2 : dx < x) :
    CnA w 2 189 [.ref x, v1, v2, v3, v4, v5, v6, v7] ((x, instObj 192 dx) :: (dx, dictOf [] 0) :: n) (fun v n' => v = .none ∧ ∃ h1 h2 h3 h4 h5 h6 h7 t1 t2 t3 t4 t5 t6 t7, n' = (dx, scanDict h1 h2 h3 h4 h5 h6 h7 t1 t2 t3 t4 t5 t6 t7 v1 v2 v3 v4 v5 v6 v7) :: (x, instObj 192 dx) :: n) (fun _ => False) := by
  have hfill := fill_ w
  revert hfill
  k_fill
  intro _
  refine' CnA.of (binds := [(Str.ofString "self", .ref x), (Str.ofString "idents", v1), (Str.ofString "dc_slots", v2), (Str.ofString "ac_slots", v3), (Str.ofString "start", v4), (Str.ofString "end", v5), (Str.ofString "high", v6), (Str.ofString "low", v7)]) (sl₀ := [some (.ref x), some v1, some v2, some v3, some v4, some v5, some v6, some v7]) (z := 0) ?hf ?hc ?hb ?hl ?c2 ?c3 ?c4 ?c5 ?hs ?_
  walk_at "v_enter"
  intro cx S ok one hn he hr t
  refine Tri.drop swap2 (vc_go (f := 40) (rs := rs_ScanHead___init__) ok (by kernel_rfl) (by kernel_rfl) ?_)
  have off : ∀ p ∈ (x, instObj 192 dx) :: n, p.1 ≠ dx := off_cons (Nat.ne_of_gt l2) (off_of_lt l1)
  refine setK_ (es' := [⟨_, .str (Str.ofString "idents") _, v1⟩]) (m' := 1) rfl (.tail _ (.head _)) off (by kernel_rfl) rfl rfl (Nat.le_of_ble_eq_true rfl) ?_
  refine setK_ (es' := [⟨_, .str (Str.ofString "idents") _, v1⟩, ⟨_, .str (Str.ofString "dc_slots") _, v2⟩]) (m' := 2) rfl (.tail _ (.head _)) off (by kernel_rfl) (by kernel_rfl) rfl (Nat.le_of_ble_eq_true rfl) ?_
  refine setK_ (es' := [⟨_, .str (Str.ofString "idents") _, v1⟩, ⟨_, .str (Str.ofString "dc_slots") _, v2⟩, ⟨_, .str (Str.ofString "ac_slots") _, v3⟩]) (m' := 3) rfl (.tail _ (.head _)) off (by kernel_rfl) (by kernel_rfl) rfl (Nat.le_of_ble_eq_true rfl) ?_
  refine setK_ (es' := [⟨_, .str (Str.ofString "idents") _, v1⟩, ⟨_, .str (Str.ofString "dc_slots") _, v2⟩, ⟨_, .str (Str.ofString "ac_slots") _, v3⟩, ⟨_, .str (Str.ofString "start") _, v4⟩]) (m' := 4) rfl (.tail _ (.head _)) off (by kernel_rfl) (by kernel_rfl) rfl (Nat.le_of_ble_eq_true rfl) ?_
  refine setK_ (es' := [⟨_, .str (Str.ofString "idents") _, v1⟩, ⟨_, .str (Str.ofString "dc_slots") _, v2⟩, ⟨_, .str (Str.ofString "ac_slots") _, v3⟩, ⟨_, .str (Str.ofString "start") _, v4⟩, ⟨_, .str (Str.ofString "end") _, v5⟩]) (m' := 5) rfl (.tail _ (.head _)) off (by kernel_rfl) (by kernel_rfl) rfl (Nat.le_of_ble_eq_true rfl) ?_
  refine setK_ (es' := [⟨_, .str (Str.ofString "idents") _, v1⟩, ⟨_, .str (Str.ofString "dc_slots") _, v2⟩, ⟨_, .str (Str.ofString "ac_slots") _, v3⟩, ⟨_, .str (Str.ofString "start") _, v4⟩, ⟨_, .str (Str.ofString "end") _, v5⟩, ⟨_, .str (Str.ofString "high") _, v6⟩]) (m' := 6) rfl (.tail _ (.head _)) off (by kernel_rfl) (by kernel_rfl) rfl (Nat.le_of_ble_eq_true rfl) ?_
  refine setK_ (es' := [⟨_, .str (Str.ofString "idents") _, v1⟩, ⟨_, .str (Str.ofString "dc_slots") _, v2⟩, ⟨_, .str (Str.ofString "ac_slots") _, v3⟩, ⟨_, .str (Str.ofString "start") _, v4⟩, ⟨_, .str (Str.ofString "end") _, v5⟩, ⟨_, .str (Str.ofString "high") _, v6⟩, ⟨_, .str (Str.ofString "low") _, v7⟩]) (m' := 7) rfl (.tail _ (.head _)) off (by kernel_rfl) (by kernel_rfl) rfl (Nat.le_of_ble_eq_true rfl) ?_
  exact ⟨_, fun _ hp => hp, hr _ _ ⟨rfl, _, _, _, _, _, _, _, _, _, _, _, _, _, _, rfl⟩⟩
theorem new_scan {w : World} {cs : Scope} {c : Cx w cs} {D : Nat} {sl : Sl} {n : Led} {t : Nat} {v1 v2 v3 v4 v5 v6 v7 : Value} {k : KV} (ok : c.Ok D) (hD : Nat.ble 4 D = true) (h : ∀ x dx h1 h2 h3 h4 h5 h6 h7 t1 t2 t3 t4 t5 t6 t7 t, (∀ p ∈ n, p.1 < dx) → dx < x → k (.ref x) sl ((dx, scanDict h1 h2 h3 h4 h5 h6 h7 t1 t2 t3 t4 t5 t6 t7 v1 v2 v3 v4 v5 v6 v7) :: (x, instObj 192 dx) :: n) t) : Tri c sl n t (call (.ref 192) [v1, v2, v3, v4, v5, v6, v7]) k :=
  class_t (R := fun x dx n' => ∃ h1 h2 h3 h4 h5 h6 h7 t1 t2 t3 t4 t5 t6 t7, n' = (dx, scanDict h1 h2 h3 h4 h5 h6 h7 t1 t2 t3 t4 t5 t6 t7 v1 v2 v3 v4 v5 v6 v7) :: (x, instObj 192 dx) :: n) ok hD (by kernel_rfl) (by kernel_rfl) (by kernel_rfl) (fun x dx l1 l2 => init_scan w x dx v1 v2 v3 v4 v5 v6 v7 n l1 l2)
    (by rintro x dx _ t l1 l2 ⟨h1, h2, h3, h4, h5, h6, h7, t1, t2, t3, t4, t5, t6, t7, rfl⟩; exact h x dx h1 h2 h3 h4 h5 h6 h7 t1 t2 t3 t4 t5 t6 t7 t l1 l2)
noncomputable abbrev rdrDict (h1 h2 : Int) (t1 t2 : Tok) (v1 v2 : Value) : Obj := dictOf [⟨h1, .str (Str.ofString "octets") t1, v1⟩, ⟨h2, .str (Str.ofString "at") t2, v2⟩] 2
theorem init_rdr (w : World) (x dx : Addr) (v1 : Value) (n : Led) (l1 : ∀ p ∈ n, p.1 < dx) (l2 : dx < x) :
    CnA w 2 98 [.ref x, v1] ((x, instObj 129 dx) :: (dx, dictOf [] 0) :: n) (fun v n' => v = .none ∧ ∃ h1 h2 t1 t2 tz, n' = (dx, rdrDict h1 h2 t1 t2 v1 (.int 0 tz)) :: (x, instObj 129 dx) :: n) (fun _ => False) := by
  have hfill := fill_ w
  revert hfill
  k_fill
  intro _
  refine' CnA.of (binds := [(Str.ofString "self", .ref x), (Str.ofString "octets", v1)]) (sl₀ := [some (.ref x), some v1]) (z := 0) ?hf ?hc ?hb ?hl ?c2 ?c3 ?c4 ?c5 ?hs ?_
  walk_at "v_enter"
  intro cx S ok one hn he hr t
  refine Tri.drop swap2 (vc_go (f := 40) (rs := rs_OctetReader___init__) ok (by kernel_rfl) (by kernel_rfl) ?_)
  have off : ∀ p ∈ (x, instObj 129 dx) :: n, p.1 ≠ dx := off_cons (Nat.ne_of_gt l2) (off_of_lt l1)
  refine setK_ (es' := [⟨_, .str (Str.ofString "octets") _, v1⟩]) (m' := 1) rfl (.tail _ (.head _)) off (by kernel_rfl) rfl rfl (Nat.le_of_ble_eq_true rfl) ?_
  refine setK_ (es' := [⟨_, .str (Str.ofString "octets") _, v1⟩, ⟨_, .str (Str.ofString "at") _, _⟩]) (m' := 2) rfl (.tail _ (.head _)) off (by kernel_rfl) (by kernel_rfl) rfl (Nat.le_of_ble_eq_true rfl) ?_
  exact ⟨_, fun _ hp => hp, hr _ _ ⟨rfl, _, _, _, _, _, rfl⟩⟩
theorem new_rdr {w : World} {cs : Scope} {c : Cx w cs} {D : Nat} {sl : Sl} {n : Led} {t : Nat} {v1 : Value} {k : KV} (ok : c.Ok D) (hD : Nat.ble 4 D = true) (h : ∀ x dx h1 h2 t1 t2 tz t, (∀ p ∈ n, p.1 < dx) → dx < x → k (.ref x) sl ((dx, rdrDict h1 h2 t1 t2 v1 (.int 0 tz)) :: (x, instObj 129 dx) :: n) t) : Tri c sl n t (call (.ref 129) [v1]) k :=
  class_t (R := fun x dx n' => ∃ h1 h2 t1 t2 tz, n' = (dx, rdrDict h1 h2 t1 t2 v1 (.int 0 tz)) :: (x, instObj 129 dx) :: n) ok hD (by kernel_rfl) (by kernel_rfl) (by kernel_rfl) (fun x dx l1 l2 => init_rdr w x dx v1 n l1 l2)
    (by rintro x dx _ t l1 l2 ⟨h1, h2, t1, t2, tz, rfl⟩; exact h x dx h1 h2 t1 t2 tz t l1 l2)
section
variable {w : World} {n : Led} {r d : Addr} {h1 h2 : Int} {t1 t2 : Tok} {v1 v2 : Value} (hr : (r, instObj 129 d) ∈ n) (hd : (d, rdrDict h1 h2 t1 t2 v1 v2) ∈ n)
include hr hd
theorem rd_octets (hh : handedIn v1 = true) : AttrAt w n r (Str.ofString "octets") v1 := attr_at hr hd (by kernel_rfl) (by kernel_rfl) hh
theorem rd_at (hh : handedIn v2 = true) : AttrAt w n r (Str.ofString "at") v2 := attr_at hr hd (by kernel_rfl) (by kernel_rfl) hh
theorem rd_left : MethAt w n r (Str.ofString "left") 105 := ⟨_, _, _, _, _, ⟨hr, hd⟩, by kernel_rfl, by kernel_rfl⟩
theorem rd_take : MethAt w n r (Str.ofString "take") 112 := ⟨_, _, _, _, _, ⟨hr, hd⟩, by kernel_rfl, by kernel_rfl⟩
theorem rd_byte : MethAt w n r (Str.ofString "byte") 119 := ⟨_, _, _, _, _, ⟨hr, hd⟩, by kernel_rfl, by kernel_rfl⟩
theorem rd_word : MethAt w n r (Str.ofString "word") 126 := ⟨_, _, _, _, _, ⟨hr, hd⟩, by kernel_rfl, by kernel_rfl⟩
end
theorem mul_r {a b : Int} (h : Builtin.Int.intBits b ≤ 64) : IntMulOk a b := IntMulOk.of_right h
theorem mul_l {a b : Int} (h : Builtin.Int.intBits a ≤ 64) : IntMulOk a b := IntMulOk.of_left h
theorem left_c (w : World) (r d : Addr) (h1 h2 : Int) (t1 t2 to_ ti : Tok) (ns : List Int) (i : Int) (n : Led) (hr : (r, instObj 129 d) ∈ n) (hd : (d, rdrDict h1 h2 t1 t2 (.bytes (byteArr ns) to_) (.int i ti)) ∈ n) (hl : ns.length < 10000) :
    Cn w 2 105 [.ref r] n (fun v n' => (∃ t, v = .int (ns.length - i) t) ∧ n' = n) (fun _ => False) := by
  have hfill := fill_ w
  revert hfill
  k_fill
  intro _
  refine' Cn.of (binds := [(Str.ofString "self", .ref r)]) (sl₀ := [some (.ref r)]) (z := 1) ?hf ?hc ?hb ?hl ?c2 ?c3 ?c4 ?c5 ?hs ?_
  walk_at "v_enter"
  intro cx S ok one hn he hr' t
  refine vc_go (f := 40) (rs := rs_OctetReader_left) ok (by kernel_rfl) (by kernel_rfl) ?_
  refine attrK (rd_octets hr hd rfl) (lenB_t (Nat.le_of_lt (Nat.lt_trans hl (by decide))) fun tv t => ?_)
  refine attrK (rd_at hr hd rfl) ?_
  exact ⟨_, fun _ hp => hp, hr' _ _ ⟨⟨_, rfl⟩, rfl⟩⟩
theorem take_c (w : World) (r d : Addr) (h1 h2 : Int) (t1 t2 to_ ti : Tok) (ns : List Int) (i : Int) (sz : Int) (tz : Tok) (rest : Led) (hr : (r, instObj 129 d) ∈ rest) (hoff : ∀ p ∈ rest, p.1 ≠ d) (hin : KBa.In ns) (hl : ns.length < 10000) (h0 : 0 ≤ i) (hz : 1 ≤ sz) (hle : i + sz ≤ ns.length) :
    Cn w 6 112 [.ref r, .int sz tz] ((d, rdrDict h1 h2 t1 t2 (.bytes (byteArr ns) to_) (.int i ti)) :: rest)
      (fun v n' => ∃ t ti', v = .bytes (byteArr ((ns.drop i.toNat).take sz.toNat)) t ∧ n' = (d, rdrDict h1 h2 t1 t2 (.bytes (byteArr ns) to_) (.int (i + sz) ti')) :: rest) (fun _ => False) := by
  have hfill := fill_ w
  revert hfill
  k_fill
  intro _
  refine' Cn.of (binds := [(Str.ofString "self", .ref r), (Str.ofString "size", .int sz tz)]) (sl₀ := [some (.ref r), some (.int sz tz), none]) (z := 2) ?hf ?hc ?hb ?hl ?c2 ?c3 ?c4 ?c5 ?hs ?_
  walk_at "v_enter"
  intro cx S ok one hn he hr' t
  refine vc_go (f := 40) (rs := rs_OctetReader_take) ok (by kernel_rfl) (by kernel_rfl) ?_
  refine methK (rd_left (.tail _ hr) (.head _)) ?_
  refine (left_c w r d h1 h2 t1 t2 to_ ti ns i _ (.tail _ hr) (.head _) hl).tri ok rfl ?_ fun _ z => z.elim
  rintro _ _ ⟨⟨tv, rfl⟩, rfl⟩ t
  refine ⟨fun e => absurd (of_decide_eq_true e) (Int.not_lt.mpr (Int.le_sub_left_of_add_le hle)), fun _ => ?_⟩
  refine sliceB_t ok (rv := .attr 0 (Str.ofString "octets")) (rlo := .attr 0 (Str.ofString "at")) (rhi := .bin (.attr 0 (Str.ofString "at")) .Add (.loc 1)) (by kernel_rfl) (by kernel_rfl) (by kernel_rfl) (fun _ _ _ => by with_unfolding_all rfl) (fun _ _ _ => by with_unfolding_all rfl) ?_
  refine attrK (rd_octets (.tail _ hr) (.head _) rfl) (attrK (rd_at (.tail _ hr) (.head _) rfl) (attrK (rd_at (.tail _ hr) (.head _) rfl) ?_))
  refine ⟨ns, _, i, _, i + sz, _, rfl, rfl, rfl, hin, h0, Int.le_add_of_nonneg_right (Int.le_trans (by decide) hz), hle, Nat.le_of_lt (Nat.lt_trans hl (by decide)), fun tv t => ?_⟩
  have e : (i + sz - i).toNat = sz.toNat := by rw [Int.add_comm, Int.add_sub_cancel]
  rw [e]
  refine bytesB_t ?_
  refine attrK (rd_at (.tail _ hr) (.head _) rfl) ?_
  refine setK_ (es' := [⟨h1, .str (Str.ofString "octets") t1, .bytes (byteArr ns) to_⟩, ⟨h2, .str (Str.ofString "at") t2, .int (i + sz) _⟩]) (m' := 2) rfl (.tail _ hr) hoff (by kernel_rfl) (by kernel_rfl) rfl (Nat.le_of_ble_eq_true rfl) ?_
  exact ⟨_, fun _ hp => hp, hr' _ _ ⟨_, _, rfl, rfl⟩⟩
section
variable {w : World} {cs : Scope} {c : Cx w cs} {D : Nat} {sl : Sl} {n : Led} {t : Nat} {r d : Addr} {h1 h2 : Int} {t1 t2 to_ ti tz : Tok} {ns : List Int} {i sz : Int} {rest : Led} {k : KV} (ok : c.Ok D)
include ok
theorem take_t (hs : ∀ p ∈ (d, rdrDict h1 h2 t1 t2 (.bytes (byteArr ns) to_) (.int i ti)) :: rest, p ∈ n) (hr : (r, instObj 129 d) ∈ rest) (hoff : ∀ p ∈ rest, p.1 ≠ d) (hin : KBa.In ns) (hl : ns.length < 10000) (h0 : 0 ≤ i) (hz : 1 ≤ sz) (hle : i + sz ≤ ns.length) (hD : Nat.ble 6 D = true)
    (h : ∀ tv ti' t, k (.bytes (byteArr ((ns.drop i.toNat).take sz.toNat)) tv) sl ((d, rdrDict h1 h2 t1 t2 (.bytes (byteArr ns) to_) (.int (i + sz) ti')) :: rest) t) : Tri c sl n t (call (.ref 112) [.ref r, .int sz tz]) k :=
  Tri.drop hs ((take_c w r d h1 h2 t1 t2 to_ ti ns i sz tz rest hr hoff hin hl h0 hz hle).tri ok hD (by rintro _ _ ⟨tv, ti', rfl, rfl⟩; exact h tv ti') fun _ z => z.elim)
end
theorem in_getD {ns : List Int} {j : Nat} (h : KBa.In ns) : 0 ≤ ns.getD j 0 ∧ ns.getD j 0 < 256 := by
  rw [List.getD_eq_getElem?_getD]
  cases e : ns[j]? with
  | none => exact ⟨by decide, by decide⟩
  | some v => exact h v (List.mem_of_getElem? e)
theorem in_part {ns : List Int} {a b : Nat} (h : KBa.In ns) : KBa.In ((ns.drop a).take b) := fun x hx => h x (List.mem_of_mem_drop (List.mem_of_mem_take hx))
theorem part_get {ns : List Int} {a b j : Nat} (hj : j < b) : ((ns.drop a).take b).getD j 0 = ns.getD (a + j) 0 := by
  rw [List.getD_eq_getElem?_getD, List.getD_eq_getElem?_getD, List.getElem?_take, if_pos hj, List.getElem?_drop]
theorem part_len {ns : List Int} {i sz : Int} (h0 : 0 ≤ i) (hz : 0 ≤ sz) (hle : i + sz ≤ ns.length) : ((ns.drop i.toNat).take sz.toNat).length = sz.toNat := by
  rw [List.length_take, List.length_drop]; omega
theorem byte_c (w : World) (r d : Addr) (h1 h2 : Int) (t1 t2 to_ ti : Tok) (ns : List Int) (i : Int) (rest : Led) (hr : (r, instObj 129 d) ∈ rest) (hoff : ∀ p ∈ rest, p.1 ≠ d) (hin : KBa.In ns) (hl : ns.length < 10000) (h0 : 0 ≤ i) (hle : i + 1 ≤ ns.length) :
    Cn w 8 119 [.ref r] ((d, rdrDict h1 h2 t1 t2 (.bytes (byteArr ns) to_) (.int i ti)) :: rest)
      (fun v n' => ∃ t ti', v = .int (ns.getD i.toNat 0) t ∧ n' = (d, rdrDict h1 h2 t1 t2 (.bytes (byteArr ns) to_) (.int (i + 1) ti')) :: rest) (fun _ => False) := by
  have hfill := fill_ w
  revert hfill
  k_fill
  intro _
  refine' Cn.of (binds := [(Str.ofString "self", .ref r)]) (sl₀ := [some (.ref r)]) (z := 0) ?hf ?hc ?hb ?hl ?c2 ?c3 ?c4 ?c5 ?hs ?_
  walk_at "v_enter"
  intro cx S ok one hn he hr' t
  refine vc_go (f := 40) (rs := rs_OctetReader_byte) ok (by kernel_rfl) (by kernel_rfl) ?_
  refine methK (rd_take (.tail _ hr) (.head _)) ?_
  refine take_t ok (fun _ hp => hp) hr hoff hin hl h0 (by decide) hle rfl fun tv ti' t => ?_
  have e := part_len (sz := 1) h0 (by decide) hle
  refine itemB_t (in_part hin) (by rw [e]; decide) (by decide) (by rw [e]; decide) fun tv t => ?_
  rw [part_get (by decide)]
  exact ⟨_, fun _ hp => hp, hr' _ _ ⟨_, _, rfl, rfl⟩⟩
theorem rword_c (w : World) (r d : Addr) (h1 h2 : Int) (t1 t2 to_ ti : Tok) (ns : List Int) (i : Int) (rest : Led) (hr : (r, instObj 129 d) ∈ rest) (hoff : ∀ p ∈ rest, p.1 ≠ d) (hin : KBa.In ns) (hl : ns.length < 10000) (h0 : 0 ≤ i) (hle : i + 2 ≤ ns.length) :
    Cn w 8 126 [.ref r] ((d, rdrDict h1 h2 t1 t2 (.bytes (byteArr ns) to_) (.int i ti)) :: rest)
      (fun v n' => ∃ t ti', v = .int (ns.getD i.toNat 0 * 256 + ns.getD (i.toNat + 1) 0) t ∧ n' = (d, rdrDict h1 h2 t1 t2 (.bytes (byteArr ns) to_) (.int (i + 2) ti')) :: rest) (fun _ => False) := by
  have hfill := fill_ w
  revert hfill
  k_fill
  intro _
  refine' Cn.of (binds := [(Str.ofString "self", .ref r)]) (sl₀ := [some (.ref r), none]) (z := 0) ?hf ?hc ?hb ?hl ?c2 ?c3 ?c4 ?c5 ?hs ?_
  walk_at "v_enter"
  intro cx S ok one hn he hr' t
  refine vc_go (f := 40) (rs := rs_OctetReader_word) ok (by kernel_rfl) (by kernel_rfl) ?_
  refine methK (rd_take (.tail _ hr) (.head _)) ?_
  refine take_t ok (fun _ hp => hp) hr hoff hin hl h0 (by decide) hle rfl fun tv ti' t => ?_
  have e := part_len (sz := 2) h0 (by decide) hle
  refine itemB_t (in_part hin) (by rw [e]; decide) (by decide) (by rw [e]; decide) fun tv t => ?_
  rw [part_get (by decide)]
  refine mul_t (mul_r (by decide +kernel)) ?_
  refine itemB_t (in_part hin) (by rw [e]; decide) (by decide) (by rw [e]; decide) fun tv t => ?_
  rw [part_get (by decide)]
  exact ⟨_, fun _ hp => hp, hr' _ _ ⟨_, _, rfl, rfl⟩⟩
section
variable {w : World} {cs : Scope} {c : Cx w cs} {D : Nat} {sl : Sl} {n : Led} {t : Nat} {r d : Addr} {h1 h2 : Int} {t1 t2 to_ ti tz : Tok} {ns : List Int} {i sz : Int} {rest : Led} {k : KV} (ok : c.Ok D)
include ok
theorem byte_t (hs : ∀ p ∈ (d, rdrDict h1 h2 t1 t2 (.bytes (byteArr ns) to_) (.int i ti)) :: rest, p ∈ n) (hr : (r, instObj 129 d) ∈ rest) (hoff : ∀ p ∈ rest, p.1 ≠ d) (hin : KBa.In ns) (hl : ns.length < 10000) (h0 : 0 ≤ i) (hle : i + 1 ≤ ns.length) (hD : Nat.ble 8 D = true)
    (h : ∀ tv ti' t, k (.int (ns.getD i.toNat 0) tv) sl ((d, rdrDict h1 h2 t1 t2 (.bytes (byteArr ns) to_) (.int (i + 1) ti')) :: rest) t) : Tri c sl n t (call (.ref 119) [.ref r]) k :=
  Tri.drop hs ((byte_c w r d h1 h2 t1 t2 to_ ti ns i rest hr hoff hin hl h0 hle).tri ok hD (by rintro _ _ ⟨tv, ti', rfl, rfl⟩; exact h tv ti') fun _ z => z.elim)
theorem rword_t (hs : ∀ p ∈ (d, rdrDict h1 h2 t1 t2 (.bytes (byteArr ns) to_) (.int i ti)) :: rest, p ∈ n) (hr : (r, instObj 129 d) ∈ rest) (hoff : ∀ p ∈ rest, p.1 ≠ d) (hin : KBa.In ns) (hl : ns.length < 10000) (h0 : 0 ≤ i) (hle : i + 2 ≤ ns.length) (hD : Nat.ble 8 D = true)
    (h : ∀ tv ti' t, k (.int (ns.getD i.toNat 0 * 256 + ns.getD (i.toNat + 1) 0) tv) sl ((d, rdrDict h1 h2 t1 t2 (.bytes (byteArr ns) to_) (.int (i + 2) ti')) :: rest) t) : Tri c sl n t (call (.ref 126) [.ref r]) k :=
  Tri.drop hs ((rword_c w r d h1 h2 t1 t2 to_ ti ns i rest hr hoff hin hl h0 hle).tri ok hD (by rintro _ _ ⟨tv, ti', rfl, rfl⟩; exact h tv ti') fun _ z => z.elim)
end
theorem sub_cons {a : Addr × Obj} {l n : Led} (h : a ∈ n) (hs : ∀ p ∈ l, p ∈ n) : ∀ p ∈ a :: l, p ∈ n := List.forall_mem_cons.mpr ⟨h, hs⟩
theorem sub_up {a : Addr × Obj} {l n : Led} (hs : ∀ p ∈ l, p ∈ n) : ∀ p ∈ l, p ∈ a :: n := fun p hp => .tail _ (hs p hp)
theorem sub_id {l : Led} : ∀ p ∈ l, p ∈ l := fun _ hp => hp
theorem words_PWw_0_11 : True := by
  k_with "W:v_mem" => (first | assumption | exact List.mem_cons_self | (refine List.mem_cons_of_mem _ ?_; walk_at "v_mem"))
  k_with "W:v_sub" => (first | exact sub_id | assumption | exact sub_up sub_id | exact sub_up (sub_up sub_id) | exact sub_up (sub_up (sub_up sub_id)) | exact sub_up (sub_up (sub_up (sub_up sub_id))) | exact sub_up (sub_up (sub_up (sub_up (sub_up sub_id)))) | exact sub_up (sub_up (sub_up (sub_up (sub_up (sub_up sub_id))))) | exact sub_up (sub_up (sub_up (sub_up (sub_up (sub_up (sub_up sub_id)))))) | (refine sub_cons ?_ ?_; (focus walk_at "v_mem"); walk_at "v_sub"))
  trivial
theorem IterT.drop {w : World} {cs : Scope} {c : Cx w cs} {x : Str} {body : List Stmt} {v : Value} {sl : Sl} {n n' : Led} {t : Nat} {kf : KF} (hs : ∀ p ∈ n', p ∈ n) (h : IterT c x body v sl n' t kf) : IterT c x body v sl n t kf :=
  fun b hp W F N => h b hp W F fun p hq => N p (hs p hq)
/-- the ledger while a frame's head is read: the reader's dict, the list, the rest -/
structure RF (r d l : Addr) (news : Led) (ns : List Int) (i : Nat) (vs : List Value) (rest : Led) : Prop where
  hr : (r, instObj 129 d) ∈ rest
  od : ∀ p ∈ rest, p.1 ≠ d
  ol : ∀ p ∈ rest, p.1 ≠ l
  ne : @Ne Nat d l
  cs : CompsAt rest vs (recs ns i)
  sub : ∀ p ∈ news, p ∈ rest
noncomputable abbrev rfS (c p hw ww : Value) (pay : Value) (r l : Addr) (a b e : Option Value) : Sl := [some c, some pay, some (.ref r), some p, some hw, some ww, some (.ref l), a, b, e, none]
noncomputable def rfJ (c pay p hw ww : Value) (r d l : Addr) (h1 h2 : Int) (t1 t2 to_ : Tok) (news : Led) (ns : List Int) (i : Nat) (sl : Sl) (n : Led) : Prop :=
  ∃ a b e ti at_ vs nn rest, sl = rfS c p hw ww pay r l a b e ∧ n = (d, rdrDict h1 h2 t1 t2 (.bytes (byteArr ns) to_) (.int at_ ti)) :: (l, listOf vs.toArray nn) :: rest ∧ at_ = 6 + 3 * i ∧ RF r d l news ns i vs rest
theorem recs_succ {ns : List Int} {i : Nat} : recs ns (i + 1) = recs ns i ++ [recAt ns i] := by unfold recs; rw [List.range_succ, List.map_append]; rfl
theorem rf_next {r d l x dx : Addr} {news rest : Led} {ns : List Int} {i : Nat} {vs : List Value} {g1 g2 g3 g4 c1 c2 c3 c4 : Int} {u1 u2 u3 u4 ta tb tc td : Tok} (H : RF r d l news ns i vs rest) (hk : (c1, c2, c3, c4) = recAt ns i) (hd : d < dx) (hl : l < dx) (hx : dx < x) :
    RF r d l news ns (i + 1) (vs ++ [.ref x]) ((dx, compD g1 g2 g3 g4 u1 u2 u3 u4 (.int c1 ta) (.int c2 tb) (.int c3 tc) (.int c4 td)) :: (x, instObj 150 dx) :: rest) :=
  ⟨.tail _ (.tail _ H.hr), off_cons (Nat.ne_of_gt hd) (off_cons (Nat.ne_of_gt (Nat.lt_trans hd hx)) H.od), off_cons (Nat.ne_of_gt hl) (off_cons (Nat.ne_of_gt (Nat.lt_trans hl hx)) H.ol), H.ne, by
    rw [recs_succ, ← hk]
    exact (H.cs.mono (sub_up (sub_up sub_id))).snoc ⟨x, dx, g1, g2, g3, g4, u1, u2, u3, u4, ta, tb, tc, td, 4, rfl, .tail _ (.head _), .head _⟩, sub_up (sub_up H.sub)⟩
theorem rec_at {ns : List Int} {i : Nat} {a : Int} (h : a = 6 + 3 * i) : (ns.getD a.toNat 0, ns.getD (a + 1).toNat 0 / 16, ns.getD (a + 1).toNat 0 % 16, ns.getD (a + 1 + 1).toNat 0) = recAt ns i := by
  have e1 : a.toNat = 6 + 3 * i := by omega
  have e2 : (a + 1).toNat = 7 + 3 * i := by omega
  have e3 : (a + 1 + 1).toNat = 8 + 3 * i := by omega
  rw [e1, e2, e3]; rfl
theorem next_at {i : Nat} {a : Int} (h : a = 6 + 3 * i) : a + 1 + 1 + 1 = 6 + 3 * ((i + 1 : Nat) : Int) := by omega
theorem at_le {i N : Nat} {a : Int} {ns : List Int} (h : a = 6 + 3 * i) (hi : i < N) (hN : ns.length = 6 + 3 * N) : 0 ≤ a ∧ a + 1 + 1 + 1 ≤ ns.length := by omega
section
variable {w : World} {cs : Scope} {c : Cx w cs} {D : Nat} {t : Nat}
/-- one turn -/
theorem rf_turn (ok : c.Ok D) (hD : Nat.ble 8 D = true) {cv pay p hw ww : Value} {r d l I : Addr} {h1 h2 : Int} {t1 t2 to_ ti : Tok} {news rest : Led} {ns : List Int} {i N nn : Nat} {at_ : Int} {tv b e : Option Value} {vs : List Value} {oI : Obj} {kf : KF}
    (hin : KBa.In ns) (hl : ns.length < 10000) (hi : i < N) (hN : ns.length = 6 + 3 * N) (hat : at_ = 6 + 3 * i) (H : RF r d l news ns i vs rest) (oI' : ∀ p ∈ (d, rdrDict h1 h2 t1 t2 (.bytes (byteArr ns) to_) (.int at_ ti)) :: (l, listOf vs.toArray nn) :: rest, p.1 ≠ I) :
    vcS c rs_read_frame_6 (rfS cv p hw ww pay r l tv b e) ((I, oI) :: (d, rdrDict h1 h2 t1 t2 (.bytes (byteArr ns) to_) (.int at_ ti)) :: (l, listOf vs.toArray nn) :: rest) t
      (turnK (rfJ cv pay p hw ww r d l h1 h2 t1 t2 to_ news ns (i + 1)) I oI kf) := by
  have ne1 : @Ne Nat I d := Ne.symm (oI' _ (.head _))
  have ne2 : @Ne Nat I l := Ne.symm (oI' _ (.tail _ (.head _)))
  have od : ∀ p ∈ (I, oI) :: (l, listOf vs.toArray nn) :: rest, p.1 ≠ d := off_cons ne1 (off_cons (Ne.symm H.ne) H.od)
  have mr : (r, instObj 129 d) ∈ (I, oI) :: (l, listOf vs.toArray nn) :: rest := .tail _ (.tail _ H.hr)
  obtain ⟨b0, b3⟩ := at_le hat hi hN
  have b2 : at_ + 1 + 1 ≤ ns.length := Int.le_trans (Int.le_add_one (Int.le_refl _)) b3
  have b1 : at_ + 1 ≤ ns.length := Int.le_trans (Int.le_add_one (Int.le_refl _)) b2
  refine methK (rd_byte (.tail _ (.tail _ (.tail _ H.hr))) (.tail _ (.head _))) (byte_t ok (by walk_at "v_sub") mr od hin hl b0 b1 hD fun tv1 ti1 t => ?_)
  refine methK (rd_byte (.tail _ mr) (.head _)) (byte_t ok sub_id mr od hin hl (Int.le_add_one b0) b2 hD fun tv2 ti2 t => ?_)
  refine ⟨⟨_, _, .tail _ (.tail _ (.head _))⟩, ?_⟩
  refine div_t (by decide) fun tv3 t => mod_t (by decide) fun tv4 t => ?_
  refine methK (rd_byte (.tail _ mr) (.head _)) (byte_t ok sub_id mr od hin hl (Int.le_add_one (Int.le_add_one b0)) b3 hD fun tv5 ti5 t => ?_)
  refine new_comp ok (Nat.ble_eq_true_of_le (Nat.le_trans (by decide) (Nat.le_of_ble_eq_true hD))) fun x dx g1 g2 g3 g4 u1 u2 u3 u4 t l1 l2 => ?_
  have q1 : d < dx := l1 _ (.head _)
  have q2 : I < dx := l1 _ (.tail _ (.head _))
  have q3 : l < dx := l1 _ (.tail _ (.tail _ (.head _)))
  have H' := rf_next (g1 := g1) (g2 := g2) (g3 := g3) (g4 := g4) (u1 := u1) (u2 := u2) (u3 := u3) (u4 := u4) (ta := tv1) (tb := tv3) (tc := tv4) (td := tv5) H (rec_at hat) q1 q3 l2
  refine Tri.drop (by walk_at "v_sub") (append_t (.head (off_cons H.ne (off_cons ne2 H'.ol))) ?_ ?_)
  · rw [PySem.sizeLine_eq]
    have := H.cs.1
    rw [recs_len] at this
    have e : vs.toArray.size = i := this
    rw [e]
    omega
  rw [List.push_toArray]
  exact ⟨.tail _ (.tail _ (.head _)), _, sub_cons (.tail _ (.head _)) (sub_cons (.head _) (sub_up (sub_up (sub_up sub_id)))),
    off_cons (Ne.symm ne1) (off_cons (Ne.symm ne2) (off_cons (Nat.ne_of_gt q2) (off_cons (Nat.ne_of_gt (Nat.lt_trans q2 l2)) fun p hp => oI' p (.tail _ (.tail _ hp))))), _, _, _, _, _, _, _, _, rfl, rfl, next_at hat, H'⟩
end
section
variable {w : World} {cs : Scope} {cx : Cx w cs} {D : Nat} {sl : Sl} {n : Led} {t : Nat} {x d l : Addr} {h1 h2 h3 h4 h5 : Int} {t1 t2 t3 t4 t5 tc tp th tw : Tok} {c p hh ww : Int} {m nn : Nat} {vs : List Value} {ks : List (Int × Int × Int × Int)} {k : KV}
theorem check_frame_t (ok : cx.Ok D) (H : FrameAt5 n x d l h1 h2 h3 h4 h5 t1 t2 t3 t4 t5 tc tp th tw c p hh ww m) (hl : (l, listOf vs.toArray nn) ∈ n) (hcs : CompsAt n vs ks) (hlen : ks.length < 1000) (hD : Nat.ble 14 D = true)
    (q1 : FrameOk c p hh ww ks → ∀ t, k .none sl n t) (q2 : ¬ FrameOk c p hh ww ks → (∀ p ∈ cx.n₀, p ∈ n) ∧ cx.ke 44) : Tri cx sl n t (call (.ref 236) [.ref x]) k :=
  (check_frame_c w x d l h1 h2 h3 h4 h5 t1 t2 t3 t4 t5 tc tp th tw c p hh ww m nn vs ks n H.1 H.2 hl hcs hlen).tri ok hD (by rintro _ _ ⟨rfl, rfl, q⟩; exact q1 q) (by rintro _ ⟨rfl, q⟩; exact q2 q)
end
theorem pay_len {ns : List Int} (h0 : 0 ≤ ns.getD 5 0) (h : payOk ns) : ns.length = 6 + 3 * (ns.getD 5 0).toNat := by
  have h5 := h.2
  omega
theorem read_frame_c (w : World) (c : Int) (tc tp : Tok) (ns : List Int) (news : List (Addr × Obj)) (hin : KBa.In ns) (hl : ns.length < 10000) :
    Cn w 20 243 [.int c tc, .bytes (byteArr ns) tp] news (fun v n' => (payOk ns ∧ FrameOk c (ns.getD 0 0) (frH ns) (frW ns) (frK ns)) ∧ (∀ p ∈ news, p ∈ n') ∧ FrameAt n' v c (ns.getD 0 0) (frH ns) (frW ns) (frK ns)) (fun C => C = 44 ∧ ¬ (payOk ns ∧ FrameOk c (ns.getD 0 0) (frH ns) (frW ns) (frK ns))) := by
  have hfill := fill_ w
  revert hfill
  k_fill
  intro _
  refine' Cn.of (binds := [(Str.ofString "code", .int c tc), (Str.ofString "payload", .bytes (byteArr ns) tp)]) (sl₀ := [some (.int c tc), some (.bytes (byteArr ns) tp), none, none, none, none, none, none, none, none, none]) (z := 7) ?hf ?hc ?hb ?hl ?c2 ?c3 ?c4 ?c5 ?hs ?_
  walk_at "v_enter"
  intro cx S ok one hn he hr t
  have fit : ns.length ≤ 1099511627776 := Nat.le_of_lt (Nat.lt_trans hl (by decide))
  refine vc_go (f := 40) (rs := rs_read_frame) ok (by kernel_rfl) (by kernel_rfl) ?_
  refine lenB_t fit fun tv t => ⟨fun e1 => ?_, fun e1 => ?_⟩
  rotate_left
  · refine want_t ok rfl (fun e t => ?_) fun _ => ⟨hn, he _ ⟨rfl, fun h => of_decide_eq_false e1 h.1.1⟩⟩
    rw [e1] at e; cases e
  have g6 := of_decide_eq_true e1
  refine lenB_t fit fun tv t => itemB_t hin fit (by decide) (Int.lt_of_lt_of_le (by decide) g6) fun tv t => ?_
  refine mul_t (mul_l (by decide +kernel)) ?_
  refine want_t ok rfl (fun e2 t => ?_) fun e => ⟨hn, he _ ⟨rfl, fun h => ?_⟩⟩
  rotate_left
  · rw [beq_eq_false_iff_ne] at e; exact e h.1.2
  have hp : payOk ns := ⟨g6, eq_of_beq e2⟩
  have hlen := pay_len (in_getD hin).1 hp
  refine new_rdr ok rfl fun r d h1 h2 t1 t2 tz t l1 l2 => ?_
  have od : ∀ p ∈ (r, instObj 129 d) :: news, p.1 ≠ d := off_cons (Nat.ne_of_gt l2) (off_of_lt l1)
  have b1 : (0 : Int) + 1 ≤ ns.length := Int.le_trans (by decide) g6
  have b2 : (0 : Int) + 1 + 2 ≤ ns.length := Int.le_trans (by decide) g6
  have b3 : (0 : Int) + 1 + 2 + 2 ≤ ns.length := Int.le_trans (by decide) g6
  have b4 : (0 : Int) + 1 + 2 + 2 + 1 ≤ ns.length := Int.le_trans (by decide) g6
  refine methK (rd_byte (.tail _ (.head _)) (.head _)) (byte_t ok sub_id (.head _) od hin hl (by decide) b1 rfl fun tv1 ti1 t => ?_)
  refine methK (rd_word (.tail _ (.head _)) (.head _)) (rword_t ok sub_id (.head _) od hin hl (by decide) b2 rfl fun tv2 ti2 t => ?_)
  refine methK (rd_word (.tail _ (.head _)) (.head _)) (rword_t ok sub_id (.head _) od hin hl (by decide) b3 rfl fun tv3 ti3 t => ?_)
  refine ⟨by decide, fun l l3 => ?_⟩
  have dl : d < l := l3 _ (.head _)
  have od2 : ∀ p ∈ (l, listOf [].toArray 0) :: (r, instObj 129 d) :: news, p.1 ≠ d := off_cons (Nat.ne_of_gt dl) od
  refine for_t (ix := 7) ok one (re := .call (.type "range") (.cons (.meth 2 (Str.ofString "byte") .nil) .nil)) (by kernel_rfl) (by kernel_rfl) (fun _ => rfl) ?_
  refine methK (rd_byte (.tail _ (.tail _ (.head _))) (.tail _ (.head _))) (byte_t ok (by walk_at "v_sub") (.tail _ (.head _)) od2 hin hl (by decide) b4 rfl fun tv4 ti4 t => ?_)
  refine range_t fun rg u1 u2 u3 t l4 => ?_
  have H0 : RF r d l news ns 0 [] ((rg, rangeObj (ns.getD 5 0) u1 u2 u3) :: (r, instObj 129 d) :: news) :=
    ⟨.tail _ (.head _), off_cons (Nat.ne_of_gt (l4 _ (.head _))) od, off_cons (Nat.ne_of_gt (l4 _ (.tail _ (.head _)))) (off_of_lt fun p hp => l3 p (.tail _ hp)), Nat.ne_of_lt dl, CompsAt.nil, sub_up (sub_up sub_id)⟩
  refine IterT.drop (sub_cons (.tail _ (.head _)) (sub_cons (.tail _ (.tail _ (.head _))) (sub_cons (.head _) (sub_up (sub_up (sub_up sub_id)))))) ?_
  refine iter_range_t (ix := 7) (N := (ns.getD 5 0).toNat) one (fun i => rfJ (.int c tc) (.bytes (byteArr ns) tp) (.int (ns.getD 0 0) tv1) (.int (frH ns) tv2) (.int (frW ns) tv3) r d l h1 h2 t1 t2 tp news ns i) (by kernel_rfl) (.tail _ (.tail _ (.head _))) (Int.toNat_of_nonneg (in_getD hin).1).symm (by omega) ⟨_, _, _, ti4, _, [], 0, _, rfl, rfl, rfl, H0⟩ ?_ ?_
  · intro i tv sl n I oI t hi hz1 hI
    refine hide _ fun hidP hidH => ?_
    obtain ⟨a, b, e, ti, at_, vs, nn, rest, rfl, rfl, hat, H⟩ := hz1
    refine hidH ?_
    clear hidH
    exact vc_go (f := 40) (rs := rs_read_frame_6) ok (by kernel_rfl) (by kernel_rfl) (rf_turn ok rfl hin hl hi hlen hat H hI)
  · intro sl n t hz2
    refine hide _ fun hidP hidH => ?_
    obtain ⟨a, b, e, ti, at_, vs, nn, rest, rfl, rfl, hat, H⟩ := hz2
    refine hidH ?_
    clear hidH
    refine new_frame ok rfl fun x dx g1 g2 g3 g4 g5 u1 u2 u3 u4 u5 t l5 l6 => ?_
    refine check_frame_t ok ⟨.tail _ (.head _), .head _⟩ (.tail _ (.tail _ (.tail _ (.head _)))) (H.cs.mono (sub_up (sub_up (sub_up (sub_up sub_id))))) (recs_small (in_getD hin).2) rfl (fun q t => ?_) fun q => ⟨fun p hp => sub_up (sub_up (sub_up (sub_up H.sub))) p (hn p hp), he _ ⟨rfl, fun h => q h.2⟩⟩
    exact ⟨_, sub_id, hr _ _ ⟨⟨hp, q⟩, sub_up (sub_up (sub_up (sub_up H.sub))), ⟨x, dx, l, g1, g2, g3, g4, g5, u1, u2, u3, u4, u5, tc, tv1, tv2, tv3, 5, nn, vs, rfl, .tail _ (.head _), .head _, .tail _ (.tail _ (.tail _ (.head _))), H.cs.mono (sub_up (sub_up (sub_up (sub_up sub_id))))⟩⟩⟩
theorem comp_ref {w : World} {n : Led} {v : Value} {k : Int × Int × Int × Int} (h : CompAt n v k) : ∃ y ta tb tc td, v = .ref y ∧ AttrAt w n y (Str.ofString "ident") (.int k.1 ta) ∧ AttrAt w n y (Str.ofString "across") (.int k.2.1 tb) ∧ AttrAt w n y (Str.ofString "down") (.int k.2.2.1 tc) ∧ AttrAt w n y (Str.ofString "quant") (.int k.2.2.2 td) := by
  refine hide _ fun hidP hidH => ?_
  obtain ⟨y, dy, g1, g2, g3, g4, u1, u2, u3, u4, u5, u6, u7, u8, m, rfl, hy, hdy⟩ := h
  refine hidH ?_
  clear hidH
  exact ⟨y, u5, u6, u7, u8, rfl, attr_at hy hdy (by kernel_rfl) (by kernel_rfl) rfl, attr_at hy hdy (by kernel_rfl) (by kernel_rfl) rfl, attr_at hy hdy (by kernel_rfl) (by kernel_rfl) rfl, attr_at hy hdy (by kernel_rfl) (by kernel_rfl) rfl⟩
theorem one_in {a : Int} (h : 0 ≤ a ∧ a < 256) : KBa.In [a] := in_cons h in_nil
theorem rowB_in' {k : Int × Int × Int × Int} (h : CompOk k) : KBa.In (rowB k) := by
  unfold CompOk at h
  exact in_cons (by omega) (in_cons (by omega) (in_cons (by omega) in_nil))
theorem prec_in {c p : Int} (h : if Int.fmod c 4 = 3 then 2 ≤ p ∧ p ≤ 16 else p = 8 ∨ (p = 12 ∧ c ≠ 192)) : 0 ≤ p ∧ p < 256 := by
  split at h <;> omega
theorem len_in {n : Nat} (h : 1 ≤ n ∧ n ≤ 255) : 0 ≤ ((n : Nat) : Int) ∧ ((n : Nat) : Int) < 256 := by omega
section
variable {w : World} {cs : Scope} {c : Cx w cs} {D : Nat} {sl : Sl} {n : Led} {t : Nat} {kf : KF}
theorem word_t (ok : c.Ok D) {i : Int} {ti : Tok} {k : KV} (hD : Nat.ble 4 D = true) (h1 : 0 ≤ i ∧ i ≤ 65535) (h : ∀ tv t, k (.bytes (byteArr [i / 256, i % 256]) tv) sl n t) : Tri c sl n t (call (.ref 84) [.int i ti]) k :=
  (word_c w i ti n).tri ok hD (by rintro _ _ ⟨⟨tv, rfl⟩, rfl, _⟩; exact h tv) fun _ z => absurd h1 z.2
/-- one row written -/
theorem row_turn {x : Value} {y I : Addr} {k : Int × Int × Int × Int} {b : List Int} {tb ta tac tad taq : Tok} {oI : Obj} (hk : CompOk k) (hb : b.length < 1000000)
    (a1 : AttrAt w ((I, oI) :: n) y (Str.ofString "ident") (.int k.1 ta)) (a2 : AttrAt w ((I, oI) :: n) y (Str.ofString "across") (.int k.2.1 tac)) (a3 : AttrAt w ((I, oI) :: n) y (Str.ofString "down") (.int k.2.2.1 tad)) (a4 : AttrAt w ((I, oI) :: n) y (Str.ofString "quant") (.int k.2.2.2 taq))
    {J : Sl → Led → Prop} (hI : ∀ p ∈ n, p.1 ≠ I) (h : ∀ tv, J [some x, some (.bytes (byteArr (b ++ rowB k)) tv), some (.ref y)] n) :
    vcS c rs_write_frame_2 [some x, some (.bytes (byteArr b) tb), some (.ref y)] ((I, oI) :: n) t (turnK J I oI kf) := by
  refine attrK a1 (attrK a2 (mul_t (mul_r (by decide +kernel)) (attrK a3 (attrK a4 ⟨by simp, fun l hl => ?_⟩))))
  refine bytes_t (.head _) (.cons _ _ (.cons _ _ (.cons _ _ .nil))) (rowB_in' hk) (Nat.le_of_ble_eq_true rfl) fun tv t => addB_t ?_ fun tv t => ?_
  · show b.length + 3 ≤ 16777216
    omega
  · exact ⟨.tail _ (.head _), n, sub_up (sub_up sub_id), hI, h tv⟩
end
theorem flat_take_succ {α : Type} {ks : List α} {G : α → List Int} {i : Nat} {k : α} (hk : ks[i]? = some k) : (ks.take (i + 1)).flatMap G = (ks.take i).flatMap G ++ G k := by
  have hi := (List.getElem?_eq_some_iff.mp hk)
  rw [List.take_add_one, hk]; simp
theorem flat_take_len {ks : List (Int × Int × Int × Int)} {i : Nat} : ((ks.take i).flatMap rowB).length ≤ 3 * ks.length := by
  have e : ∀ l : List (Int × Int × Int × Int), (l.flatMap rowB).length = 3 * l.length := by
    intro l
    induction l with
    | nil => rfl
    | cons k r ih => rw [List.flatMap_cons, List.length_append, ih]; show 3 + _ = _; rw [List.length_cons]; omega
  rw [e, List.length_take]
  omega
theorem write_frame_c (w : World) (x d l : Addr) (h1 h2 h3 h4 h5 : Int) (t1 t2 t3 t4 t5 tc tp th tw : Tok) (c p hh ww : Int) (n nn : Nat) (vs : List Value) (ks : List (Int × Int × Int × Int)) (news : List (Addr × Obj)) (hx : (x, instObj 171 d) ∈ news)
    (hd : (d, dictOf [⟨h1, .str (Str.ofString "code") t1, .int c tc⟩, ⟨h2, .str (Str.ofString "precision") t2, .int p tp⟩, ⟨h3, .str (Str.ofString "height") t3, .int hh th⟩, ⟨h4, .str (Str.ofString "width") t4, .int ww tw⟩, ⟨h5, .str (Str.ofString "components") t5, .ref l⟩] n) ∈ news)
    (hl : (l, listOf vs.toArray nn) ∈ news) (hcs : CompsAt news vs ks) (hn : ks.length < 1000) :
    Cn w 18 250 [.ref x] news (fun v n' => (∃ t, v = .bytes (byteArr (frameB p hh ww ks)) t) ∧ n' = news ∧ FrameOk c p hh ww ks) (fun C => C = 44 ∧ ¬ FrameOk c p hh ww ks) := by
  have hfill := fill_ w
  revert hfill
  k_fill
  intro _
  refine' Cn.of (binds := [(Str.ofString "head", .ref x)]) (sl₀ := [some (.ref x), none, none]) (z := 4) ?hf ?hc ?hb ?hl ?c2 ?c3 ?c4 ?c5 ?hs ?_
  walk_at "v_enter"
  intro cx S ok one hn0 he hr t
  have H : FrameAt5 news x d l h1 h2 h3 h4 h5 t1 t2 t3 t4 t5 tc tp th tw c p hh ww n := ⟨hx, hd⟩
  refine vc_go (f := 40) (rs := rs_write_frame) ok (by kernel_rfl) (by kernel_rfl) ?_
  refine check_frame_t ok H hl hcs hn rfl (fun q t => ?_) fun q => ⟨hn0, he _ ⟨rfl, q⟩⟩
  have hl2 : vs.length = ks.length := hcs.1
  refine attrK (fa_precision H) ⟨by simp, fun l1 q1 => bytes_t (.head _) (.cons _ _ .nil) (one_in (prec_in q.2.1)) (Nat.le_of_ble_eq_true rfl) fun tv1 t => ?_⟩
  have H1 : FrameAt5 ((l1, listOf [.int p tp].toArray 0) :: news) x d l h1 h2 h3 h4 h5 t1 t2 t3 t4 t5 tc tp th tw c p hh ww n := ⟨.tail _ hx, .tail _ hd⟩
  refine attrK (fa_height H1) (word_t ok rfl q.2.2.1 fun tv2 t => addB_t (by simp) fun tv3 t => ?_)
  refine attrK (fa_width H1) (word_t ok rfl ⟨Int.le_trans (by decide) q.2.2.2.1.1, q.2.2.2.1.2⟩ fun tv4 t => addB_t (by simp) fun tv5 t => ?_)
  refine attrK (fa_components H1) (len_t (.tail _ hl) (by rw [hl2]; exact Nat.lt_trans hn (by decide)) fun tv6 t => ⟨by simp, fun l2 q2 => ?_⟩)
  refine bytes_t (.head _) (.cons _ _ .nil) (one_in (len_in (hl2 ▸ q.2.2.2.2.1))) (Nat.le_of_ble_eq_true rfl) fun tv7 t => addB_t (by simp) fun tv8 t => ?_
  refine for_t (ix := 2) ok one (re := .attr 0 (Str.ofString "components")) (by kernel_rfl) (by kernel_rfl) (fun _ => rfl) ?_
  refine attrK (v := .ref l) (attr_at (.tail _ (.tail _ hx)) (.tail _ (.tail _ hd)) (by kernel_rfl) (by kernel_rfl) rfl) ?_
  refine IterT.drop (sub_up (sub_up sub_id)) ?_
  refine iter_list_t (ix := 2) one (fun i sl n' => (∃ tf o, sl = [some (.ref x), some (.bytes (byteArr ([p] ++ [hh / 256, hh % 256] ++ [ww / 256, ww % 256] ++ [(vs.length : Int)] ++ (ks.take i).flatMap rowB)) tf), o]) ∧ n' = news) (by kernel_rfl) hl ⟨⟨_, _, by rw [List.take_zero, List.flatMap_nil, List.append_nil]; rfl⟩, rfl⟩ (fun i sl n' q => q.2 ▸ hl) ?_ ?_
  · intro i v sl n' I oI t hv hz1 hI
    refine hide _ fun hidP hidH => ?_
    obtain ⟨⟨tf, o, rfl⟩, rfl⟩ := hz1
    refine hidH ?_
    clear hidH
    obtain ⟨hk, hc⟩ := comps_at hcs hv
    refine hide _ fun hidP hidH => ?_
    obtain ⟨y, ta, tb, tc, td, rfl, a1, a2, a3, a4⟩ := comp_ref (w := w) (hc.mono (sub_up sub_id : ∀ p ∈ _, p ∈ (I, oI) :: _))
    refine hidH ?_
    clear hidH
    refine vc_go (f := 40) (rs := rs_write_frame_2) ok (by kernel_rfl) (by kernel_rfl) ?_
    refine row_turn (q.2.2.2.2.2.1 _ (List.mem_of_getElem? hk)) ?_ a1 a2 a3 a4 hI fun tv => ⟨⟨_, _, by rw [flat_take_succ hk, ← List.append_assoc]⟩, rfl⟩
    have := flat_take_len (ks := ks) (i := i)
    simp only [List.length_append, List.length_cons, List.length_nil]
    omega
  · intro sl n' t hz2
    refine hide _ fun hidP hidH => ?_
    obtain ⟨⟨tf, o, rfl⟩, rfl⟩ := hz2
    refine hidH ?_
    clear hidH
    refine ⟨_, sub_id, hr _ _ ⟨⟨tf, ?_⟩, rfl, q⟩⟩
    unfold frameB
    rw [hl2, List.take_length]
    rfl
/-- a scan's head in the ledger -/
structure ScanD (n : Led) (x d li ld la : Addr) (h1 h2 h3 h4 h5 h6 h7 : Int) (t1 t2 t3 t4 t5 t6 t7 ts te th tl : Tok) (st en hi lo : Int) (k : Nat) : Prop where
  o : (x, instObj 192 d) ∈ n
  d : (d, dictOf (scanEs h1 h2 h3 h4 h5 h6 h7 t1 t2 t3 t4 t5 t6 t7 ts te th tl li ld la st en hi lo) k) ∈ n
section
variable {w : World} {n n' : Led} {x d li ld la : Addr} {h1 h2 h3 h4 h5 h6 h7 : Int} {t1 t2 t3 t4 t5 t6 t7 ts te th tl : Tok} {st en hi lo : Int} {k : Nat} (h : ScanD n x d li ld la h1 h2 h3 h4 h5 h6 h7 t1 t2 t3 t4 t5 t6 t7 ts te th tl st en hi lo k)
include h
theorem ScanD.mono (hs : ∀ p ∈ n, p ∈ n') : ScanD n' x d li ld la h1 h2 h3 h4 h5 h6 h7 t1 t2 t3 t4 t5 t6 t7 ts te th tl st en hi lo k := ⟨hs _ h.o, hs _ h.d⟩
theorem sa_idents : AttrAt w n x (Str.ofString "idents") (.ref li) := attr_at h.o h.d (by kernel_rfl) (by kernel_rfl) rfl
theorem sa_dc : AttrAt w n x (Str.ofString "dc_slots") (.ref ld) := attr_at h.o h.d (by kernel_rfl) (by kernel_rfl) rfl
theorem sa_ac : AttrAt w n x (Str.ofString "ac_slots") (.ref la) := attr_at h.o h.d (by kernel_rfl) (by kernel_rfl) rfl
theorem sa_start : AttrAt w n x (Str.ofString "start") (.int st ts) := attr_at h.o h.d (by kernel_rfl) (by kernel_rfl) rfl
theorem sa_end : AttrAt w n x (Str.ofString "end") (.int en te) := attr_at h.o h.d (by kernel_rfl) (by kernel_rfl) rfl
theorem sa_high : AttrAt w n x (Str.ofString "high") (.int hi th) := attr_at h.o h.d (by kernel_rfl) (by kernel_rfl) rfl
theorem sa_low : AttrAt w n x (Str.ofString "low") (.int lo tl) := attr_at h.o h.d (by kernel_rfl) (by kernel_rfl) rfl
end
theorem ints_at {vs : List Value} {ns : List Int} (h : IntsAre vs ns) {i : Nat} {v : Value} (hv : vs[i]? = some v) : ∃ tk, ns[i]? = some (ns.getD i 0) ∧ v = .int (ns.getD i 0) tk := by
  induction h generalizing i with
  | nil => simp at hv
  | cons m tk _ ih =>
    cases i with
    | zero => simp at hv; exact ⟨tk, rfl, hv.symm⟩
    | succ i => simpa using ih hv
theorem small_len {a b : Nat} (h : a = b) (hb : b < 1000) : a < 2 ^ 62 := by omega
theorem small_len2 {a : Nat} (hb : a < 1000) : a ≤ 16777216 := by omega
theorem small_sum {a b : Nat} (ha : a < 1000) (hb : b < 1000) : a + b ≤ 16777216 := by omega
theorem n4_ok {a b : Nat} (e : a = b) (h : (1 : Int) ≤ (a : Nat) ∧ ((a : Nat) : Int) ≤ 4) : 1 ≤ b ∧ b ≤ 4 := by omega
theorem n4_no {a b : Nat} (e : a = b) (h : 1 ≤ b ∧ b ≤ 4) : (1 : Int) ≤ (a : Nat) ∧ ((a : Nat) : Int) ≤ 4 := by omega
theorem len_yes {a b a' b' : Nat} (e : a = a') (f : b = b') (h : (((a : Nat) : Int) == ((b : Nat) : Int)) = true) : a' = b' := by
  have := eq_of_beq h
  omega
theorem len_no {a b a' b' : Nat} (e : a = a') (f : b = b') (h : (((a : Nat) : Int) == ((b : Nat) : Int)) = false) : ¬ a' = b' := fun z => by
  rw [e, f, z] at h
  simp at h
theorem and_dec4 {p q r s : Prop} [Decidable p] [Decidable q] [Decidable r] [Decidable s] (h : ((decide p && decide q) = true)) (h' : (decide r && decide s) = true) : p ∧ q ∧ r ∧ s := by
  have a := and_dec h
  have b := and_dec h'
  exact ⟨a.1, a.2, b.1, b.2⟩
theorem check_scan_c (w : World) (x d li ld la : Addr) (h1 h2 h3 h4 h5 h6 h7 : Int) (t1 t2 t3 t4 t5 t6 t7 ts te th tl : Tok) (st en hi lo : Int) (n ni nd na : Nat) (vi vd va : List Value) (is ds as : List Int) (news : List (Addr × Obj)) (hx : (x, instObj 192 d) ∈ news)
    (hd : (d, dictOf (scanEs h1 h2 h3 h4 h5 h6 h7 t1 t2 t3 t4 t5 t6 t7 ts te th tl li ld la st en hi lo) n) ∈ news)
    (hli : (li, listOf vi.toArray ni) ∈ news) (hld : (ld, listOf vd.toArray nd) ∈ news) (hla : (la, listOf va.toArray na) ∈ news) (hii : IntsAre vi is) (hid : IntsAre vd ds) (hia : IntsAre va as) (hni : is.length < 1000) (hnd : ds.length < 1000) (hna : as.length < 1000) :
    Cn w 12 257 [.ref x] news (fun v n' => v = .none ∧ n' = news ∧ ScanOk is ds as st en hi lo) (fun C => C = 44 ∧ ¬ ScanOk is ds as st en hi lo) := by
  have hfill := fill_ w
  revert hfill
  k_fill
  intro _
  refine' Cn.of (binds := [(Str.ofString "head", .ref x)]) (sl₀ := [some (.ref x), none, none, none]) (z := 8) ?hf ?hc ?hb ?hl ?c2 ?c3 ?c4 ?c5 ?hs ?_
  walk_at "v_enter"
  intro cx S ok one hn he hr t
  have H : ScanD news x d li ld la h1 h2 h3 h4 h5 h6 h7 t1 t2 t3 t4 t5 t6 t7 ts te th tl st en hi lo n := ⟨hx, hd⟩
  have e1 := hii.length
  have e2 := hid.length
  have e3 := hia.length
  refine vc_go (f := 40) (rs := rs_check_scan) ok (by kernel_rfl) (by kernel_rfl) ?_
  refine attrK (sa_idents H) (len_t hli (small_len e1 hni) fun tv t t' => ?_)
  refine want_t ok rfl (fun q1 t => ?_) fun q => ⟨hn, he _ ⟨rfl, fun h => and_dec_no q (n4_no e1 h.1)⟩⟩
  refine attrK (sa_dc H) (len_t hld (small_len e2 hnd) fun tv t => ?_)
  refine ⟨fun q2 => ?_, fun q2 => want_t ok rfl (fun e t => absurd (e.symm.trans q2) Bool.noConfusion) fun _ => ⟨hn, he _ ⟨rfl, fun h => len_no e2 e1 q2 h.2.1.1⟩⟩⟩
  refine attrK (sa_ac H) (len_t hla (small_len e3 hna) fun tv t => ?_)
  refine want_t ok rfl (fun q3 t => ?_) fun q => ⟨hn, he _ ⟨rfl, fun h => len_no e3 e1 q h.2.1.2⟩⟩
  refine attrK (sa_idents H) (are_unlike_t ok hli hii hni rfl fun t => ?_)
  refine want_t ok rfl (fun q4 t => ?_) fun q => ⟨hn, he _ ⟨rfl, fun h => of_decide_eq_false q h.2.2.1⟩⟩
  refine for_t (ix := 2) ok one (re := .attr 0 (Str.ofString "idents")) (by kernel_rfl) (by kernel_rfl) (fun _ => rfl) ?_
  refine attrK (sa_idents H) ?_
  refine each_t (ix := 2) one (fun i => ∀ j k, j < i → is[j]? = some k → 0 ≤ k ∧ k ≤ 255) (by kernel_rfl) hli (fun j c z => absurd z (Nat.not_lt_zero _)) (fun i v I oI t hv hp hI => ?_) rfl fun o t q5 => ?_
  · obtain ⟨tk, hk, rfl⟩ := ints_at hii hv
    refine vc_go (f := 40) (rs := rs_check_scan_4) ok (by kernel_rfl) (by kernel_rfl) fun t => ?_
    exact want_t ok rfl (fun q t => each_end hI (all_step hp hk (and_dec q))) fun q => ⟨sub_up hn, he _ ⟨rfl, fun h => and_dec_no q (h.2.2.2.1 _ (List.mem_of_getElem? hk))⟩⟩
  refine for_t (ix := 3) ok one (re := .bin (.call (.type "list") (.cons (.attr 0 (Str.ofString "dc_slots")) .nil)) .Add (.call (.type "list") (.cons (.attr 0 (Str.ofString "ac_slots")) .nil))) (by kernel_rfl) (by kernel_rfl) (fun _ => rfl) ?_
  refine attrK (sa_dc H) (copyL_t hld hid (small_len2 hnd) fun D1 m1 g1 => ?_)
  refine attrK (sa_ac (H.mono (sub_up sub_id))) (copyL_t (.tail _ hla) hia (small_len2 hna) fun D2 m2 g2 => ?_)
  refine addL_t (.tail _ (.head _)) (.head _) hid hia (small_sum hnd hna) fun D3 ws g3 hw => ?_
  refine each_t (ix := 3) one (fun i => ∀ j k, j < i → (ds ++ as)[j]? = some k → 0 ≤ k ∧ k ≤ 3) (by kernel_rfl) (.head _) (fun j c z => absurd z (Nat.not_lt_zero _)) (fun i v I oI t hv hp hI => ?_) rfl fun o t q6 => ?_
  · obtain ⟨tk, hk, rfl⟩ := ints_at hw hv
    refine vc_go (f := 40) (rs := rs_check_scan_5) ok (by kernel_rfl) (by kernel_rfl) fun t => ?_
    exact want_t ok rfl (fun q t => each_end hI (all_step hp hk (and_dec q))) fun q => ⟨sub_up (sub_up (sub_up (sub_up hn))), he _ ⟨rfl, fun h => and_dec_no q (h.2.2.2.2.1 _ (List.mem_of_getElem? hk))⟩⟩
  have H3 := H.mono (sub_up (sub_up (sub_up sub_id)) : ∀ p ∈ news, p ∈ (D3, listOf ws.toArray 0) :: (D2, listOf va.toArray m2) :: (D1, listOf vd.toArray m1) :: news)
  have hn3 := (sub_up (sub_up (sub_up hn)) : ∀ p ∈ cx.n₀, p ∈ (D3, listOf ws.toArray 0) :: (D2, listOf va.toArray m2) :: (D1, listOf vd.toArray m1) :: news)
  refine attrK (sa_start H3) fun t => ⟨fun q7 => ?_, fun q7 => want_t ok rfl (fun e t => absurd (e.symm.trans q7) Bool.noConfusion) fun _ => ⟨hn3, he _ ⟨rfl, fun h => and_dec_no q7 ⟨h.2.2.2.2.2.1.1, h.2.2.2.2.2.1.2.1⟩⟩⟩⟩
  refine attrK (sa_end H3) fun t => want_t ok rfl (fun q8 t => ?_) fun q => ⟨hn3, he _ ⟨rfl, fun h => and_dec_no q h.2.2.2.2.2.1.2.2⟩⟩
  refine attrK (sa_high H3) fun t => ⟨fun q9 => ?_, fun q9 => want_t ok rfl (fun e t => absurd (e.symm.trans q9) Bool.noConfusion) fun _ => ⟨hn3, he _ ⟨rfl, fun h => and_dec_no q9 ⟨h.2.2.2.2.2.2.1, h.2.2.2.2.2.2.2.1⟩⟩⟩⟩
  refine attrK (sa_low H3) fun t => want_t ok rfl (fun q10 t => ?_) fun q => ⟨hn3, he _ ⟨rfl, fun h => and_dec_no q h.2.2.2.2.2.2.2.2⟩⟩
  have c3 : (ds ++ as).length = ws.length := hw.length.symm
  exact ⟨_, sub_up (sub_up (sub_up sub_id)), hr _ _ ⟨rfl, rfl, n4_ok e1 (and_dec q1), ⟨len_yes e2 e1 q2, len_yes e3 e1 q3⟩, of_decide_eq_true q4, all_done q5 e1, all_done q6 c3.symm, and_dec4 q7 q8, and_dec4 q9 q10⟩⟩
/-- while a scan's head is read -/
structure RS3 (r d li ld la : Addr) (rest : Led) : Prop where
  hr : (r, instObj 129 d) ∈ rest
  o0 : ∀ p ∈ rest, p.1 ≠ d
  o1 : ∀ p ∈ rest, p.1 ≠ li
  o2 : ∀ p ∈ rest, p.1 ≠ ld
  o3 : ∀ p ∈ rest, p.1 ≠ la
  n1 : @Ne Nat d li
  n2 : @Ne Nat d ld
  n3 : @Ne Nat d la
  n4 : @Ne Nat li ld
  n5 : @Ne Nat li la
  n6 : @Ne Nat ld la
structure RSI (ns : List Int) (i : Nat) (a : Int) (vi vd va : List Value) : Prop where
  ha : a = 1 + 2 * i
  hi : IntsAre vi (sI ns i)
  hd : IntsAre vd (sD ns i)
  hc : IntsAre va (sA ns i)
noncomputable abbrev rsS (pay : Value) (r li ld la : Addr) (a b : Option Value) : Sl := [some pay, some (.ref r), some (.ref li), some (.ref ld), some (.ref la), a, b, none, none, none]
noncomputable abbrev rsN (d li ld la : Addr) (h1 h2 : Int) (t1 t2 to_ ti : Tok) (ns : List Int) (at_ : Int) (vi vd va : List Value) (m1 m2 m3 : Nat) (rest : Led) : Led := (d, rdrDict h1 h2 t1 t2 (.bytes (byteArr ns) to_) (.int at_ ti)) :: (li, listOf vi.toArray m1) :: (ld, listOf vd.toArray m2) :: (la, listOf va.toArray m3) :: rest
noncomputable def rsJ (pay : Value) (r d li ld la : Addr) (h1 h2 : Int) (t1 t2 to_ : Tok) (ns : List Int) (rest : Led) (i : Nat) (sl : Sl) (n : Led) : Prop :=
  ∃ a b ti at_ vi vd va m1 m2 m3, sl = rsS pay r li ld la a b ∧ n = rsN d li ld la h1 h2 t1 t2 to_ ti ns at_ vi vd va m1 m2 m3 rest ∧ RSI ns i at_ vi vd va
theorem at_le2 {i N : Nat} {a : Int} {ns : List Int} (h : a = 1 + 2 * i) (hi : i < N) (hN : ns.length = 4 + 2 * N) : 0 ≤ a ∧ a + 1 + 1 ≤ ns.length := by omega
theorem rsi_next {ns : List Int} {i : Nat} {a : Int} {vi vd va : List Value} {ta tb tc : Tok} (H : RSI ns i a vi vd va) : RSI ns (i + 1) (a + 1 + 1) (vi ++ [.int (ns.getD a.toNat 0) ta]) (vd ++ [.int (ns.getD (a + 1).toNat 0 / 16) tb]) (va ++ [.int (ns.getD (a + 1).toNat 0 % 16) tc]) := by
  have e1 : a.toNat = 1 + 2 * i := by have := H.ha; omega
  have e2 : (a + 1).toNat = 2 + 2 * i := by have := H.ha; omega
  rw [e1, e2]
  refine ⟨by have := H.ha; omega, ?_, ?_, ?_⟩
  · unfold sI; rw [range_map_succ]; exact IntsAre.append H.hi (.cons _ _ .nil)
  · unfold sD; rw [range_map_succ]; exact IntsAre.append H.hd (.cons _ _ .nil)
  · unfold sA; rw [range_map_succ]; exact IntsAre.append H.hc (.cons _ _ .nil)
theorem size_ok {vs : List Value} {ns : List Int} {k : Nat} (h : IntsAre vs ns) (e : ns.length = k) (hk : k < 100000) : vs.toArray.size ≤ sizeLine := by
  rw [List.size_toArray, h.length, sizeLine_eq, e]; omega
section
variable {w : World} {cs : Scope} {c : Cx w cs} {D : Nat} {t : Nat}
/-- one turn -/
theorem rs_turn (ok : c.Ok D) (hD : Nat.ble 8 D = true) {pay : Value} {r d li ld la I : Addr} {h1 h2 : Int} {t1 t2 to_ ti : Tok} {rest : Led} {ns : List Int} {i N m1 m2 m3 : Nat} {at_ : Int} {tv b : Option Value} {vi vd va : List Value} {oI : Obj} {kf : KF}
    (hin : KBa.In ns) (hl : ns.length < 10000) (hi : i < N) (hN : ns.length = 4 + 2 * N) (R : RS3 r d li ld la rest) (H : RSI ns i at_ vi vd va) (oI' : ∀ p ∈ rsN d li ld la h1 h2 t1 t2 to_ ti ns at_ vi vd va m1 m2 m3 rest, p.1 ≠ I) :
    vcS c rs_read_scan_5 (rsS pay r li ld la tv b) ((I, oI) :: rsN d li ld la h1 h2 t1 t2 to_ ti ns at_ vi vd va m1 m2 m3 rest) t
      (turnK (rsJ pay r d li ld la h1 h2 t1 t2 to_ ns rest (i + 1)) I oI kf) := by
  have k0 : @Ne Nat I d := Ne.symm (oI' _ (.head _))
  have k1 : @Ne Nat I li := Ne.symm (oI' _ (.tail _ (.head _)))
  have k2 : @Ne Nat I ld := Ne.symm (oI' _ (.tail _ (.tail _ (.head _))))
  have k3 : @Ne Nat I la := Ne.symm (oI' _ (.tail _ (.tail _ (.tail _ (.head _)))))
  have small : i < 100000 := by omega
  obtain ⟨b0, b2⟩ := at_le2 H.ha hi hN
  have b1 : at_ + 1 ≤ ns.length := Int.le_trans (Int.le_add_one (Int.le_refl _)) b2
  have mr : ∀ {v : List Value}, (r, instObj 129 d) ∈ (I, oI) :: (li, listOf v.toArray m1) :: (ld, listOf vd.toArray m2) :: (la, listOf va.toArray m3) :: rest := fun {v} => .tail _ (.tail _ (.tail _ (.tail _ R.hr)))
  have mr' : (r, instObj 129 d) ∈ (li, listOf vi.toArray m1) :: (ld, listOf vd.toArray m2) :: (la, listOf va.toArray m3) :: rest := .tail _ (.tail _ (.tail _ R.hr))
  have od : ∀ {o : Obj}, ∀ p ∈ (I, oI) :: (li, o) :: (ld, listOf vd.toArray m2) :: (la, listOf va.toArray m3) :: rest, p.1 ≠ d := fun {o} => off_cons k0 (off_cons (Ne.symm R.n1) (off_cons (Ne.symm R.n2) (off_cons (Ne.symm R.n3) R.o0)))
  refine ⟨⟨_, _, .tail _ (.tail _ (.head _))⟩, methK (rd_byte (.tail _ (.tail _ mr')) (.tail _ (.head _))) (byte_t ok (by walk_at "v_sub") mr od hin hl b0 b1 hD fun tv1 ti1 t => ?_)⟩
  refine Tri.drop (n' := (li, listOf vi.toArray m1) :: (d, rdrDict h1 h2 t1 t2 (.bytes (byteArr ns) to_) (.int (at_ + 1) ti1)) :: (I, oI) :: (ld, listOf vd.toArray m2) :: (la, listOf va.toArray m3) :: rest) (by walk_at "v_sub") (append_t (.head (off_cons R.n1 (off_cons k1 (off_cons (Ne.symm R.n4) (off_cons (Ne.symm R.n5) R.o1))))) (size_ok H.hi (by simp [sI]) small) ?_)
  rw [List.push_toArray]
  refine methK (rd_byte (.tail _ (.tail _ (.tail _ (.tail _ (.tail _ R.hr))))) (.tail _ (.head _))) (byte_t ok (rest := (I, oI) :: (li, listOf (vi ++ [Value.int (ns.getD at_.toNat 0) tv1]).toArray (m1 + 1)) :: (ld, listOf vd.toArray m2) :: (la, listOf va.toArray m3) :: rest) (by walk_at "v_sub") (.tail _ (.tail _ (.tail _ (.tail _ R.hr)))) od hin hl (Int.le_add_one b0) b2 hD fun tv2 ti2 t => ?_)
  refine ⟨⟨_, _, .tail _ (.tail _ (.tail _ (.head _)))⟩, div_t (by decide) fun tv3 t => ?_⟩
  refine Tri.drop (n' := (ld, listOf vd.toArray m2) :: (d, rdrDict h1 h2 t1 t2 (.bytes (byteArr ns) to_) (.int (at_ + 1 + 1) ti2)) :: (I, oI) :: (li, listOf (vi ++ [Value.int (ns.getD at_.toNat 0) tv1]).toArray (m1 + 1)) :: (la, listOf va.toArray m3) :: rest) (by walk_at "v_sub") (append_t (.head (off_cons R.n2 (off_cons k2 (off_cons R.n4 (off_cons (Ne.symm R.n6) R.o2))))) (size_ok H.hd (by simp [sD]) small) ?_)
  rw [List.push_toArray]
  refine ⟨⟨_, _, .tail _ (.tail _ (.tail _ (.tail _ (.head _))))⟩, mod_t (by decide) fun tv4 t => ?_⟩
  refine Tri.drop (n' := (la, listOf va.toArray m3) :: (d, rdrDict h1 h2 t1 t2 (.bytes (byteArr ns) to_) (.int (at_ + 1 + 1) ti2)) :: (I, oI) :: (li, listOf (vi ++ [Value.int (ns.getD at_.toNat 0) tv1]).toArray (m1 + 1)) :: (ld, listOf (vd ++ [Value.int (ns.getD (at_ + 1).toNat 0 / 16) tv3]).toArray (m2 + 1)) :: rest) (by walk_at "v_sub") (append_t (.head (off_cons R.n3 (off_cons k3 (off_cons R.n5 (off_cons R.n6 R.o3))))) (size_ok H.hc (by simp [sA]) small) ?_)
  rw [List.push_toArray]
  exact ⟨.tail _ (.tail _ (.head _)), rsN d li ld la h1 h2 t1 t2 to_ ti2 ns (at_ + 1 + 1) (vi ++ [Value.int (ns.getD at_.toNat 0) tv1]) (vd ++ [Value.int (ns.getD (at_ + 1).toNat 0 / 16) tv3]) (va ++ [Value.int (ns.getD (at_ + 1).toNat 0 % 16) tv4]) (m1 + 1) (m2 + 1) (m3 + 1) rest, by walk_at "v_sub",
    off_cons (Ne.symm k0) (off_cons (Ne.symm k1) (off_cons (Ne.symm k2) (off_cons (Ne.symm k3) fun p hp => oI' p (.tail _ (.tail _ (.tail _ (.tail _ hp))))))), _, _, _, _, _, _, _, _, _, _, rfl, rfl, rsi_next H⟩
end
section
variable {w : World} {cs : Scope} {cx : Cx w cs} {D : Nat} {sl : Sl} {n : Led} {t : Nat} {x d li ld la : Addr} {h1 h2 h3 h4 h5 h6 h7 : Int} {t1 t2 t3 t4 t5 t6 t7 ts te th tl : Tok} {st en hi lo : Int} {m ni nd na : Nat} {vi vd va : List Value} {is ds as : List Int} {k : KV}
theorem check_scan_t (ok : cx.Ok D) (H : ScanD n x d li ld la h1 h2 h3 h4 h5 h6 h7 t1 t2 t3 t4 t5 t6 t7 ts te th tl st en hi lo m) (hli : (li, listOf vi.toArray ni) ∈ n) (hld : (ld, listOf vd.toArray nd) ∈ n) (hla : (la, listOf va.toArray na) ∈ n) (hii : IntsAre vi is) (hid : IntsAre vd ds) (hia : IntsAre va as) (hni : is.length < 1000) (hnd : ds.length < 1000) (hna : as.length < 1000) (hD : Nat.ble 12 D = true)
    (q1 : ScanOk is ds as st en hi lo → ∀ t, k .none sl n t) (q2 : ¬ ScanOk is ds as st en hi lo → (∀ p ∈ cx.n₀, p ∈ n) ∧ cx.ke 44) : Tri cx sl n t (call (.ref 257) [.ref x]) k :=
  (check_scan_c w x d li ld la h1 h2 h3 h4 h5 h6 h7 t1 t2 t3 t4 t5 t6 t7 ts te th tl st en hi lo m ni nd na vi vd va is ds as n H.o H.d hli hld hla hii hid hia hni hnd hna).tri ok hD (by rintro _ _ ⟨rfl, rfl, q⟩; exact q1 q) (by rintro _ ⟨rfl, q⟩; exact q2 q)
end
theorem pay_lenS {ns : List Int} (h0 : 0 ≤ ns.getD 0 0) (h : payS ns) : ns.length = 4 + 2 * scK ns := by
  have h5 := h.2
  unfold scK
  omega
theorem at_end {ns : List Int} {a : Int} (h : a = 1 + 2 * (scK ns : Nat)) : a.toNat = 1 + 2 * scK ns ∧ (a + 1).toNat = 2 + 2 * scK ns ∧ (a + 1 + 1).toNat = 3 + 2 * scK ns := by omega
theorem at_last {ns : List Int} {a : Int} (h : a = 1 + 2 * (scK ns : Nat)) (hn : ns.length = 4 + 2 * scK ns) : 0 ≤ a ∧ a + 1 + 1 + 1 ≤ ns.length := by omega
noncomputable abbrev scS (ns : List Int) (a : Int) : Prop := ScanOk (scI ns) (scD ns) (scA ns) (ns.getD a.toNat 0) (ns.getD (a + 1).toNat 0) (ns.getD (a + 1 + 1).toNat 0 / 16) (ns.getD (a + 1 + 1).toNat 0 % 16)
theorem scS_eq {ns : List Int} {a : Int} (h : a = 1 + 2 * (scK ns : Nat)) : scS ns a ↔ ScanOk (scI ns) (scD ns) (scA ns) (ns.getD (1 + 2 * scK ns) 0) (ns.getD (2 + 2 * scK ns) 0) (ns.getD (3 + 2 * scK ns) 0 / 16) (ns.getD (3 + 2 * scK ns) 0 % 16) := by
  unfold scS
  obtain ⟨e1, e2, e3⟩ := at_end h
  rw [e1, e2, e3]
theorem scAt_eq {n : Led} {v : Value} {ns : List Int} {a : Int} (h : a = 1 + 2 * (scK ns : Nat)) (H : ScanAt n v (scI ns) (scD ns) (scA ns) (ns.getD a.toNat 0) (ns.getD (a + 1).toNat 0) (ns.getD (a + 1 + 1).toNat 0 / 16) (ns.getD (a + 1 + 1).toNat 0 % 16)) : ScanAt n v (scI ns) (scD ns) (scA ns) (ns.getD (1 + 2 * scK ns) 0) (ns.getD (2 + 2 * scK ns) 0) (ns.getD (3 + 2 * scK ns) 0 / 16) (ns.getD (3 + 2 * scK ns) 0 % 16) := by
  obtain ⟨e1, e2, e3⟩ := at_end h
  rw [e1, e2, e3] at H
  exact H
theorem read_scan_c (w : World) (tp : Tok) (ns : List Int) (news : List (Addr × Obj)) (hin : KBa.In ns) (hl : ns.length < 10000) :
    Cn w 20 264 [.bytes (byteArr ns) tp] news (fun v n' => (payS ns ∧ ScanOk (scI ns) (scD ns) (scA ns) (ns.getD (1 + 2 * scK ns) 0) (ns.getD (2 + 2 * scK ns) 0) (ns.getD (3 + 2 * scK ns) 0 / 16) (ns.getD (3 + 2 * scK ns) 0 % 16)) ∧ (∀ p ∈ news, p ∈ n') ∧ ScanAt n' v (scI ns) (scD ns) (scA ns) (ns.getD (1 + 2 * scK ns) 0) (ns.getD (2 + 2 * scK ns) 0) (ns.getD (3 + 2 * scK ns) 0 / 16) (ns.getD (3 + 2 * scK ns) 0 % 16))
      (fun C => C = 44 ∧ ¬ (payS ns ∧ ScanOk (scI ns) (scD ns) (scA ns) (ns.getD (1 + 2 * scK ns) 0) (ns.getD (2 + 2 * scK ns) 0) (ns.getD (3 + 2 * scK ns) 0 / 16) (ns.getD (3 + 2 * scK ns) 0 % 16))) := by
  have hfill := fill_ w
  revert hfill
  k_fill
  intro _
  refine' Cn.of (binds := [(Str.ofString "payload", .bytes (byteArr ns) tp)]) (sl₀ := [some (.bytes (byteArr ns) tp), none, none, none, none, none, none, none, none, none]) (z := 6) ?hf ?hc ?hb ?hl ?c2 ?c3 ?c4 ?c5 ?hs ?_
  walk_at "v_enter"
  intro cx S ok one hn he hr t
  have fit : ns.length ≤ 1099511627776 := Nat.le_of_lt (Nat.lt_trans hl (by decide))
  refine vc_go (f := 40) (rs := rs_read_scan) ok (by kernel_rfl) (by kernel_rfl) ?_
  refine lenB_t fit fun tv t => ⟨fun e1 => ?_, fun e1 => want_t ok rfl (fun e t => absurd (e.symm.trans e1) Bool.noConfusion) fun _ => ⟨hn, he _ ⟨rfl, fun h => of_decide_eq_false e1 h.1.1⟩⟩⟩
  have g6 := of_decide_eq_true e1
  refine lenB_t fit fun tv t => itemB_t hin fit (by decide) (Int.lt_of_lt_of_le (by decide) g6) fun tv t => ?_
  refine mul_t (mul_l (by decide +kernel)) ?_
  refine want_t ok rfl (fun e2 t => ?_) fun e => ⟨hn, he _ ⟨rfl, fun h => ?_⟩⟩
  rotate_left
  · rw [beq_eq_false_iff_ne] at e; exact e h.1.2
  have hp : payS ns := ⟨g6, eq_of_beq e2⟩
  have hlen := pay_lenS (in_getD hin).1 hp
  refine new_rdr ok rfl fun r d h1 h2 t1 t2 tz t l1 l2 => ?_
  refine ⟨by decide, fun li l3 => ⟨by decide, fun ld l4 => ⟨by decide, fun la l5 => ?_⟩⟩⟩
  have q1 : d < li := l3 _ (.head _)
  have q2 : d < ld := l4 _ (.tail _ (.head _))
  have q3 : d < la := l5 _ (.tail _ (.tail _ (.head _)))
  have q4 : li < ld := l4 _ (.head _)
  have q5 : li < la := l5 _ (.tail _ (.head _))
  have q6 : ld < la := l5 _ (.head _)
  refine for_t (ix := 5) ok one (re := .call (.type "range") (.cons (.meth 1 (Str.ofString "byte") .nil) .nil)) (by kernel_rfl) (by kernel_rfl) (fun _ => rfl) ?_
  refine methK (rd_byte (.tail _ (.tail _ (.tail _ (.tail _ (.head _))))) (.tail _ (.tail _ (.tail _ (.head _))))) (byte_t (rest := (la, listOf [].toArray 0) :: (ld, listOf [].toArray 0) :: (li, listOf [].toArray 0) :: (r, instObj 129 d) :: news) ok (by walk_at "v_sub") (.tail _ (.tail _ (.tail _ (.head _)))) (off_cons (Nat.ne_of_gt q3) (off_cons (Nat.ne_of_gt q2) (off_cons (Nat.ne_of_gt q1) (off_cons (Nat.ne_of_gt l2) (off_of_lt l1))))) hin hl (by decide) g6 rfl fun tv1 ti1 t => ?_)
  refine range_t fun rg u1 u2 u3 t l6 => ?_
  have R : RS3 r d li ld la ((rg, rangeObj (ns.getD 0 0) u1 u2 u3) :: (r, instObj 129 d) :: news) :=
    ⟨.tail _ (.head _), off_cons (Nat.ne_of_gt (l6 _ (.head _))) (off_cons (Nat.ne_of_gt l2) (off_of_lt l1)),
      off_cons (Nat.ne_of_gt (l6 _ (.tail _ (.tail _ (.tail _ (.head _)))))) (off_of_lt fun p hp => l3 p (.tail _ hp)),
      off_cons (Nat.ne_of_gt (l6 _ (.tail _ (.tail _ (.head _))))) (off_of_lt fun p hp => l4 p (.tail _ (.tail _ hp))),
      off_cons (Nat.ne_of_gt (l6 _ (.tail _ (.head _)))) (off_of_lt fun p hp => l5 p (.tail _ (.tail _ (.tail _ hp)))),
      Nat.ne_of_lt q1, Nat.ne_of_lt q2, Nat.ne_of_lt q3, Nat.ne_of_lt q4, Nat.ne_of_lt q5, Nat.ne_of_lt q6⟩
  refine IterT.drop (n' := rsN d li ld la h1 h2 t1 t2 tp ti1 ns (0 + 1) [] [] [] 0 0 0 ((rg, rangeObj (ns.getD 0 0) u1 u2 u3) :: (r, instObj 129 d) :: news)) (by walk_at "v_sub") ?_
  refine iter_range_t (ix := 5) (N := scK ns) one (rsJ (.bytes (byteArr ns) tp) r d li ld la h1 h2 t1 t2 tp ns ((rg, rangeObj (ns.getD 0 0) u1 u2 u3) :: (r, instObj 129 d) :: news)) (by kernel_rfl) (.tail _ (.tail _ (.tail _ (.tail _ (.head _))))) (Int.toNat_of_nonneg (in_getD hin).1).symm (by omega) ⟨_, _, ti1, _, [], [], [], 0, 0, 0, rfl, rfl, ⟨rfl, .nil, .nil, .nil⟩⟩ ?_ ?_
  · intro i tv sl n I oI t hi hz1 hI
    refine hide _ fun hidP hidH => ?_
    obtain ⟨a, b, ti, at_, vi, vd, va, m1, m2, m3, rfl, rfl, H⟩ := hz1
    refine hidH ?_
    clear hidH
    exact vc_go (f := 40) (rs := rs_read_scan_5) ok (by kernel_rfl) (by kernel_rfl) (rs_turn ok rfl hin hl hi hlen R H hI)
  · intro sl n t hz2
    refine hide _ fun hidP hidH => ?_
    obtain ⟨a, b, ti, at_, vi, vd, va, m1, m2, m3, rfl, rfl, H⟩ := hz2
    refine hidH ?_
    clear hidH
    obtain ⟨c0, c3⟩ := at_last H.ha hlen
    have c2 : at_ + 1 + 1 ≤ ns.length := Int.le_trans (Int.le_add_one (Int.le_refl _)) c3
    have c1 : at_ + 1 ≤ ns.length := Int.le_trans (Int.le_add_one (Int.le_refl _)) c2
    have mr : (r, instObj 129 d) ∈ (li, listOf vi.toArray m1) :: (ld, listOf vd.toArray m2) :: (la, listOf va.toArray m3) :: (rg, rangeObj (ns.getD 0 0) u1 u2 u3) :: (r, instObj 129 d) :: news := .tail _ (.tail _ (.tail _ R.hr))
    have od : ∀ p ∈ (li, listOf vi.toArray m1) :: (ld, listOf vd.toArray m2) :: (la, listOf va.toArray m3) :: (rg, rangeObj (ns.getD 0 0) u1 u2 u3) :: (r, instObj 129 d) :: news, p.1 ≠ d := off_cons (Ne.symm R.n1) (off_cons (Ne.symm R.n2) (off_cons (Ne.symm R.n3) R.o0))
    refine methK (rd_byte (.tail _ mr) (.head _)) (byte_t ok sub_id mr od hin hl c0 c1 rfl fun tv2 ti2 t => ?_)
    refine methK (rd_byte (.tail _ mr) (.head _)) (byte_t ok sub_id mr od hin hl (Int.le_add_one c0) c2 rfl fun tv3 ti3 t => ?_)
    refine methK (rd_byte (.tail _ mr) (.head _)) (byte_t ok sub_id mr od hin hl (Int.le_add_one (Int.le_add_one c0)) c3 rfl fun tv4 ti4 t => ?_)
    refine div_t (by decide) fun tv5 t => mod_t (by decide) fun tv6 t => ?_
    refine new_scan ok rfl fun x dx g1 g2 g3 g4 g5 g6 g7 v1 v2 v3 v4 v5 v6 v7 t l5 l6 => ?_
    obtain ⟨s1, s2, s3⟩ := s_small (in_getD (j := 0) hin).2
    refine check_scan_t ok ⟨.tail _ (.head _), .head _⟩ (.tail _ (.tail _ (.tail _ (.head _)))) (.tail _ (.tail _ (.tail _ (.tail _ (.head _))))) (.tail _ (.tail _ (.tail _ (.tail _ (.tail _ (.head _)))))) H.hi H.hd H.hc s1 s2 s3 rfl (fun q t => ?_) fun q => ⟨fun p hp => sub_up (sub_up (sub_up (sub_up (sub_up (sub_up (sub_up (sub_up sub_id))))))) p (hn p hp), he _ ⟨rfl, fun h => q ((scS_eq H.ha).mpr h.2)⟩⟩
    exact ⟨_, sub_id, hr _ _ ⟨⟨hp, (scS_eq H.ha).mp q⟩, sub_up (sub_up (sub_up (sub_up (sub_up (sub_up (sub_up (sub_up sub_id))))))), scAt_eq H.ha ⟨x, dx, li, ld, la, g1, g2, g3, g4, g5, g6, g7, v1, v2, v3, v4, v5, v6, v7, tv2, tv3, tv5, tv6, 7, m1, m2, m3, vi, vd, va, rfl, .tail _ (.head _), .head _, .tail _ (.tail _ (.tail _ (.head _))), .tail _ (.tail _ (.tail _ (.tail _ (.head _)))), .tail _ (.tail _ (.tail _ (.tail _ (.tail _ (.head _))))), H.hi, H.hd, H.hc⟩⟩⟩
theorem slotB_in {is ds as : List Int} {st en hi lo : Int} (ok : ScanOk is ds as st en hi lo) {i : Nat} (hi' : i < is.length) : KBa.In (slotB is ds as i) := by
  refine hide _ fun hidP hidH => ?_
  obtain ⟨_, ⟨e1, e2⟩, _, h1, h2, _⟩ := ok
  refine hidH ?_
  clear hidH
  have a := getD_ok (P := fun k => 0 ≤ k ∧ k ≤ 255) h1 hi'
  have b := getD_ok (P := fun k => 0 ≤ k ∧ k ≤ 3) (fun k hk => h2 k (List.mem_append_left _ hk)) (i := i) (l := ds) (by omega)
  have c := getD_ok (P := fun k => 0 ≤ k ∧ k ≤ 3) (fun k hk => h2 k (List.mem_append_right _ hk)) (i := i) (l := as) (by omega)
  exact in_cons (by omega) (in_cons (by omega) in_nil)
theorem tail_in {st en hi lo : Int} (h : 0 ≤ st ∧ st ≤ 63 ∧ 0 ≤ en ∧ en ≤ 63) (h' : 0 ≤ hi ∧ hi ≤ 15 ∧ 0 ≤ lo ∧ lo ≤ 15) : KBa.In [st, en, hi * 16 + lo] :=
  in_cons (by omega) (in_cons (by omega) (in_cons (by omega) in_nil))
theorem n4_in {n : Nat} (h : 1 ≤ n ∧ n ≤ 4) : 0 ≤ ((n : Nat) : Int) ∧ ((n : Nat) : Int) < 256 := by omega
theorem flat_range_succ {G : Nat → List Int} {i : Nat} : (List.range (i + 1)).flatMap G = (List.range i).flatMap G ++ G i := by rw [List.range_succ]; simp
theorem flat_slot_len {is ds as : List Int} : ∀ i : Nat, ((List.range i).flatMap (slotB is ds as)).length = 2 * i
  | 0 => rfl
  | i + 1 => by rw [flat_range_succ, List.length_append, flat_slot_len i]; show _ + 2 = _; omega
section
variable {w : World} {cs : Scope} {c : Cx w cs} {D : Nat} {n : Led} {t : Nat} {kf : KF} {x d li ld la I : Addr} {h1 h2 h3 h4 h5 h6 h7 : Int} {t1 t2 t3 t4 t5 t6 t7 ts te th tl tb tv : Tok} {st en hi lo : Int} {m ni nd na i : Nat} {vi vd va : List Value} {is ds as b : List Int} {oI : Obj} {J : Sl → Led → Prop}
theorem slot_turn (H : ScanD n x d li ld la h1 h2 h3 h4 h5 h6 h7 t1 t2 t3 t4 t5 t6 t7 ts te th tl st en hi lo m) (hli : (li, listOf vi.toArray ni) ∈ n) (hld : (ld, listOf vd.toArray nd) ∈ n) (hla : (la, listOf va.toArray na) ∈ n) (hii : IntsAre vi is) (hid : IntsAre vd ds) (hia : IntsAre va as)
    (q : ScanOk is ds as st en hi lo) (hi' : i < is.length) (hb : b.length < 1000000) (hI : ∀ p ∈ n, p.1 ≠ I) (h : ∀ tw, J [some (.ref x), some (.bytes (byteArr (b ++ slotB is ds as i)) tw), some (.int (0 + (i : Int)) tv)] n) :
    vcS c rs_write_scan_2 [some (.ref x), some (.bytes (byteArr b) tb), some (.int (0 + (i : Int)) tv)] ((I, oI) :: n) t (turnK J I oI kf) := by
  have H' := H.mono (sub_up sub_id : ∀ p ∈ n, p ∈ (I, oI) :: n)
  have z0 : (0 : Int) ≤ 0 + (i : Int) := by omega
  have z1 : (0 : Int) + (i : Int) < is.length := by omega
  have z2 : (0 : Int) + (i : Int) < ds.length := by rw [q.2.1.1]; exact z1
  have z3 : (0 : Int) + (i : Int) < as.length := by rw [q.2.1.2]; exact z1
  have k1 : is.length < 2 ^ 62 := Nat.lt_of_le_of_lt q.1.2 (by decide)
  have k2 : ds.length < 2 ^ 62 := by rw [q.2.1.1]; exact k1
  have k3 : as.length < 2 ^ 62 := by rw [q.2.1.2]; exact k1
  refine attrK (sa_idents H') (item_t (.tail _ hli) hii z0 z1 k1 fun tv1 t => ?_)
  refine attrK (sa_dc H') (item_t (.tail _ hld) hid z0 z2 k2 fun tv2 t => mul_t (mul_r (by decide +kernel)) ?_)
  refine attrK (sa_ac H') (item_t (.tail _ hla) hia z0 z3 k3 fun tv3 t => ⟨by simp, fun l l1 => ?_⟩)
  refine bytes_t (.head _) (.cons _ _ (.cons _ _ .nil)) (slotB_in q hi') (Nat.le_of_ble_eq_true rfl) fun tv4 t => addB_t ?_ fun tv5 t => ?_
  · show b.length + 2 ≤ 16777216
    omega
  · exact ⟨.tail _ (.head _), n, sub_up (sub_up sub_id), hI, h tv5⟩
end
theorem write_scan_c (w : World) (x d li ld la : Addr) (h1 h2 h3 h4 h5 h6 h7 : Int) (t1 t2 t3 t4 t5 t6 t7 ts te th tl : Tok) (st en hi lo : Int) (n ni nd na : Nat) (vi vd va : List Value) (is ds as : List Int) (news : List (Addr × Obj)) (hx : (x, instObj 192 d) ∈ news)
    (hd : (d, dictOf (scanEs h1 h2 h3 h4 h5 h6 h7 t1 t2 t3 t4 t5 t6 t7 ts te th tl li ld la st en hi lo) n) ∈ news)
    (hli : (li, listOf vi.toArray ni) ∈ news) (hld : (ld, listOf vd.toArray nd) ∈ news) (hla : (la, listOf va.toArray na) ∈ news) (hii : IntsAre vi is) (hid : IntsAre vd ds) (hia : IntsAre va as) (hni : is.length < 1000) (hnd : ds.length < 1000) (hna : as.length < 1000) :
    Cn w 16 271 [.ref x] news (fun v n' => (∃ t, v = .bytes (byteArr (scanB is ds as st en hi lo)) t) ∧ n' = news ∧ ScanOk is ds as st en hi lo) (fun C => C = 44 ∧ ¬ ScanOk is ds as st en hi lo) := by
  have hfill := fill_ w
  revert hfill
  k_fill
  intro _
  refine' Cn.of (binds := [(Str.ofString "head", .ref x)]) (sl₀ := [some (.ref x), none, none]) (z := 4) ?hf ?hc ?hb ?hl ?c2 ?c3 ?c4 ?c5 ?hs ?_
  walk_at "v_enter"
  intro cx S ok one hn he hr t
  have H : ScanD news x d li ld la h1 h2 h3 h4 h5 h6 h7 t1 t2 t3 t4 t5 t6 t7 ts te th tl st en hi lo n := ⟨hx, hd⟩
  have e1 := hii.length
  refine vc_go (f := 40) (rs := rs_write_scan) ok (by kernel_rfl) (by kernel_rfl) ?_
  refine check_scan_t ok H hli hld hla hii hid hia hni hnd hna rfl (fun q t => ?_) fun q => ⟨hn, he _ ⟨rfl, q⟩⟩
  refine attrK (sa_idents H) (len_t hli (small_len e1 hni) fun tv1 t => ⟨by simp, fun l1 g1 => ?_⟩)
  refine bytes_t (.head _) (.cons _ _ .nil) (one_in (n4_in (e1 ▸ q.1))) (Nat.le_of_ble_eq_true rfl) fun tv2 t => ?_
  refine for_t (ix := 2) ok one (re := .call (.type "range") (.cons (.call (.builtin "len") (.cons (.attr 0 (Str.ofString "idents")) .nil)) .nil)) (by kernel_rfl) (by kernel_rfl) (fun _ => rfl) ?_
  refine attrK (sa_idents (H.mono (sub_up sub_id))) (len_t (.tail _ hli) (small_len e1 hni) fun tv3 t => range_t fun rg u1 u2 u3 t g2 => ?_)
  refine IterT.drop (n' := (rg, rangeObj ((vi.length : Nat) : Int) u1 u2 u3) :: news) (sub_cons (.head _) (sub_up (sub_up sub_id))) ?_
  refine iter_range_t (ix := 2) (N := is.length) one (fun i sl n' => (∃ tf o, sl = [some (.ref x), some (.bytes (byteArr ([(vi.length : Int)] ++ (List.range i).flatMap (slotB is ds as))) tf), o]) ∧ n' = (rg, rangeObj ((vi.length : Nat) : Int) u1 u2 u3) :: news) (by kernel_rfl) (.head _) (by rw [e1]) (Nat.lt_trans hni (by decide)) ⟨⟨_, _, rfl⟩, rfl⟩ ?_ ?_
  · intro i tv sl n' I oI t hi' hz1 hI
    refine hide _ fun hidP hidH => ?_
    obtain ⟨⟨tf, o, rfl⟩, rfl⟩ := hz1
    refine hidH ?_
    clear hidH
    refine vc_go (f := 40) (rs := rs_write_scan_2) ok (by kernel_rfl) (by kernel_rfl) ?_
    refine slot_turn (H.mono (sub_up sub_id)) (.tail _ hli) (.tail _ hld) (.tail _ hla) hii hid hia q hi' ?_ hI fun tw => ⟨⟨_, _, by rw [flat_range_succ, ← List.append_assoc]⟩, rfl⟩
    rw [List.length_append, flat_slot_len]
    show 1 + 2 * i < 1000000
    omega
  · intro sl n' t hz2
    refine hide _ fun hidP hidH => ?_
    obtain ⟨⟨tf, o, rfl⟩, rfl⟩ := hz2
    refine hidH ?_
    clear hidH
    have H' := H.mono (sub_up sub_id : ∀ p ∈ news, p ∈ (rg, rangeObj ((vi.length : Nat) : Int) u1 u2 u3) :: news)
    refine attrK (sa_start H') (attrK (sa_end H') (attrK (sa_high H') (mul_t (mul_r (by decide +kernel)) (attrK (sa_low H') ⟨by simp, fun l2 g3 => ?_⟩))))
    refine bytes_t (.head _) (.cons _ _ (.cons _ _ (.cons _ _ .nil))) (tail_in q.2.2.2.2.2.1 q.2.2.2.2.2.2) (Nat.le_of_ble_eq_true rfl) fun tv4 t => addB_t ?_ fun tv5 t => ?_
    · rw [List.length_append, flat_slot_len]
      show 1 + 2 * is.length + 3 ≤ 16777216
      omega
    · refine ⟨news, sub_up (sub_up sub_id), hr _ _ ⟨⟨tv5, ?_⟩, rfl, q⟩⟩
      unfold scanB
      rw [e1]
      rfl
section
variable {w : World} {cs : Scope} {c : Cx w cs} {D : Nat} {sl : Sl} {n : Led} {t : Nat}
theorem neg_t {a : Int} {ta : Tok} {k : KV} (h : ∀ tv t, k (.int (-a) tv) sl n t) : Tri c sl n t (unaryOp .USub (.int a ta)) k :=
  fun hp H => neg_int (s := c.sh hp t) ⟨hp, sl, n, t + 1, rfl, H, h _ _⟩
theorem notinL_t {l : Addr} {vs : List Value} {ns : List Int} {nn : Nat} {i : Int} {u : Tok} {k : KV} (hm : (l, listOf vs.toArray nn) ∈ n) (hi : IntsAre vs ns) (h : k (.bool (!(ns.any (· == i)))) sl n t) : Tri c sl n t (compareOp .NotIn (.int i u) (.ref l)) k :=
  fun hp ⟨b, W, F, N⟩ => notin_list_ints (s := c.sh hp t) (ledList N hm) hi ⟨hp, sl, n, t, rfl, ⟨b, W, F, N⟩, h⟩
theorem notinT_t {l : Addr} {vs : List Value} {ns : List Int} {i : Int} {u : Tok} {k : KV} (hm : (l, tupOf vs) ∈ n) (hi : IntsAre vs ns) (h : k (.bool (!(ns.any (· == i)))) sl n t) : Tri c sl n t (compareOp .NotIn (.int i u) (.ref l)) k :=
  fun hp ⟨b, W, F, N⟩ => notin_tuple_ints (s := c.sh hp t) (items := vs.toArray) ⟨_, (N _ hm).1, rfl, _, rfl⟩ hi ⟨hp, sl, n, t, rfl, ⟨b, W, F, N⟩, h⟩
theorem inT_t {l : Addr} {vs : List Value} {ns : List Int} {i : Int} {u : Tok} {k : KV} (hm : (l, tupOf vs) ∈ n) (hi : IntsAre vs ns) (h : k (.bool (ns.any (· == i))) sl n t) : Tri c sl n t (compareOp .In (.int i u) (.ref l)) k :=
  fun hp ⟨b, W, F, N⟩ => in_tuple_ints (s := c.sh hp t) (items := vs.toArray) ⟨_, (N _ hm).1, rfl, _, rfl⟩ hi ⟨hp, sl, n, t, rfl, ⟨b, W, F, N⟩, h⟩
theorem two0_t {value slice : PySem.Expr} {l : Addr} {a b : Int} {ta tb u : Tok} {nn : Nat} {k : KV} (hm : (l, listOf #[.int a ta, .int b tb] nn) ∈ n) (h : ∀ t' t, k (.int a t') sl n t)
    (hs : subscripted slice false (.ref l) (.int 0 u) = operate [.ref l, .int 0 u] (getItem (.ref l) (.int 0 u)) := by with_unfolding_all rfl) : Tri c sl n t (subscriptTail value slice (.ref l) (.int 0 u)) k :=
  item_t (vs := [.int a ta, .int b tb]) (ns := [a, b]) hm (.cons _ _ (.cons _ _ .nil)) (by decide) (by simp) (by simp) h hs
theorem two1_t {value slice : PySem.Expr} {l : Addr} {a b : Int} {ta tb u : Tok} {nn : Nat} {k : KV} (hm : (l, listOf #[.int a ta, .int b tb] nn) ∈ n) (h : ∀ t' t, k (.int b t') sl n t)
    (hs : subscripted slice false (.ref l) (.int 1 u) = operate [.ref l, .int 1 u] (getItem (.ref l) (.int 1 u)) := by with_unfolding_all rfl) : Tri c sl n t (subscriptTail value slice (.ref l) (.int 1 u)) k :=
  item_t (vs := [.int a ta, .int b tb]) (ns := [a, b]) hm (.cons _ _ (.cons _ _ .nil)) (by decide) (by simp) (by simp) h hs
theorem setItem_t {l : Addr} {i : Int} {ti : Tok} {v : Value} {its : Array Value} {m : Nat} {q : List Value} {n' : Led} {k : Unit → Sl → Led → Nat → Prop} (h0 : 0 ≤ i) (h1 : i < 2 ^ 63) (e : ki_setL its.toList i.toNat v = some q) (U : Upd l (listOf its m) (listOf q.toArray m) n n') (h : k () sl n' t) : Tri c sl n t (setItem (.ref l) (.int i ti) v) k :=
  fun hp ⟨b, W, F, N⟩ => ki_set (s := c.sh hp t) F N h0 h1 e U fun h' F' N' => ⟨h', sl, n', t, rfl, ⟨b, W, F', N'⟩, h⟩
theorem setit_t (ok : c.Ok D) {o i value : PySem.Expr} {ps pos : Pos} {ro ri rv : RE} {kf : KF} (ho : tr cs 12 o = ro) (hi : tr cs 12 i = ri) (hv : tr cs 12 value = rv) (hc : isComp value = false)
    (h : vcE c rv sl n t fun v sl n t => vcE c ro sl n t fun ov sl n t => vcE c ri sl n t fun iv sl n t => Tri c sl n t (setItem ov iv v) fun _ sl n t => kf .next sl n t) : Tri c sl n t (exec (.Assign [.Subscript o i ps] value pos) c.env) kf := by
  subst ho hi hv
  intro hp H
  exact wpAny_Assign_Subscript ((vc_ok ok 12 value sl n t _ h).seq (fun v sl n t g1 _ H1 => (vc_ok ok 12 o sl n t _ g1).seq (fun ov sl n t g2 _ H2 => (vc_ok ok 12 i sl n t _ g2).seq (fun iv sl n t g3 _ H3 => g3.seq (fun _ sl n t g4 h4 H4 => ⟨h4, sl, n, t, rfl, H4, g4⟩) H3) H2) H1) H) (swaps_no hc)
end
theorem draw_c (w : World) (wl : Addr) (wa wb : Int) (ta tb : Tok) (nn : Nat) (rest : List (Addr × Obj)) (hoff : ∀ p ∈ rest, p.1 ≠ wl) (top : Int) (tt : Tok) (ht : 0 < top) (ht2 : top < 1000000) :
    Cn w 2 320 [.ref wl, .int top tt] ((wl, listOf #[.int wa ta, .int wb tb] nn) :: rest) (fun v n' => ∃ p t a' b' ta' tb', v = .int p t ∧ (0 ≤ p ∧ p < top) ∧ n' = (wl, listOf #[.int a' ta', .int b' tb'] nn) :: rest) (fun _ => False) := by
  have hfill := fill_ w
  revert hfill
  k_fill
  intro _
  refine' Cn.of (binds := [(Str.ofString "well", .ref wl), (Str.ofString "top", .int top tt)]) (sl₀ := [some (.ref wl), some (.int top tt), none]) (z := 0) ?hf ?hc ?hb ?hl ?c2 ?c3 ?c4 ?c5 ?hs ?_
  walk_at "v_enter"
  intro cx S ok one hn he hr t
  have hs : 0 < top ∧ top.natAbs < 1073741824 := by omega
  have hm : 0 ≤ wa % top ∧ wa % top < top := ⟨Int.emod_nonneg _ (by omega), Int.emod_lt_of_pos _ ht⟩
  refine vc_go (f := 40) (rs := rs__law_draw) ok (by kernel_rfl) (by kernel_rfl) ?_
  refine two0_t (.head _) fun tv t => ⟨fun _ => ?_, fun _ => ?_⟩
  · refine two0_t (.head _) fun tv t => mod_t ht fun tv t => ?_
    refine setit_t ok (ro := .loc 0) (ri := .int 0) (rv := .bin (.sub (.loc 0) (.int 0) _ _) .FloorDiv (.loc 1)) (by kernel_rfl) (by kernel_rfl) (by with_unfolding_all rfl) rfl ?_
    refine two0_t (.head _) fun tv2 t => div_t hs fun tv3 t => ?_
    refine setItem_t (q := [.int (wa / top) tv3, .int wb tb]) (by decide) (by decide) rfl (.head hoff) ?_
    exact ⟨_, sub_id, hr _ _ ⟨_, _, _, _, _, _, rfl, hm, rfl⟩⟩
  · refine setit_t ok (ro := .loc 0) (ri := .int 1) (rv := .bin (.bin (.bin (.sub (.loc 0) (.int 1) _ _) .Mult (.int 223)) .Add (.int 6007)) .Mod (.int 65371)) (by kernel_rfl) (by kernel_rfl) (by with_unfolding_all rfl) rfl ?_
    refine two1_t (.head _) fun tv2 t => mul_t (mul_r (by decide +kernel)) (mod_t (by decide) fun tv3 t => ?_)
    refine setItem_t (q := [.int wa ta, .int ((wb * 223 + 6007) % 65371) tv3]) (by decide) (by decide) rfl (.head hoff) ?_
    refine two1_t (.head _) fun tv4 t => div_t (by decide) fun tv5 t => mod_t ht fun tv6 t => ?_
    exact ⟨_, sub_id, hr _ _ ⟨_, _, _, _, _, _, rfl, ⟨Int.emod_nonneg _ (by omega), Int.emod_lt_of_pos _ ht⟩, rfl⟩⟩
/-- the well, apart from it the rest -/
noncomputable def Well (wl : Addr) (nn : Nat) (n rest : Led) : Prop := ∃ a b ta tb, (∀ p ∈ (wl, listOf #[.int a ta, .int b tb] nn) :: rest, p ∈ n) ∧ ∀ p ∈ rest, p.1 ≠ wl
theorem Well.of {wl : Addr} {nn : Nat} {rest : Led} {a b : Int} {ta tb : Tok} (h : ∀ p ∈ rest, p.1 ≠ wl) : Well wl nn ((wl, listOf #[.int a ta, .int b tb] nn) :: rest) rest := ⟨a, b, ta, tb, sub_id, h⟩
theorem Well.up {wl : Addr} {nn : Nat} {n rest : Led} {e : Addr × Obj} (h : Well wl nn n rest) (he : @Ne Nat e.1 wl) : Well wl nn (e :: n) (e :: rest) := by
  refine hide _ fun hidP hidH => ?_
  obtain ⟨a, b, ta, tb, h1, h2⟩ := h
  refine hidH ?_
  clear hidH
  exact ⟨a, b, ta, tb, sub_cons (.tail _ (h1 _ (.head _))) (sub_cons (.head _) (sub_up fun p hp => h1 p (.tail _ hp))), fun p hp => (List.mem_cons.mp hp).elim (fun z => z ▸ he) (h2 p)⟩
theorem Well.sub {wl : Addr} {nn : Nat} {n rest : Led} (h : Well wl nn n rest) : ∀ p ∈ rest, p ∈ n := by
  refine hide _ fun hidP hidH => ?_
  obtain ⟨a, b, ta, tb, h1, h2⟩ := h
  refine hidH ?_
  clear hidH
  exact fun p hp => h1 p (.tail _ hp)
section
variable {w : World} {cs : Scope} {c : Cx w cs} {D : Nat} {sl : Sl} {n rest : Led} {t : Nat} {wl : Addr} {nn : Nat} {k : KV} (ok : c.Ok D)
include ok
theorem draw_t (H : Well wl nn n rest) {top : Int} {tt : Tok} (ht : (0 < top ∧ top < 1000000)) (hD : Nat.ble 2 D = true) (h : ∀ n' p tv t, Well wl nn n' rest → 0 ≤ p ∧ p < top → k (.int p tv) sl n' t) : Tri c sl n t (call (.ref 320) [.ref wl, .int top tt]) k := by
  refine hide _ fun hidP hidH => ?_
  obtain ⟨a, b, ta, tb, h1, h2⟩ := H
  refine hidH ?_
  clear hidH
  exact Tri.drop h1 ((draw_c w wl a b ta tb nn rest h2 top tt ht.1 ht.2).tri ok hD (by rintro _ _ ⟨p, tv, a', b', ta', tb', rfl, hp, rfl⟩ t; exact h _ p tv t (.of h2) hp) fun _ z => z.elim)
end
theorem Well.end_ {wl : Addr} {nn : Nat} {n rest : Led} {P : Led → Prop} (h : Well wl nn n rest) (k : ∀ a b ta tb, P ((wl, listOf #[.int a ta, .int b tb] nn) :: rest)) : ∃ n', (∀ p ∈ n', p ∈ n) ∧ P n' := by
  refine hide _ fun hidP hidH => ?_
  obtain ⟨a, b, ta, tb, h1, h2⟩ := h
  refine hidH ?_
  clear hidH
  exact ⟨_, h1, k a b ta tb⟩
theorem Well.less {wl : Addr} {nn : Nat} {n rest rest' : Led} (h : Well wl nn n rest) (hs : ∀ p ∈ rest', p ∈ rest) : Well wl nn n rest' := by
  refine hide _ fun hidP hidH => ?_
  obtain ⟨a, b, ta, tb, h1, h2⟩ := h
  refine hidH ?_
  clear hidH
  exact ⟨a, b, ta, tb, sub_cons (h1 _ (.head _)) fun p hp => h1 p (.tail _ (hs p hp)), fun p hp => h2 p (hs p hp)⟩
theorem Well.ne {wl : Addr} {nn : Nat} {n rest : Led} {l : Addr} (h : Well wl nn n rest) (hl : ∀ p ∈ n, p.1 < l) : @Ne Nat l wl := by
  refine hide _ fun hidP hidH => ?_
  obtain ⟨a, b, ta, tb, h1, h2⟩ := h
  refine hidH ?_
  clear hidH
  exact Nat.ne_of_gt (hl _ (h1 _ (.head _)))
noncomputable def sideL : List Int := [1, 2, 255, 256, 257, 300, 4660, 65280, 65534, 65535, 65535, 0, 65536, -1]
theorem side_c (w : World) (wl : Addr) (wa wb : Int) (ta tb : Tok) (nn : Nat) (rest : List (Addr × Obj)) (hoff : ∀ p ∈ rest, p.1 ≠ wl) :
    Cn w 4 327 [.ref wl] ((wl, listOf #[.int wa ta, .int wb tb] nn) :: rest) (fun v n' => ∃ p t a' b' ta' tb', v = .int p t ∧ True ∧ n' = (wl, listOf #[.int a' ta', .int b' tb'] nn) :: rest) (fun _ => False) := by
  have hfill := fill_ w
  revert hfill
  k_fill
  intro _
  refine' Cn.of (binds := [(Str.ofString "well", .ref wl)]) (sl₀ := [some (.ref wl)]) (z := 1) ?hf ?hc ?hb ?hl ?c2 ?c3 ?c4 ?c5 ?hs ?_
  walk_at "v_enter"
  intro cx S ok one hn he hr t
  refine vc_go (f := 40) (rs := rs__law_side) ok (by kernel_rfl) (by kernel_rfl) ?_
  refine neg_t fun tv t => ⟨Nat.le_of_ble_eq_true rfl, fun l hl => ?_⟩
  have H := (Well.of hoff : Well wl nn ((wl, listOf #[.int wa ta, .int wb tb] nn) :: rest) rest)
  refine draw_t ok (H.up (H.ne hl)) (by decide) rfl fun n' p tp t H' hp => ?_
  refine item_t (ns := sideL) (H'.sub _ (.head _)) (.cons _ _ (.cons _ _ (.cons _ _ (.cons _ _ (.cons _ _ (.cons _ _ (.cons _ _ (.cons _ _ (.cons _ _ (.cons _ _ (.cons _ _ (.cons _ _ (.cons _ _ (.cons _ _ .nil)))))))))))))) hp.1 (show p < (sideL.length : Int) from hp.2) (by decide) fun tv t => ?_
  exact (H'.less (sub_up sub_id)).end_ fun a b ta tb => hr _ _ ⟨_, _, a, b, ta, tb, rfl, trivial, rfl⟩
theorem most_c (w : World) (wl : Addr) (wa wb : Int) (ta tb : Tok) (nn : Nat) (rest : List (Addr × Obj)) (hoff : ∀ p ∈ rest, p.1 ≠ wl) (most : Int) (tt : Tok) (ht : 0 ≤ most) (ht2 : most < 999999) :
    Cn w 4 334 [.ref wl, .int most tt] ((wl, listOf #[.int wa ta, .int wb tb] nn) :: rest) (fun v n' => ∃ p t a' b' ta' tb', v = .int p t ∧ True ∧ n' = (wl, listOf #[.int a' ta', .int b' tb'] nn) :: rest) (fun _ => False) := by
  have hfill := fill_ w
  revert hfill
  k_fill
  intro _
  refine' Cn.of (binds := [(Str.ofString "well", .ref wl), (Str.ofString "most", .int most tt)]) (sl₀ := [some (.ref wl), some (.int most tt), none]) (z := 1) ?hf ?hc ?hb ?hl ?c2 ?c3 ?c4 ?c5 ?hs ?_
  walk_at "v_enter"
  intro cx S ok one hn he hr t
  have H := (Well.of hoff : Well wl nn ((wl, listOf #[.int wa ta, .int wb tb] nn) :: rest) rest)
  refine vc_go (f := 40) (rs := rs__law_most) ok (by kernel_rfl) (by kernel_rfl) ?_
  refine draw_t ok H (by decide) rfl fun n' p tp t H' hp t' => ⟨fun e => ?_, fun e => ?_⟩
  · refine neg_t fun tv t => ⟨Nat.le_of_ble_eq_true rfl, fun l hl => ?_⟩
    refine item_t (ns := [-1, most + 1]) (.head _) (.cons _ _ (.cons _ _ .nil)) hp.1 (of_decide_eq_true e) (by simp) fun tv t => ?_
    exact (H'.up (H'.ne hl)).less (sub_up sub_id) |>.end_ fun a b ta tb => hr _ _ ⟨_, _, a, b, ta, tb, rfl, trivial, rfl⟩
  · refine draw_t ok H' (by omega) rfl fun n'' p' tp' t H'' hp' => ?_
    exact H''.end_ fun a b ta tb => hr _ _ ⟨_, _, a, b, ta, tb, rfl, trivial, rfl⟩
noncomputable def codesL : List Int := [192, 193, 194, 195, 197, 198, 199, 201, 202, 203, 205, 206, 207]
theorem codes_c (w : World) (news : List (Addr × Obj)) :
    Cn w 2 348 [] news (fun v n' => ∃ l vs, v = .ref l ∧ n' = (l, listOf (List.toArray vs) 0) :: news ∧ IntsAre vs codesL ∧ ∀ p ∈ news, p.1 < l) (fun _ => False) := by
  have hfill := fill_ w
  revert hfill
  k_fill
  intro _
  refine' Cn.of (binds := []) (sl₀ := []) (z := 0) ?hf ?hc ?hb ?hl ?c2 ?c3 ?c4 ?c5 ?hs ?_
  walk_at "v_enter"
  intro cx S ok one hn he hr t
  refine vc_go (f := 40) (rs := rs__law_codes) ok (by kernel_rfl) (by kernel_rfl) ?_
  refine ⟨Nat.le_of_ble_eq_true rfl, fun l hl => ?_⟩
  refine ⟨_, sub_id, hr _ _ ⟨l, _, rfl, rfl, ?_, hl⟩⟩
  unfold codesL
  exact .cons _ _ (.cons _ _ (.cons _ _ (.cons _ _ (.cons _ _ (.cons _ _ (.cons _ _ (.cons _ _ (.cons _ _ (.cons _ _ (.cons _ _ (.cons _ _ (.cons _ _ .nil))))))))))))
section
variable {w : World} {cs : Scope} {c : Cx w cs} {D : Nat} {sl : Sl} {n rest : Led} {t : Nat} {wl : Addr} {nn : Nat} {k : KV} (ok : c.Ok D)
include ok
theorem side_t (H : Well wl nn n rest) (hD : Nat.ble 4 D = true) (h : ∀ n' p tv t, Well wl nn n' rest → k (.int p tv) sl n' t) : Tri c sl n t (call (.ref 327) [.ref wl]) k := by
  refine hide _ fun hidP hidH => ?_
  obtain ⟨a, b, ta, tb, h1, h2⟩ := H
  refine hidH ?_
  clear hidH
  exact Tri.drop h1 ((side_c w wl a b ta tb nn rest h2).tri ok hD (by rintro _ _ ⟨p, tv, a', b', ta', tb', rfl, _, rfl⟩ t; exact h _ p tv t (.of h2)) fun _ z => z.elim)
theorem most_t (H : Well wl nn n rest) {most : Int} {tt : Tok} (ht : (0 ≤ most ∧ most < 999999)) (hD : Nat.ble 4 D = true) (h : ∀ n' p tv t, Well wl nn n' rest → k (.int p tv) sl n' t) : Tri c sl n t (call (.ref 334) [.ref wl, .int most tt]) k := by
  refine hide _ fun hidP hidH => ?_
  obtain ⟨a, b, ta, tb, h1, h2⟩ := H
  refine hidH ?_
  clear hidH
  exact Tri.drop h1 ((most_c w wl a b ta tb nn rest h2 most tt ht.1 ht.2).tri ok hD (by rintro _ _ ⟨p, tv, a', b', ta', tb', rfl, _, rfl⟩ t; exact h _ p tv t (.of h2)) fun _ z => z.elim)
theorem codes_t (hD : Nat.ble 2 D = true) (h : ∀ l vs t, IntsAre vs codesL → (∀ p ∈ n, p.1 < l) → k (.ref l) sl ((l, listOf (List.toArray vs) 0) :: n) t) : Tri c sl n t (call (.ref 348) []) k :=
  (codes_c w n).tri ok hD (by rintro _ _ ⟨l, vs, rfl, rfl, hi, hl⟩ t; exact h l vs t hi hl) fun _ z => z.elim
end
noncomputable def RS.after : RS → RS
  | .asg _ _ (.ife _ _ _ r) => r
  | r => r
noncomputable def RS.fst : RS → RE
  | .asg _ e _ => e
  | _ => .nil
section
variable {w : World} {cs : Scope} {c : Cx w cs} {D : Nat} {sl : Sl} {n rest : Led} {t : Nat} {wl : Addr} {nn : Nat} {k : KV} (ok : c.Ok D)
theorem setTwo_t {sp : Addr} {a b : Int} {ta tb : Tok} {m : Nat} {i : Int} {ti : Tok} {x : Int} {tx : Tok} {k : Unit → Sl → Led → Nat → Prop} (H : Well wl nn n ((sp, listOf #[.int a ta, .int b tb] m) :: rest)) (o : ∀ p ∈ rest, p.1 ≠ sp) (hi : 0 ≤ i ∧ i < 2)
    (h : ∀ n' a b ta tb, Well wl nn n' ((sp, listOf #[.int a ta, .int b tb] m) :: rest) → k () sl n' t) : Tri c sl n t (setItem (.ref sp) (.int i ti) (.int x tx)) k := by
  refine hide _ fun hidP hidH => ?_
  obtain ⟨wa, wb, u, v, h1, h2⟩ := H
  refine hidH ?_
  clear hidH
  have hw : @Ne Nat wl sp := Ne.symm (h2 _ (.head _))
  have hs : ∀ p ∈ (sp, listOf #[.int a ta, .int b tb] m) :: (wl, listOf #[.int wa u, .int wb v] nn) :: rest, p ∈ n := sub_cons (h1 _ (.tail _ (.head _))) (sub_cons (h1 _ (.head _)) fun p hp => h1 p (.tail _ (.tail _ hp)))
  have up : ∀ a b ta tb, Well wl nn ((sp, listOf #[.int a ta, .int b tb] m) :: (wl, listOf #[.int wa u, .int wb v] nn) :: rest) ((sp, listOf #[.int a ta, .int b tb] m) :: rest) := fun a b ta tb =>
    ⟨wa, wb, u, v, sub_cons (.tail _ (.head _)) (sub_cons (.head _) fun p hp => .tail _ (.tail _ hp)), off_cons (Ne.symm hw) fun p hp => h2 p (.tail _ hp)⟩
  refine Tri.drop hs ?_
  rcases (by omega : i = 0 ∨ i = 1) with rfl | rfl
  · exact setItem_t (q := [.int x tx, .int b tb]) (by decide) (by decide) rfl (.head (off_cons hw o)) (h _ _ _ _ _ (up _ _ _ _))
  · exact setItem_t (q := [.int a ta, .int x tx]) (by decide) (by decide) rfl (.head (off_cons hw o)) (h _ _ _ _ _ (up _ _ _ _))
theorem appW_t {l : Addr} {vs : Array Value} {m : Nat} {v : Value} (H : Well wl nn n ((l, listOf vs m) :: rest)) (o : ∀ p ∈ rest, p.1 ≠ l) (hz : vs.size ≤ sizeLine)
    (h : ∀ n', Well wl nn n' ((l, listOf (vs.push v) (m + 1)) :: rest) → k .none sl n' t) : Tri c sl n t (call (.builtin "list.append") [.ref l, v]) k := by
  refine hide _ fun hidP hidH => ?_
  obtain ⟨wa, wb, u, w', h1, h2⟩ := H
  refine hidH ?_
  clear hidH
  have hw : @Ne Nat wl l := Ne.symm (h2 _ (.head _))
  have hs : ∀ p ∈ (l, listOf vs m) :: (wl, listOf #[.int wa u, .int wb w'] nn) :: rest, p ∈ n := sub_cons (h1 _ (.tail _ (.head _))) (sub_cons (h1 _ (.head _)) fun p hp => h1 p (.tail _ (.tail _ hp)))
  exact Tri.drop hs (append_t (.head (off_cons hw o)) hz (h _ ⟨wa, wb, u, w', sub_cons (.tail _ (.head _)) (sub_cons (.head _) fun p hp => .tail _ (.tail _ hp)), off_cons (Ne.symm hw) fun p hp => h2 p (.tail _ hp)⟩))
include ok
theorem fr_code (H : Well wl nn n rest) (hD : Nat.ble 4 D = true) (h : ∀ n' v tv t, Well wl nn n' rest → k (.int v tv) (some (.ref wl) :: sl) n' t) : vcE c rs__law_frame.fst (some (.ref wl) :: sl) n t k := by
  refine draw_t ok H (by decide) (Nat.ble_eq.mpr (Nat.le_trans (by decide) (Nat.ble_eq.mp hD))) fun n1 p tp t H1 hp => ⟨fun _ => ?_, fun _ => ?_⟩
  · refine codes_t ok (Nat.ble_eq.mpr (Nat.le_trans (by decide) (Nat.ble_eq.mp hD))) fun lc vs t hi hl => ?_
    have H2 := H1.up (e := (lc, listOf (List.toArray vs) 0)) (H1.ne hl)
    refine draw_t ok H2 (by decide) (Nat.ble_eq.mpr (Nat.le_trans (by decide) (Nat.ble_eq.mp hD))) fun n3 q tq t H3 hq => ?_
    refine item_t (ns := codesL) (H3.sub _ (.head _)) hi hq.1 (show q < (codesL.length : Int) from hq.2) (by decide) fun tv t => ?_
    exact h _ _ _ _ (H3.less (sub_up sub_id))
  · exact draw_t ok H1 (by decide) (Nat.ble_eq.mpr (Nat.le_trans (by decide) (Nat.ble_eq.mp hD))) fun n2 q tq t H2 hq => h _ _ _ _ H2
end
/-- what holds between the turns -/
structure FT (wl l : Addr) (rest rest' : Led) (vs : List Value) (ks : List (Int × Int × Int × Int)) (i : Nat) : Prop where
  o0 : ∀ p ∈ rest', p.1 ≠ wl
  o1 : ∀ p ∈ rest', p.1 ≠ l
  n0 : @Ne Nat l wl
  hr : RowsAt rest' vs ks
  hk : ks.length = i
  hs : ∀ p ∈ rest, p ∈ rest'
noncomputable def FJ (wl l : Addr) (nn : Nat) (cv pv : Option Value) (rest : Led) (i : Nat) (sl : Sl) (n : Led) : Prop :=
  ∃ a b wa wb ta tb vs m ks rest', sl = [some (.ref wl), cv, pv, some (.ref l), a, b] ∧ n = (wl, listOf #[.int wa ta, .int wb tb] nn) :: (l, listOf (List.toArray vs) m) :: rest' ∧ FT wl l rest rest' vs ks i
theorem fr_next {wl l I Dt : Addr} {nn m i : Nat} {cv pv a b : Option Value} {rest rest' n : Led} {vs : List Value} {ks : List (Int × Int × Int × Int)} {oI : Obj} {x1 x2 x3 x4 : Int} {t1 t2 t3 t4 : Tok}
    (H : Well wl nn n ((l, listOf (vs.toArray.push (.ref Dt)) m) :: (I, oI) :: (Dt, tupOf [.int x1 t1, .int x2 t2, .int x3 t3, .int x4 t4]) :: rest')) (T : FT wl l rest rest' vs ks i) (hI : ∀ p ∈ rest', p.1 ≠ I) (hl : @Ne Nat l I) (hd : @Ne Nat Dt I) (hdl : @Ne Nat Dt l) :
    TurnEnd (FJ wl l nn cv pv rest (i + 1)) I oI [some (.ref wl), cv, pv, some (.ref l), a, b] n := by
  refine hide _ fun hidP hidH => ?_
  obtain ⟨wa, wb, ta, tb, h1, h2⟩ := H
  refine hidH ?_
  clear hidH
  rw [List.push_toArray] at h1
  refine ⟨h1 _ (.tail _ (.tail _ (.head _))), (wl, listOf #[.int wa ta, .int wb tb] nn) :: (l, listOf (vs ++ [Value.ref Dt]).toArray m) :: (Dt, tupOf [.int x1 t1, .int x2 t2, .int x3 t3, .int x4 t4]) :: rest', ?_, ?_, a, b, wa, wb, ta, tb, vs ++ [Value.ref Dt], m, ks ++ [(x1, x2, x3, x4)], _, rfl, rfl, ?_, ?_, T.n0, ?_, ?_, ?_⟩
  · exact sub_cons (h1 _ (.head _)) (sub_cons (h1 _ (.tail _ (.head _))) fun p hp => h1 p (.tail _ (.tail _ (.tail _ hp))))
  · exact off_cons (Ne.symm (h2 _ (.tail _ (.head _)))) (off_cons hl (off_cons hd hI))
  · exact fun p hp => h2 p (.tail _ (.tail _ hp))
  · exact off_cons hdl T.o1
  · exact (T.hr.mono fun p hp => .tail _ hp).snoc ⟨Dt, t1, t2, t3, t4, rfl, .head _⟩
  · rw [List.length_append, T.hk]; rfl
  · exact fun p hp => .tail _ (T.hs p hp)
section
variable {w : World} {cs : Scope} {c : Cx w cs} {D : Nat} {t : Nat} (ok : c.Ok D)
include ok
theorem fr_tail (hD : Nat.ble 4 D = true) {wl l I sp : Addr} {nn m i : Nat} {cv pv a : Option Value} {rest rest' n : Led} {vs : List Value} {ks : List (Int × Int × Int × Int)} {oI : Obj} {x y : Int} {tx ty : Tok} {kf : KF}
    (H : Well wl nn n ((sp, listOf #[.int x tx, .int y ty] 0) :: (I, oI) :: (l, listOf vs.toArray m) :: rest')) (T : FT wl l rest rest' vs ks i) (hI : ∀ p ∈ rest', p.1 ≠ I) (hl : @Ne Nat l I) (hi : i < 100000) :
    vcS c rs__law_frame_3.after [some (.ref wl), cv, pv, some (.ref l), a, some (.ref sp)] n t (turnK (FJ wl l nn cv pv rest (i + 1)) I oI kf) := by
  have hz : vs.toArray.size ≤ sizeLine := by rw [List.size_toArray, T.hr.1, T.hk, sizeLine_eq]; omega
  refine ⟨⟨_, _, H.sub _ (.tail _ (.tail _ (.head _)))⟩, most_t ok H (by decide) hD fun n1 p1 tp1 t H1 => ?_⟩
  refine two0_t (H1.sub _ (.head _)) fun tv1 t => two1_t (H1.sub _ (.head _)) fun tv2 t => ?_
  refine most_t ok H1 (by decide) hD fun n2 p2 tp2 t H2 => ⟨Nat.le_of_ble_eq_true rfl, fun Dt hd => ?_⟩
  have q1 : l < Dt := hd _ (H2.sub _ (.tail _ (.tail _ (.head _))))
  have q2 : I < Dt := hd _ (H2.sub _ (.tail _ (.head _)))
  have H3 := (H2.up (e := (Dt, tupOf [.int p1 tp1, .int x tv1, .int y tv2, .int p2 tp2])) (H2.ne hd)).less (rest' := (l, listOf vs.toArray m) :: (I, oI) :: (Dt, tupOf [.int p1 tp1, .int x tv1, .int y tv2, .int p2 tp2]) :: rest')
    (sub_cons (.tail _ (.tail _ (.tail _ (.head _)))) (sub_cons (.tail _ (.tail _ (.head _))) (sub_cons (.head _) fun p hp => .tail _ (.tail _ (.tail _ (.tail _ hp))))))
  exact appW_t H3 (off_cons (Ne.symm hl) (off_cons (Nat.ne_of_gt q1) T.o1)) hz fun n4 H4 => fr_next H4 T hI hl (Nat.ne_of_gt q2) (Nat.ne_of_gt q1)
end
noncomputable abbrev frCs : Scope := { kind := .function, names := [(Str.ofString "well", .local), (Str.ofString "code", .local), (Str.ofString "precision", .local), (Str.ofString "rows", .local), (Str.ofString "turn", .local), (Str.ofString "sampling", .local), (Str.ofString "_law_draw", .globalImplicit), (Str.ofString "_law_codes", .globalImplicit), (Str.ofString "range", .globalImplicit), (Str.ofString "_law_most", .globalImplicit), (Str.ofString "_law_side", .globalImplicit)], isGenerator := false, isCoroutine := false }
section
variable {w : World} {c : Cx w frCs} {D : Nat} {t : Nat} (ok : c.Ok D)
include ok
theorem fr_turn (hD : Nat.ble 4 D = true) {wl l I : Addr} {nn m i : Nat} {cv pv a b : Option Value} {rest rest' : Led} {vs : List Value} {ks : List (Int × Int × Int × Int)} {oI : Obj} {wa wb : Int} {ta tb : Tok} {kf : KF}
    (T : FT wl l rest rest' vs ks i) (hi : i < 100000) (oI' : ∀ p ∈ (wl, listOf #[.int wa ta, .int wb tb] nn) :: (l, listOf vs.toArray m) :: rest', p.1 ≠ I) :
    vcS c rs__law_frame_3 [some (.ref wl), cv, pv, some (.ref l), a, b] ((I, oI) :: (wl, listOf #[.int wa ta, .int wb tb] nn) :: (l, listOf vs.toArray m) :: rest') t (turnK (FJ wl l nn cv pv rest (i + 1)) I oI kf) := by
  have hl : @Ne Nat l I := oI' _ (.tail _ (.head _))
  have hI : ∀ p ∈ rest', p.1 ≠ I := fun p hp => oI' p (.tail _ (.tail _ hp))
  have hD' : Nat.ble 2 D = true := Nat.ble_eq.mpr (Nat.le_trans (by decide) (Nat.ble_eq.mp hD))
  have H := (Well.of (off_cons T.n0 T.o0) : Well wl nn ((wl, listOf #[.int wa ta, .int wb tb] nn) :: (l, listOf vs.toArray m) :: rest') _).up (e := (I, oI)) (Ne.symm (oI' _ (.head _)))
  refine draw_t ok H (by decide) hD' fun n1 p1 tp1 t H1 g1 => draw_t ok H1 (by decide) hD' fun n2 p2 tp2 t H2 g2 => ⟨Nat.le_of_ble_eq_true rfl, fun sp hs => ?_⟩
  have q1 : l < sp := hs _ (H2.sub _ (.tail _ (.head _)))
  have q2 : I < sp := hs _ (H2.sub _ (.head _))
  have os : ∀ p ∈ (I, oI) :: (l, listOf vs.toArray m) :: rest', p.1 ≠ sp := fun p hp => Nat.ne_of_lt (hs _ (H2.sub _ hp))
  refine draw_t ok (H2.up (e := (sp, _)) (H2.ne hs)) (by decide) hD' fun n4 p4 tp4 t H4 g4 => ⟨fun _ => ?_, fun _ => fr_tail ok hD H4 T hI hl hi⟩
  refine setit_t ok (ro := .loc 5) (ri := .call (.ref 320) (.cons (.loc 0) (.cons (.int 2) .nil))) (rv := .sub (.list (.cons (.int 0) (.cons (.int 5) (.cons (.int 16) (.cons (.un .USub (.int 1)) .nil))))) (.call (.ref 320) (.cons (.loc 0) (.cons (.int 4) .nil))) _ _) (by kernel_rfl) (by kernel_rfl) (by with_unfolding_all rfl) rfl ?_
  refine neg_t fun tv t => ⟨Nat.le_of_ble_eq_true rfl, fun lx hx => ?_⟩
  refine draw_t ok (H4.up (e := (lx, _)) (H4.ne hx)) (by decide) hD' fun n5 p5 tp5 t H5 g5 => ?_
  refine item_t (ns := [0, 5, 16, -1]) (H5.sub _ (.head _)) (.cons _ _ (.cons _ _ (.cons _ _ (.cons _ _ .nil)))) g5.1 (show p5 < (([0, 5, 16, -1] : List Int).length : Int) from g5.2) (by decide) fun tv6 t => ?_
  refine draw_t ok (H5.less (sub_up sub_id)) (by decide) hD' fun n7 p7 tp7 t H7 g7 => ?_
  exact setTwo_t H7 os g7 fun n8 a' b' ta' tb' H8 => fr_tail ok hD H8 T hI hl hi
end
theorem fr_end {wl l Dt : Addr} {nn m i : Nat} {rest rest' n : Led} {vs : List Value} {ks : List (Int × Int × Int × Int)} {x1 x2 x3 x4 : Int} {t1 t2 t3 t4 : Tok} {P : Value → Led → Prop}
    (H : Well wl nn n ((Dt, tupOf [.int x1 t1, .int x2 t2, .int x3 t3, .int x4 t4, .ref l]) :: (l, listOf vs.toArray m) :: rest')) (T : FT wl l rest rest' vs ks i) (h1 : 1 ≤ i) (h2 : i < 100)
    (h : ∀ v n', (∃ c p hh ww ks a' b' ta' tb' rest', n' = (wl, listOf #[.int a' ta', .int b' tb'] nn) :: rest' ∧ FrameRow rest' v c p hh ww ks ∧ 1 ≤ ks.length ∧ ks.length < 100 ∧ (∀ p ∈ rest', p.1 ≠ wl) ∧ ∀ p ∈ rest, p ∈ rest') → P v n') : ∃ n', (∀ p ∈ n', p ∈ n) ∧ P (.ref Dt) n' := by
  refine hide _ fun hidP hidH => ?_
  obtain ⟨wa, wb, ta, tb, g1, g2⟩ := H
  refine hidH ?_
  clear hidH
  refine ⟨_, g1, h _ _ ⟨x1, x2, x3, x4, ks, wa, wb, ta, tb, _, rfl, ⟨Dt, l, t1, t2, t3, t4, m, vs, rfl, .head _, .tail _ (.head _), T.hr.mono fun p hp => .tail _ (.tail _ hp)⟩, ?_, ?_, g2, fun p hp => .tail _ (.tail _ (T.hs p hp))⟩⟩
  · rw [T.hk]; exact h1
  · rw [T.hk]; exact h2
theorem IterT.well {w : World} {cs : Scope} {c : Cx w cs} {x : Str} {body : List Stmt} {v : Value} {sl : Sl} {n rest : Led} {t : Nat} {kf : KF} {wl : Addr} {nn : Nat} (H : Well wl nn n rest)
    (h : ∀ a b ta tb, (∀ p ∈ rest, p.1 ≠ wl) → IterT c x body v sl ((wl, listOf #[.int a ta, .int b tb] nn) :: rest) t kf) : IterT c x body v sl n t kf := by
  refine hide _ fun hidP hidH => ?_
  obtain ⟨a, b, ta, tb, h1, h2⟩ := H
  refine hidH ?_
  clear hidH
  exact IterT.drop h1 (h a b ta tb h2)
theorem FT.start {wl l rg : Addr} {o : Obj} {rest : Led} (h : ∀ p ∈ (l, listOf ([] : List Value).toArray 0) :: (rg, o) :: rest, p.1 ≠ wl) (hl : ∀ p ∈ (rg, o) :: rest, p.1 ≠ l) : FT wl l rest ((rg, o) :: rest) [] [] 0 :=
  ⟨fun p hp => h p (.tail _ hp), hl, h _ (.head _), .nil, rfl, fun p hp => .tail _ hp⟩
theorem frame_c (w : World) (wl : Addr) (wa wb : Int) (ta tb : Tok) (nn : Nat) (rest : List (Addr × Obj)) (hoff : ∀ p ∈ rest, p.1 ≠ wl) :
    Cn w 8 362 [.ref wl] ((wl, listOf #[.int wa ta, .int wb tb] nn) :: rest) (fun v n' => ∃ c p hh ww ks a' b' ta' tb' rest', n' = (wl, listOf #[.int a' ta', .int b' tb'] nn) :: rest' ∧ FrameRow rest' v c p hh ww ks ∧ 1 ≤ ks.length ∧ ks.length < 100 ∧ (∀ p ∈ rest', p.1 ≠ wl) ∧ ∀ p ∈ rest, p ∈ rest') (fun _ => False) := by
  have hfill := fill_ w
  revert hfill
  k_fill
  intro _
  refine' Cn.of (binds := [(Str.ofString "well", .ref wl)]) (sl₀ := [some (.ref wl), none, none, none, none, none]) (z := 5) ?hf ?hc ?hb ?hl ?c2 ?c3 ?c4 ?c5 ?hs ?_
  walk_at "v_enter"
  intro cx S ok one hn he hr t
  have H := (Well.of hoff : Well wl nn ((wl, listOf #[.int wa ta, .int wb tb] nn) :: rest) rest)
  refine vc_go (f := 40) (rs := rs__law_frame) ok (by kernel_rfl) (by kernel_rfl) ?_
  refine fr_code ok H rfl fun n1 p1 tp1 t H1 => ?_
  refine draw_t ok H1 (by decide) rfl fun n2 p2 tp2 t H2 g2 => ⟨Nat.le_of_ble_eq_true rfl, fun lx hx => ?_⟩
  refine draw_t ok (H2.up (e := (lx, _)) (H2.ne hx)) (by decide) rfl fun n3 p3 tp3 t H3 g3 => ?_
  refine item_t (ns := [8, 8, 12, p2 - 1]) (H3.sub _ (.head _)) (.cons _ _ (.cons _ _ (.cons _ _ (.cons _ _ .nil)))) g3.1 (show p3 < (([8, 8, 12, p2 - 1] : List Int).length : Int) from g3.2) (by simp) fun tv4 t => ⟨by decide, fun l hl => ?_⟩
  have H4 := ((H3.less (sub_up sub_id)).up (e := (l, listOf ([] : List Value).toArray 0)) (H3.ne hl))
  refine for_t (ix := 4) ok one (re := .call (.type "range") (.cons (.bin (.int 1) .Add (.call (.ref 320) (.cons (.loc 0) (.cons (.int 6) .nil)))) .nil)) (by kernel_rfl) (by kernel_rfl) (fun _ => rfl) ?_
  refine draw_t ok H4 (by decide) rfl fun n5 p5 tp5 t H5 g5 => range_t fun rg u1 u2 u3 t hg => ?_
  have o1 : ∀ p ∈ (rg, rangeObj (1 + p5) u1 u2 u3) :: rest, p.1 ≠ l := off_cons (Nat.ne_of_gt (hg _ (H5.sub _ (.head _)))) (fun p hp => Nat.ne_of_lt (hl _ (H3.sub _ (.tail _ hp))))
  refine IterT.well ((H5.up (e := (rg, rangeObj (1 + p5) u1 u2 u3)) (H5.ne hg)).less (rest' := (l, listOf ([] : List Value).toArray 0) :: (rg, rangeObj (1 + p5) u1 u2 u3) :: rest) (sub_cons (.tail _ (.head _)) (sub_cons (.head _) fun p hp => .tail _ (.tail _ hp)))) fun a b ta tb hw => ?_
  refine iter_range_t (ix := 4) (N := (1 + p5).toNat) one (FJ wl l nn (some (.int p1 tp1)) (some (.int ([8, 8, 12, p2 - 1].getD p3.toNat 0) tv4)) rest) (by kernel_rfl) (.tail _ (.tail _ (.head _))) (by omega) (by omega) ⟨_, _, a, b, ta, tb, [], 0, [], _, rfl, rfl, FT.start hw o1⟩ ?_ ?_
  · intro i tv sl n I oI t hi hz1 hI
    refine hide _ fun hidP hidH => ?_
    obtain ⟨a, b, wa, wb, ta, tb, vs, m, ks, rest', rfl, rfl, T⟩ := hz1
    refine hidH ?_
    clear hidH
    exact vc_go (f := 40) (rs := rs__law_frame_3) ok (by kernel_rfl) (by kernel_rfl) (fr_turn ok rfl T (by omega) hI)
  · intro sl n t hz2
    refine hide _ fun hidP hidH => ?_
    obtain ⟨a, b, wa, wb, ta, tb, vs, m, ks, rest', rfl, rfl, T⟩ := hz2
    refine hidH ?_
    clear hidH
    refine side_t ok (Well.of (off_cons T.n0 T.o0)) rfl fun n6 p6 tp6 t H6 => ?_
    refine side_t ok H6 rfl fun n7 p7 tp7 t H7 => ⟨Nat.le_of_ble_eq_true rfl, fun Dt hd => ?_⟩
    exact fr_end (H7.up (H7.ne hd)) T (by omega) (by omega) fun v n' q => hr v n' q
noncomputable abbrev frs (l : List Env) : List Addr := l.filterMap (·.frame)
theorem frs_mem {env : Env} {outer : List Env} {L b : Addr} (hf : env.frame = some L) (hm : b ∈ frs (env :: outer)) : b = L ∨ b ∈ frs outer := by
  obtain ⟨e, he, hb⟩ := List.mem_filterMap.mp hm
  rcases List.mem_cons.mp he with rfl | he
  · exact .inl (Option.some.inj (hf.symm.trans hb)).symm
  · exact .inr (List.mem_filterMap.mpr ⟨e, he, hb⟩)
noncomputable def LeaveT (A₀ : Around) (base : Heap) (env : Env) (outer : List Env) (K : Frag) (p : Program) (loose : List Str) (mean : ExcName → Option Value) (mg mb : Str → Option Value) (h₀ : Heap) (L : Addr) (m : Str → Option Value) (g : Heap) (R : Result → Shared → Prop) (v : Value) (s' : Shared) : Prop :=
  ∃ g' L' m' news', KtsTurn (frs (env :: outer)) g g' ∧ Fr g' L' s'.heap m' ∧ News g' L' s'.heap news' ∧ ∀ h₀', KtsTurn (frs outer) h₀ h₀' → Fr h₀' L s'.heap m → News h₀' L s'.heap news' → Below A₀ base outer h₀' → K.In h₀' → Top p loose mean mg mb h₀' →
    KtsDicts (frs outer) h₀' → R (.ok (.ret v)) s'
theorem leaveT_ {A₀ : Around} {base : Heap} {env : Env} {outer : List Env} {K : Frag} {p : Program} {loose : List Str} {mean : ExcName → Option Value} {mg mb : Str → Option Value} {h₀ g g' : Heap} {L L' : Addr} {m m' : Str → Option Value} {news' : List (Addr × Obj)} {R : Result → Shared → Prop} {v : Value} {s' : Shared}
    (F' : Fr g' L' s'.heap m') (N' : News g' L' s'.heap news') (T : KtsTurn (frs (env :: outer)) g g')
    (k : ∀ h₀', KtsTurn (frs outer) h₀ h₀' → Fr h₀' L s'.heap m → News h₀' L s'.heap news' → Below A₀ base outer h₀' → K.In h₀' → Top p loose mean mg mb h₀' → KtsDicts (frs outer) h₀' → R (.ok (.ret v)) s') :
    LeaveT A₀ base env outer K p loose mean mg mb h₀ L m g R v s' := ⟨g', L', m', news', T, F', N', k⟩
section
variable {prog : Program} {w : World} {A₀ A : Around} {s : Shared} {base h₀ : Heap} {outer : List Env} {L : Addr} {m : Str → Option Value} {env : Env} {news : List (Addr × Obj)} {K : Frag} {p : Program} {loose : List Str} {mean : ExcName → Option Value} {mg mb : Str → Option Value}
  {R : Result → Shared → Prop} {name qual : Str} {params : Arguments} {body : List Stmt} {scope : Scope} {dV kV doc pm cdv ct oc : Value} {an od : Option Addr} {osl : Array (Option Value)} {f : Addr} {args : Args} {binds : List (Str × Value)}
theorem groundT (B : Below A₀ base outer h₀) (F : Fr h₀ L s.heap m) (N : News h₀ L s.heap news) (XB : K.In base) (TB : Top p loose mean mg mb base) (D : KtsDicts (frs outer) h₀) (hA : A.frames = some (env :: outer)) (hf : env.frame = some L) (hke : env.scope.kind = .function) :
    Fr h₀ L (hideAll s.heap (news.map (·.1))) m ∧ Below A base (env :: outer) (hideAll s.heap (news.map (·.1))) ∧ h₀.StaysIn (hideAll s.heap (news.map (·.1))) ∧ KtsDicts (frs (env :: outer)) (hideAll s.heap (news.map (·.1))) ∧
      ∀ v s', LeaveT A₀ base env outer K p loose mean mg mb h₀ L m (hideAll s.heap (news.map (·.1))) R v s' → R (.ok (.ret v)) s' := by
  have nm : ∀ b o, h₀.get? b = some o → b ∉ news.map (·.1) := fun b o e q => by
    obtain ⟨p, hp, rfl⟩ := List.mem_map.mp q
    rw [(N p hp).2.2] at e; cases e
  have st : h₀.StaysIn (hideAll s.heap (news.map (·.1))) := fun b o e => hideAll_get _ (F.keep b o e) (nm b o e)
  have hns := F.ns
  refine hide _ fun hidP hidH => ?_
  obtain ⟨oL, es, ep, hL, hLd, hLk, hLf⟩ := F.ns
  refine hidH ?_
  clear hidH
  have nL : L ∉ news.map (·.1) := fun q => by
    obtain ⟨p, hp, e⟩ := List.mem_map.mp q
    exact (N p hp).2.1 e
  have hLg := hideAll_get (news.map (·.1)) hL nL
  have hNs : ∀ (sl : Array (Option Value)) h', h'.get? L = some { oL with slots := sl } → Heap.Ns h' L m := fun sl h' e => ⟨_, es, ep, e, hLd, hLk, hLf⟩
  refine hide _ fun hidP hidH => ?_
  obtain ⟨FG, BG, _, _⟩ := groundX (R := R) B F N hA hf hke
  refine hidH ?_
  clear hidH
  refine ⟨FG, BG, st, fun b hb => ?_, fun v s' hl => ?_⟩
  · rcases frs_mem hf hb with rfl | hb
    · exact ⟨oL, es, ep, hLg, hLd⟩
    · refine hide _ fun hidP hidH => ?_
      obtain ⟨o, es', n', ho', hd'⟩ := D b hb
      refine hidH ?_
      clear hidH
      exact ⟨o, es', n', st b o ho', hd'⟩
  have nL₀ : h₀.get? L = none := kts_self F
  refine hide _ fun hidP hidH => ?_
  obtain ⟨g', L', m', news', T', F', N', k⟩ := hl
  refine hidH ?_
  clear hidH
  obtain ⟨sl, hs⟩ := T'.up hLg
  obtain ⟨T₁, S₁⟩ := kts_turn_at (h := s'.heap) (fs := frs outer) (g := h₀)
    (fun b hb => by
      refine hide _ fun hidP hidH => ?_
      obtain ⟨_, o, ho', _⟩ := B.frames.mem hb
      refine hidH ?_
      clear hidH
      exact ⟨o, ho'⟩)
    (fun b o e nmem => F'.keep b o (T'.other b o (st b o e) (fun q => by
      rcases frs_mem hf q with z | z
      · rw [z, nL₀] at e
        cases e
      · exact nmem z)))
    (fun b o e hm => by
      obtain ⟨sl', hs'⟩ := T'.up (st b o e)
      exact ⟨sl', F'.keep _ _ hs'⟩)
  have B₃ : Below A₀ base outer (ktsHeap s'.heap (frs outer) h₀) := ⟨B.stack, fun b o e => T₁.other b o (B.stays b o e) (fun hm => by
    rw [(B.frames.mem hm).1] at e
    cases e), B.frames.of_keeps fun b o e _ => by
    obtain ⟨sl', hs'⟩ := T₁.up e
    exact ⟨_, hs', rfl⟩⟩
  refine k _ T₁ ⟨hNs sl _ (F'.keep _ _ hs), S₁, by rw [T₁.size]; exact F.above⟩ (fun p hp => ⟨(N' p hp).1, fun q => ?_, ?_⟩) B₃ (XB.keeps B₃.stays) (TB.keeps B₃.stays) (D.turn T₁)
  · have := (N' p hp).2.2; rw [q, hs] at this; cases this
  · refine T₁.none_ _ ?_
    cases q : h₀.get? p.1 with
    | none => rfl
    | some o =>
      obtain ⟨sl', hs'⟩ := T'.up (st _ _ q)
      have := (N' p hp).2.2
      rw [hs'] at this
      cases this
theorem code_defT (B : Below A₀ base outer h₀) (F : Fr h₀ L s.heap m) (X₀ : K.In h₀) (N : News h₀ L s.heap news) (T : Top p loose mean mg mb h₀) (XB : K.In base) (TB : Top p loose mean mg mb base) (D : KtsDicts (frs outer) h₀)
    (hA : A.frames = some (env :: outer)) (hf : env.frame = some L) (hke : env.scope.kind = .function)
    (ho : K.lookup f = some ⟨oc, od, .func (fnOf name qual params body scope dV kV doc pm an cdv ct), osl⟩) (hcd : codeIn K cdv qual = true) (hroom : A.depth < recursionLimit)
    (hbind : BindsTo s (fnOf name qual params body scope dV kV doc pm an cdv ct) args binds) (hloc : ∀ y ∈ binds, scope.names.lookup y.1 = some .local)
    (h : ∀ g L' h₁, Fr h₀ L g m → Fr g L' h₁ (fun y => binds.reverse.lookup y) → News g L' h₁ news → Below A base (env :: outer) g → K.In g → Top p loose mean mg mb g → KtsDicts (frs (env :: outer)) g → (∀ p ∈ news, p.1 < L') →
      wpAny (model prog w) (A.deeper (envOf qual scope L' f cdv)) (execs body (envOf qual scope L' f cdv))
        (fun fl s' => LeaveT A₀ base env outer K p loose mean mg mb h₀ L m g R (match fl with | .ret v => v | _ => .none) s')
        (fun e s' => wpAny (model prog w) (A.deeper (envOf qual scope L' f cdv)) (leaving (envOf qual scope L' f cdv) e) (fun _ s'' => R (.error e) s'') (fun e' s'' => R (.error e') s'') s')
        { s with heap := h₁, toks := s.toks + binds.length })
    (hco : scope.isCoroutine = false) (hgen : scope.isGenerator = false) (hk : scope.kind = .function)
    (hcell : ∀ x ∈ scope.names, x.2 ≠ .cell) : codeAny (model prog w) A (.call (.ref f) args) R s := by
  have X := X₀.keeps F.keep
  refine hide _ fun hidP hidH => ?_
  obtain ⟨FG, BG, st, DG, lv⟩ := groundT (R := R) B F N XB TB D hA hf hke
  refine hidH ?_
  clear hidH
  refine codeAny_call_def (fd := fnOf name qual params body scope dV kV doc pm an cdv ct) (body := body) (binds := binds) hroom (X _ _ ho) rfl (T.nolimit.keeps F.keep) (codeRec_of X hcd) rfl hbind hcell hloc (fun h₁ hns hk₁ => ?_) hco hgen hk
  exact wpAny_mono (h _ s.heap.objs.size h₁ FG ⟨hns, fun b o e => hk₁ b o (of_hideAll _ e), Nat.le_of_eq (hideAll_size _ _)⟩
    (fun p hp => ⟨hk₁ _ _ (N p hp).1, Nat.ne_of_lt (Heap.lt_size (N p hp).1), hideAll_none _ (List.mem_map_of_mem hp)⟩) BG (X₀.keeps st) (T.keeps st) DG (fun p hp => Heap.lt_size (N p hp).1)) (fun fl s' hl => lv _ _ hl) fun _ _ y => y
theorem code_defTC (B : Below A₀ base outer h₀) (F : Fr h₀ L s.heap m) (X₀ : K.In h₀) (N : News h₀ L s.heap news) (T : Top p loose mean mg mb h₀) (XB : K.In base) (TB : Top p loose mean mg mb base) (D : KtsDicts (frs outer) h₀)
    (hA : A.frames = some (env :: outer)) (hf : env.frame = some L) (hke : env.scope.kind = .function)
    (ho : K.lookup f = some ⟨oc, od, .func (fnOf name qual params body scope dV kV doc pm an cdv ct), osl⟩) (hcd : codeIn K cdv qual = true) (hroom : A.depth < recursionLimit)
    (hbind : BindsTo s (fnOf name qual params body scope dV kV doc pm an cdv ct) args binds) (hkind' : (binds.all fun y => scope.names.lookup y.1 == some .local || scope.names.lookup y.1 == some .cell) = true)
    (hnd : ((cellsFrom 0 scope.names []).map (·.1)).Nodup)
    (h : ∀ g L' h₁ tk cells, Fr h₀ L g m → Fr g L' h₁ (bindL (envOfC qual scope L' f cdv).kindOf binds fun _ => none) → News g L' h₁ (cells ++ news) →
      CellsAre (bindC (envOfC qual scope L' f cdv).kindOf binds fun _ => none) (cellsFrom (L' + 1) scope.names []) cells → Below A base (env :: outer) g → K.In g → Top p loose mean mg mb g → KtsDicts (frs (env :: outer)) g → (∀ p ∈ news, p.1 < L') →
      wpAny (model prog w) (A.deeper (envOfC qual scope L' f cdv)) (execs body (envOfC qual scope L' f cdv))
        (fun fl s' => LeaveT A₀ base env outer K p loose mean mg mb h₀ L m g R (match fl with | .ret v => v | _ => .none) s')
        (fun e s' => wpAny (model prog w) (A.deeper (envOfC qual scope L' f cdv)) (leaving (envOfC qual scope L' f cdv) e) (fun _ s'' => R (.error e) s'') (fun e' s'' => R (.error e') s'') s')
        { s with heap := h₁, toks := tk })
    (hco : scope.isCoroutine = false) (hgen : scope.isGenerator = false) (hk : scope.kind = .function) : codeAny (model prog w) A (.call (.ref f) args) R s := by
  have X := X₀.keeps F.keep
  have hkind := kindsX hkind'
  have hlim := T.nolimit
  refine hide _ fun hidP hidH => ?_
  obtain ⟨FG, BG, st, DG, lv⟩ := groundT (R := R) B F N XB TB D hA hf hke
  refine hidH ?_
  clear hidH
  refine codeAny_call_function hroom (X _ _ ho) rfl hco hgen rfl (codeRec_of X hcd) (hbind _ _ _ _ ?_)
  refine wpAny_newFunctionEnv_cells hk (hkind _) fun env' he s' x => ?_
  subst he
  refine ⟨(hlim.keeps F.keep).keeps x.toInCall.keep, codeAny_func ?_⟩
  refine hide _ fun hidP hidH => ?_
  obtain ⟨h₁, tk, rfl, _⟩ := x.done
  refine hidH ?_
  clear hidH
  have hk₁ := x.toInCall.keep
  obtain ⟨cells, NC, Y⟩ := Cl.news (h₀ := s.heap) (Nat.le_refl _) fun n c hm => ⟨x.cell n c (lookup_of_mem_nodup (cellsFrom_names scope.names 0 (s.heap.objs.size + 1) [] [] rfl ▸ hnd) hm), x.above n c hm⟩
  refine wpAny_mono (h _ s.heap.objs.size h₁ tk cells FG ⟨x.toInCall.ns, fun b o e => hk₁ b o (of_hideAll _ e), Nat.le_of_eq (hideAll_size _ _)⟩ (fun p hp => ?_) Y BG (X₀.keeps st) (T.keeps st) DG (fun p hp => Heap.lt_size (N p hp).1)) (fun fl s' hl => lv _ _ hl) fun _ _ y => y
  rcases List.mem_append.mp hp with hp | hp
  · refine ⟨(NC p hp).1, (NC p hp).2.1, ?_⟩
    cases q : (hideAll s.heap (news.map (·.1))).get? p.1 with
    | none => rfl
    | some o => have := of_hideAll _ q; rw [(NC p hp).2.2] at this; cases this
  · exact ⟨hk₁ _ _ (N p hp).1, Nat.ne_of_lt (Heap.lt_size (N p hp).1), hideAll_none _ (List.mem_map_of_mem hp)⟩
end
/-- a function in which something may be caught -/
noncomputable abbrev CnT (w : World) (D : Nat) (f : Addr) (vs : List Value) (news : List (Addr × Obj)) (R : Value → List (Addr × Obj) → Prop) : Prop :=
  ∀ (loose : List Str) (mean : ExcName → Option Value) (mg mb : Str → Option Value) (dp un : Nat) (gd : Option (List Code)) (cn : Str) (cs : Scope) (a : Addr) (ccd : Value) (cl : List (Str × Addr)) (outer : List Env) (A₀ : Around) (base h₀ : Heap) (L : Addr) (m : Str → Option Value) (s : Shared) (Q E : Value → Shared → Prop),
    Below A₀ base outer h₀ → Fr h₀ L s.heap m → (K w.params).In h₀ → News h₀ L s.heap news → Top topProg loose mean mg mb h₀ → (K w.params).In base → Top topProg loose mean mg mb base → KtsDicts (frs outer) h₀ → cs.kind = .function → dp + D < 500 → un + 8 * D < 2000 →
    (∀ v news' h' tk' h₀', R v news' → KtsTurn (frs outer) h₀ h₀' → Fr h₀' L h' m → News h₀' L h' news' → Below A₀ base outer h₀' → (K w.params).In h₀' → Top topProg loose mean mg mb h₀' → KtsDicts (frs outer) h₀' → Q v { s with heap := h', toks := tk' }) →
    Fill w →
    wpAny (model PySem.Challenge.rw_pf0239_01.prog w) (ktrTop dp un gd cn cs L a ccd cl outer) (call (.ref f) vs) Q E s
theorem heard_c (w : World) (D : Nat) (deed : Addr) (oc : Value) (od : Option Addr) (fd : FuncData) (sl : Array (Option Value)) (news : List (Addr × Obj)) (R : Value → List (Addr × Obj) → Prop) (X : Addr → Prop) (hX : ∀ C, X C → C = 44) (hm : (deed, (⟨oc, od, .func fd, sl⟩ : Obj)) ∈ news) (hcd' : Cn w D deed [] news R X) :
    CnT w (D + 4) 341 [.ref deed] news (fun v n' => R v n' ∨ (v = .none ∧ n' = news ∧ ∃ C, X C)) := by
  unfold CnT
  intro loose mean mg mb dp un gd cn cs a ccd cl outer A₀ base h₀ L m s Q E B F X' N T XB TB D' hk hdp hun hret
  unfold Fill
  k_fill
  intro hfill
  refine wpAny_call ?_
  k_dflt (refine' code_defT ?k1 ?k2 ?k3 ?k4 ?k5 ?XB ?TB ?D ?kA ?kF ?kK ?k6 ?k7 ?k8 ?k9 ?kB ?_ ?c2 ?c3 ?c4 ?c5; (case kA => exact rfl); (case kF => exact rfl); (case kK => exact hk); (case XB => assumption); (case TB => assumption); (case D => assumption); (case k2 => k_asm); (case k1 => k_asm); (case k3 => k_asm); (case k4 => k_asm); (case k5 => k_asm); (case k6 => k_is); (case k7 => k_is); (case k8 => ktr_room); (case k9 => exact BindsTo.of_eq rfl); (case c5 => decide); (case kB => exact locs rfl); (case c2 => exact rfl); (case c3 => exact rfl); (case c4 => exact rfl); k_whole; intro g' L' h' FG' F' N' B' X' T' D' l'; (try dsimp only); (try k_lift B'); (try k_fold))
  k_steps
  refine callWith_F0 (FnAt.of N' hm) ?_
  dsimp only [List.nil_append, List.append_nil]
  refine' Cn.use hcd' ?k1 ?k2 ?k3 ?k4 ?k5 ?k6 ?k7 ?k8 ?k9 ?_ ?_
  case k1 => k_asm
  case k2 => k_asm
  case k3 => k_asm
  case k4 => k_asm
  case k5 => k_asm
  case k6 => first | exact rfl | assumption
  case k7 => ktr_room
  case k8 => ktr_units
  case k9 => assumption
  · rintro v' n' h' tk' hR F' N'
    k_steps
    refine leaveT_ (by k_asm) (by k_asm) (by first | assumption | exact KtsTurn.refl) ?_
    intro kg kT kF kN kB kX kP kD
    exact hret _ _ _ _ _ (.inl hR) kT kF kN kB kX kP kD
  · rintro C' e' t' vs' h' tk' g' hX' F' R' U'
    obtain rfl := hX C' hX'
    k_steps
    dsimp only
    refine leaveT_ (by k_asm) (by k_asm) (by first | assumption | exact KtsTurn.refl) ?_
    intro kg kT kF kN kB kX kP kD
    exact hret _ _ _ _ _ (.inr ⟨rfl, rfl, _, hX'⟩) kT kF kN kB kX kP kD
section
variable {w : World} {cs : Scope} {c : Cx w cs} {D : Nat} {sl : Sl} {n : Led} {t : Nat}
/-- a frame in which something may be caught -/
structure Cx.OkT (c : Cx w cs) : Prop where
  XB : (K w.params).In c.base
  TB : Top topProg c.loose c.mean c.mg c.mb c.base
  D : ∀ b, c.turn b → KtsDicts (frs c.outer) b
  step : ∀ b b', c.turn b → KtsTurn (frs c.outer) b b' → Below c.A₀ c.base c.outer b' → (K w.params).In b' → Top topProg c.loose c.mean c.mg c.mb b' → KtsDicts (frs c.outer) b' → c.turn b'
  A : c.A = c.A₀.deeper c.env
  ownM : ∀ e, PassesOwnAt (MM w) (c.A.mark (some (.ref e))) c.A c.env c.E
theorem CnT.tri {D D' : Nat} {f : Addr} {vs : List Value} {R : Value → Led → Prop} (cn : CnT w D f vs n R) (ok : c.Ok D') (okT : c.OkT) (hD : Nat.ble D D' = true) {k : KV} (hR : ∀ v n', R v n' → ∀ t, k v sl n' t) : Tri c sl n t (call (.ref f) vs) k := by
  have hD := Nat.le_of_ble_eq_true hD
  intro h hz1
  refine hide _ fun hidP hidH => ?_
  obtain ⟨b, W, F, N⟩ := hz1
  refine hidH ?_
  clear hidH
  exact cn _ _ _ _ _ _ _ _ _ _ _ _ _ _ _ _ _ _ _ _ _ (ok.B b W) F (ok.X b W) N (ok.T b W) okT.XB okT.TB (okT.D b W) ok.hk (Nat.lt_of_le_of_lt (Nat.add_le_add_left hD _) ok.hd) (Nat.lt_of_le_of_lt (Nat.add_le_add_left (Nat.mul_le_mul_left 8 hD) _) ok.hu)
    (fun v n' h' tk' b' r T F' N' B' X' T' D' => ⟨h', sl, n', tk', rfl, ⟨b', okT.step b b' W T B' X' T' D', F', N'⟩, hR v n' r tk'⟩) ok.fl
/-- the same frame, its base held -/
noncomputable abbrev Cx.hold (c : Cx w cs) (b : Heap) : Cx w cs := { c with turn := fun b' => b' = b }
theorem Cx.Ok.hold (ok : c.Ok D) {b : Heap} (hb : c.turn b) : (c.hold b).Ok D :=
  ⟨fun _ e => e ▸ ok.B b hb, fun _ e => e ▸ ok.X b hb, fun _ e => e ▸ ok.T b hb, ok.hk, ok.hd, ok.hu, ok.fl, by
    intro v s hz2
    refine hide _ fun hidP hidH => ?_
    obtain ⟨C, e, t, vs, h, tk, b', g₂, m', e1, e2, e3, f3, r3, u3, k3⟩ := hz2
    refine hidH ?_
    clear hidH
    exact ok.raise v s ⟨C, e, t, vs, h, tk, b, g₂, m', e1, e2, hb, (show b' = b from e3) ▸ f3, r3, u3, k3⟩, ok.own⟩
theorem Cx.one_hold {b : Heap} : (c.hold b).One := fun _ _ e e' => e.trans e'.symm
theorem Tri.held {α : Type} {x : Sem α} {k : α → Sl → Led → Nat → Prop} (h : ∀ b, c.turn b → Tri (c.hold b) sl n t x k) : Tri c sl n t x k := by
  intro hp hz3
  refine hide _ fun hidP hidH => ?_
  obtain ⟨b, W, F, N⟩ := hz3
  refine hidH ?_
  clear hidH
  refine wpAny_mono (h b W hp ⟨b, rfl, F, N⟩) ?_ fun _ _ e => e
  intro v s hz4
  refine hide _ fun hidP hidH => ?_
  obtain ⟨h', sl', n', t', rfl, ⟨b', eb, F', N'⟩, hk⟩ := hz4
  refine hidH ?_
  clear hidH
  exact ⟨h', sl', n', t', rfl, ⟨b, W, (show b' = b from eb) ▸ F', (show b' = b from eb) ▸ N'⟩, hk⟩
/-- a name in a cell -/
theorem cell_t {x : Str} {pos : Pos} {a : Addr} {o : Obj} {v : Value} {k : KV} (ok : c.Ok D) (hc : c.cl.lookup x = some a) (hm : (a, o) ∈ n) (hd : o.data = .cell (some v)) (hx : cs.names.lookup x = some .cell) (hb : (x == ("__debug__" : Str)) = false) (h : k v sl n t) : Tri c sl n t (eval (.Name x pos) c.env) k :=
  fun hp ⟨b, W, F, N⟩ => nameX_C (s := c.sh hp t) N hc hm hd ⟨hp, sl, n, t, rfl, ⟨b, W, F, N⟩, h⟩ ok.hk hx hb
theorem free_t {x : Str} {pos : Pos} {a : Addr} {o : Obj} {v : Value} {k : KV} (ok : c.Ok D) (hc : c.cl.lookup x = some a) (hm : (a, o) ∈ n) (hd : o.data = .cell (some v)) (hx : cs.names.lookup x = some .free) (hb : (x == ("__debug__" : Str)) = false) (hn : (x == ("__classdict__" : Str)) = false) (h : k v sl n t) : Tri c sl n t (eval (.Name x pos) c.env) k :=
  fun hp ⟨b, W, F, N⟩ => nameX_F (s := c.sh hp t) N hc hm hd ⟨hp, sl, n, t, rfl, ⟨b, W, F, N⟩, h⟩ ok.hk hx hb hn
/-- a cell set -/
noncomputable def AsgC (c : Cx w cs) (x : Str) (v : Value) (n : Led) (k : Led → Prop) : Prop :=
  ∃ n₀ a o g v₀, (∀ p ∈ n₀, p ∈ n) ∧ c.cl.lookup x = some a ∧ cs.names.lookup x = some .cell ∧ UpdF a o n₀ g ∧ o.data = .cell v₀ ∧ ∀ o', o'.data = .cell (some v) → k (g o')
theorem AsgC.tri {x : Str} {v : Value} {k : Unit → Sl → Led → Nat → Prop} (ok : c.Ok D) (h : AsgC c x v n fun n' => k () sl n' t) : Tri c sl n t (storeName c.env x v) k := by
  refine hide _ fun hidP hidH => ?_
  obtain ⟨n₀, a, o, g, v₀, hs, hc, hx, U, hd, hk⟩ := h
  refine hidH ?_
  clear hidH
  exact fun hp ⟨b, W, F, N⟩ => storeX_C (s := c.sh hp t) F (fun p hp => N p (hs p hp)) hc U hd (fun h' o' F' N' e => ⟨h', sl, g o', t, rfl, ⟨b, W, F', N'⟩, hk o' e⟩) ok.hk hx
theorem AsgC.head {x : Str} {v : Value} {a : Addr} {o : Obj} {v₀ : Option Value} {r : Led} {k : Led → Prop} (hs : ∀ p ∈ (a, o) :: r, p ∈ n) (hc : c.cl.lookup x = some a) (hx : cs.names.lookup x = some .cell) (hd : o.data = .cell v₀) (ho : ∀ p ∈ r, p.1 ≠ a) (h : ∀ o', o'.data = .cell (some v) → k ((a, o') :: r)) : AsgC c x v n k :=
  ⟨_, a, o, _, v₀, hs, hc, hx, .head ho, hd, h⟩
theorem asgc_t (ok : c.Ok D) {x : Str} {xp pos : Pos} {value : PySem.Expr} {rv : RE} {kf : KF} (hv : tr cs 12 value = rv) (hc : isComp value = false) (h : vcE c rv sl n t fun v sl n t => AsgC c x v n fun n' => kf .next sl n' t) : Tri c sl n t (exec (.Assign [.Name x xp] value pos) c.env) kf := by
  subst hv
  intro hp H
  exact wpAny_Assign_Name ((vc_ok ok 12 value sl n t _ h).seq (fun v sl n t g1 h1 H1 => (AsgC.tri (k := fun _ sl n t => kf .next sl n t) ok g1) h1 H1) H) (swaps_no hc)
/-- names set in order -/
noncomputable def StoreL (c : Cx w cs) : List (Str × Pos) → List Value → Sl → Led → Nat → (Sl → Led → Nat → Prop) → Prop
  | [], _, sl, n, t, k => k sl n t
  | x :: ts, vs, sl, n, t, k => ∃ v r, vs = v :: r ∧ match locIx cs x.1 with
    | some i => StoreL c ts r (setAt i (some v) sl) n (t + 1) k
    | none => AsgC c x.1 v n fun n' => StoreL c ts r sl n' t k
theorem StoreL.tri (ok : c.Ok D) : ∀ (ts : List (Str × Pos)) (vs : List Value) {sl : Sl} {n : Led} {t : Nat} {k : Sl → Led → Nat → Prop}, StoreL c ts vs sl n t k → Tri c sl n t (assignInOrder (ts.map fun p => assign (.Name p.1 p.2) c.env) vs) fun _ => k
  | [], _, _, _, _, _, h => fun hp H => assignInOrder_nil ⟨hp, _, _, _, rfl, H, h⟩
  | x :: ts, vs, sl, n, t, k, h => fun hp H => by
    refine hide _ fun hidP hidH => ?_
    obtain ⟨v, r, rfl, h⟩ := h
    refine hidH ?_
    clear hidH
    refine assignInOrder_cons (assign_Name ?_)
    cases hl : locIx cs x.1 with
    | some i =>
      rw [hl] at h
      refine hide _ fun hidP hidH => ?_
      obtain ⟨b, W, F1, N1⟩ := H
      refine hidH ?_
      clear hidH
      obtain ⟨a1, a2⟩ := locIx_of hl
      obtain ⟨b1, b2, b3⟩ := locIn_of (cn := c.cn) (L := c.L) (a := c.a) (ccd := c.ccd) (cl := c.cl) a1
      exact storeX_L (s := c.sh hp t) F1 N1 (fun h2 F2 N2 => StoreL.tri ok ts r h h2 ⟨b, W, by rw [menuOf_set a2]; exact F2, N2⟩) b3 b1
    | none =>
      rw [hl] at h
      exact (AsgC.tri (k := fun _ sl n t => StoreL c ts r sl n t k) ok h).seq (fun _ sl n t g h1 H1 => StoreL.tri ok ts r g h1 H1) H
noncomputable def UnpackK (c : Cx w cs) (xs : List (Str × Pos)) (kf : KF) (v : Value) (sl : Sl) (n : Led) (t : Nat) : Prop :=
  ∃ a vs, v = .ref a ∧ (a, tupOf vs) ∈ n ∧ xs.length = vs.length ∧ StoreL c xs vs sl n t fun sl n t => kf .next sl n t
theorem storeL_one {v : Value} {vs : List Value} {x : Str × Pos} {ts : List (Str × Pos)} {i : Nat} {k : Sl → Led → Nat → Prop} (hx : locIx cs x.1 = some i) (h : StoreL c ts vs (setAt i (some v) sl) n (t + 1) k) : StoreL c (x :: ts) (v :: vs) sl n t k :=
  ⟨v, vs, rfl, by rw [hx]; exact h⟩
theorem storeL_cell {v : Value} {vs : List Value} {x : Str × Pos} {ts : List (Str × Pos)} {k : Sl → Led → Nat → Prop} (hx : locIx cs x.1 = none) (h : AsgC c x.1 v n fun n' => StoreL c ts vs sl n' t k) : StoreL c (x :: ts) (v :: vs) sl n t k :=
  ⟨v, vs, rfl, by rw [hx]; exact h⟩
theorem unpack_t (ok : c.Ok D) {ts : List PySem.Expr} {xs : List (Str × Pos)} {k} {tp pos : Pos} {value : PySem.Expr} {rv : RE} {kf : KF} (hv : tr cs 12 value = rv) (hx : assignEach ts c.env = xs.map fun p => (false, assign (.Name p.1 p.2) c.env)) (hs : swapsWithSole [.Tuple ts k tp] value pos.line c.env = pure false) (hw : swappedStores [.Tuple ts k tp] value c.env = pure none)
    (h : vcE c rv sl n t (UnpackK c xs kf)) : Tri c sl n t (exec (.Assign [.Tuple ts k tp] value pos) c.env) kf := by
  subst hv
  intro hp H
  refine Assign_Tuple ((vc_ok ok 12 value sl n t _ h).seq (fun v sl n t g1 h1 H1 => ?_) H) hs hw
  refine hide _ fun hidP hidH => ?_
  obtain ⟨a, vs, rfl, hm, hl, hk⟩ := g1
  refine hidH ?_
  clear hidH
  refine hide _ fun hidP hidH => ?_
  obtain ⟨b, W, F, N⟩ := H1
  refine hidH ?_
  clear hidH
  refine unpackN_ (s := c.sh h1 t) (items := vs.toArray) F N ⟨_, (N _ hm).1, rfl, _, rfl⟩ rfl (by rw [hx, List.length_map, hl, List.size_toArray]) (by rw [hx, List.findIdx?_eq_none_iff]; intro x hx; obtain ⟨p, _, rfl⟩ := List.mem_map.mp hx; rfl) fun h' F' N' => ?_
  rw [hx, List.map_map]
  exact (StoreL.tri ok xs vs hk).seq (fun _ sl n t g h2 H2 => ⟨h2, sl, n, t, rfl, H2, g⟩) ⟨b, W, F', N'⟩
end
theorem bind_one {scope : Scope} {x : Str} {v : Value} {sl₀ : Sl} (h : (scope.names.lookup x = some .local ∧ ∃ i z, ixOf x scope.names = some i ∧ sl₀ = setAt i (some v) (List.replicate z none)) ∨ (scope.names.lookup x = some .cell ∧ ∃ z, sl₀ = List.replicate z none)) :
    bindL (fun y => scope.names.lookup y) [(x, v)] (fun _ => none) = menuOf scope.names sl₀ := by
  have e0 : ∀ z, menuOf scope.names (List.replicate z none) = fun _ => none := fun z => by
    funext y; unfold menuOf; cases ixOf y scope.names with
    | none => rfl
    | some i => exact getAt_none z i
  unfold bindL bindL
  rcases h with ⟨h, i, z, hi, rfl⟩ | ⟨h, z, rfl⟩
  · rw [if_pos h, menuOf_set hi, e0]
  · rw [if_neg (by rw [h]; decide), e0]
section
variable {w : World} {D : Nat} {f : Addr} {v : Value} {news : Led} {R : Value → Led → Prop} {name qual : Str} {params : Arguments} {body : List Stmt} {scope : Scope} {dV kV doc pm cdv ct oc : Value} {an od : Option Addr} {osl : Array (Option Value)} {x : Str} {sl₀ : Sl}
theorem CnT.of1 (hf : (K w.params).lookup f = some { cls := oc, dict := od, data := .func (fnOf name qual params body scope dV kV doc pm an cdv ct), slots := osl }) (hc : codeIn (K w.params) cdv qual = true)
    (hb : ∀ s, BindsTo s (fnOf name qual params body scope dV kV doc pm an cdv ct) ⟨[v], []⟩ [(x, v)])
    (hs : (scope.names.lookup x = some .local ∧ ∃ i z, ixOf x scope.names = some i ∧ sl₀ = setAt i (some v) (List.replicate z none)) ∨ (scope.names.lookup x = some .cell ∧ ∃ z, sl₀ = List.replicate z none))
    (c2 : scope.isCoroutine = false) (c3 : scope.isGenerator = false) (c4 : scope.kind = .function) (hnd : ((cellsFrom 0 scope.names []).map (·.1)).Nodup)
    (run : ∀ (c : Cx w scope) (S : Value → Led → Prop) (cells : Led), c.Ok D → c.OkT → c.cn = qual → c.ccd = cdv → c.cl = cellsFrom (c.L + 1) scope.names [] → CellsAre (bindC (fun y => scope.names.lookup y) [(x, v)] fun _ => none) (cellsFrom (c.L + 1) scope.names []) cells → (∀ p ∈ news, p.1 < c.L) → (∀ v n, R v n → S v n) →
      ∀ t, Tri c sl₀ (cells ++ news) t (execs body c.env) (retK S)) : CnT w (D + 1) f [v] news R := by
  intro loose mean mg mb dp un gd cn cs a ccd cl outer A₀ base h₀ L m s Q E B F X' N T XB TB D' hk hdp hun hret hfl
  refine wpAny_call (code_defTC (K := K w.params) B F X' N T XB TB D' rfl rfl hk hf hc (Nat.lt_of_le_of_lt (Nat.le_of_lt_succ (Nat.lt_succ_of_lt (Nat.lt_of_le_of_lt (Nat.le_add_right dp (D + 1)) hdp))) (by decide)) (hb s) (by rcases hs with ⟨h, _⟩ | ⟨h, _⟩ <;> simp [h]) hnd ?_ c2 c3 c4)
  intro g L' h₁ tk cells FG F' N' Y B' X'' T' DG hlt
  have F'' : Fr g L' h₁ (menuOf scope.names sl₀) := bind_one hs ▸ F'
  let c : Cx w scope := { loose, mean, mg, mb, dp := dp + 1, un := un + 3, gd, cn := qual, a := f, ccd := cdv, cl := cellsFrom (L' + 1) scope.names [], outer := envX cn cs L a ccd cl :: outer, A₀ := ktrTop dp un gd cn cs L a ccd cl outer, base, turn := fun b => KtsTurn (frs (envX cn cs L a ccd cl :: outer)) g b ∧ Below (ktrTop dp un gd cn cs L a ccd cl outer) base (envX cn cs L a ccd cl :: outer) b ∧ (K w.params).In b ∧ Top topProg loose mean mg mb b ∧ KtsDicts (frs (envX cn cs L a ccd cl :: outer)) b, L := L', g := s.gens, d := s.drawn, o := s.os, n₀ := news, ke := fun _ => False, E := fun e s' => wpAny (MM w) ((ktrTop dp un gd cn cs L a ccd cl outer).deeper (envOfC qual scope L' f cdv)) (leaving (envOfC qual scope L' f cdv) e) (fun _ s'' => E e s'') (fun e' s'' => E e' s'') s' }
  have ok : c.Ok D := ⟨fun b e => e.2.1, fun b e => e.2.2.1, fun b e => e.2.2.2.1, c4, by show dp + 1 + D < 500; omega, by show un + 3 + 8 * D < 2000; omega, hfl, fun v s' h => (er_no (fun _ h => h) h).elim, by show PassesOwn _ _ _ _; passes_own⟩
  have okT : c.OkT := ⟨XB, TB, fun b e => e.2.2.2.2, fun b b' e T B X T' D => ⟨e.1.trans T, B, X, T', D⟩, rfl, fun _ => PassesOwnAt.leaving⟩
  have key := run c R cells ok okT rfl rfl rfl Y hlt (fun _ _ h => h) tk h₁ ⟨g, ⟨KtsTurn.refl, B', X'', T', DG⟩, F'', N'⟩
  refine wpAny_mono key ?_ fun _ _ e => e
  intro fl s' hz5
  refine hide _ fun hidP hidH => ?_
  obtain ⟨h', sl, n, t, rfl, ⟨b, eb, F'', N''⟩, n', hs', hr⟩ := hz5
  refine hidH ?_
  clear hidH
  cases fl <;> exact leaveT_ F'' (fun p hp => N'' p (hs' p hp)) eb.1 fun h₀' T3 F3 N3 B3 X3 T4 D3 => hret _ _ _ _ _ hr T3 F3 N3 B3 X3 T4 D3
theorem Cn.ofC1 (hf : (K w.params).lookup f = some { cls := oc, dict := od, data := .func (fnOf name qual params body scope dV kV doc pm an cdv ct), slots := osl }) (hc : codeIn (K w.params) cdv qual = true)
    (hb : ∀ s, BindsTo s (fnOf name qual params body scope dV kV doc pm an cdv ct) ⟨[v], []⟩ [(x, v)])
    (hs : (scope.names.lookup x = some .local ∧ ∃ i z, ixOf x scope.names = some i ∧ sl₀ = setAt i (some v) (List.replicate z none)) ∨ (scope.names.lookup x = some .cell ∧ ∃ z, sl₀ = List.replicate z none))
    (c2 : scope.isCoroutine = false) (c3 : scope.isGenerator = false) (c4 : scope.kind = .function) (hnd : ((cellsFrom 0 scope.names []).map (·.1)).Nodup)
    (run : ∀ (c : Cx w scope) (S : Value → Led → Prop) (cells : Led), c.Ok D → c.One → c.cl = cellsFrom (c.L + 1) scope.names [] → CellsAre (bindC (fun y => scope.names.lookup y) [(x, v)] fun _ => none) (cellsFrom (c.L + 1) scope.names []) cells → (∀ p ∈ news, p.1 < c.L) → (∀ v n, R v n → S v n) →
      ∀ t, Tri c sl₀ (cells ++ news) t (execs body c.env) (retK S)) : Cn w (D + 1) f [v] news R (fun _ => False) := by
  intro loose mean mg mb dp un gd cn cs a ccd cl outer A₀ base h₀ L m s Q E B F X' N T hk hdp hun hret herr hfl
  refine wpAny_call (code_defC (K := K w.params) B F X' N T rfl rfl hk hf hc (Nat.lt_of_le_of_lt (Nat.le_of_lt_succ (Nat.lt_succ_of_lt (Nat.lt_of_le_of_lt (Nat.le_add_right dp (D + 1)) hdp))) (by decide)) (hb s) (by rcases hs with ⟨h, _⟩ | ⟨h, _⟩ <;> simp [h]) hnd ?_ c2 c3 c4)
  intro g L' h₁ tk cells FG F' N' Y B' X'' T' hlt
  have F'' : Fr g L' h₁ (menuOf scope.names sl₀) := bind_one hs ▸ F'
  let c : Cx w scope := { loose, mean, mg, mb, dp := dp + 1, un := un + 3, gd, cn := qual, a := f, ccd := cdv, cl := cellsFrom (L' + 1) scope.names [], outer := envX cn cs L a ccd cl :: outer, A₀ := ktrTop dp un gd cn cs L a ccd cl outer, base, turn := fun b => b = g, L := L', g := s.gens, d := s.drawn, o := s.os, n₀ := news, ke := fun _ => False, E := fun e s' => wpAny (MM w) ((ktrTop dp un gd cn cs L a ccd cl outer).deeper (envOfC qual scope L' f cdv)) (leaving (envOfC qual scope L' f cdv) e) (fun _ s'' => E e s'') (fun e' s'' => E e' s'') s' }
  have ok : c.Ok D := ⟨fun b e => e ▸ B', fun b e => e ▸ X'', fun b e => e ▸ T', c4, by show dp + 1 + D < 500; omega, by show un + 3 + 8 * D < 2000; omega, hfl, fun v s' h => (er_no (fun _ h => h) h).elim, by show PassesOwn _ _ _ _; passes_own⟩
  have key := run c R cells ok (fun _ _ e e' => e.trans e'.symm) rfl Y hlt (fun _ _ h => h) tk h₁ ⟨g, rfl, F'', N'⟩
  refine wpAny_mono key ?_ fun _ _ e => e
  intro fl s' hz6
  refine hide _ fun hidP hidH => ?_
  obtain ⟨h', sl, n, t, rfl, ⟨b, eb, F'', N''⟩, n', hs', hr⟩ := hz6
  refine hidH ?_
  clear hidH
  obtain rfl : b = g := eb
  cases fl <;> exact leaveK_ F'' (fun p hp => N'' p (hs' p hp)) fun F3 N3 => hret _ _ _ _ hr F3 N3
end
noncomputable def At2 {κ : Type} (R : Led → Value → κ → Prop) (news : Led) (vs : List Value) (ks : List κ) : Prop := vs.length = ks.length ∧ ∀ (i : Nat) (v : Value) (c : κ), vs[i]? = some v → ks[i]? = some c → R news v c
noncomputable def Mono {κ : Type} (R : Led → Value → κ → Prop) : Prop := ∀ (n n' : Led) (v : Value) (c : κ), R n v c → (∀ p ∈ n, p ∈ n') → R n' v c
theorem At2.mono {κ : Type} {R : Led → Value → κ → Prop} (mR : Mono R) {news news' : Led} {vs : List Value} {ks : List κ} (h : At2 R news vs ks) (hs : ∀ p ∈ news, p ∈ news') : At2 R news' vs ks :=
  ⟨h.1, fun i v c a b => mR _ _ _ _ (h.2 i v c a b) hs⟩
theorem At2.nil {κ : Type} {R : Led → Value → κ → Prop} {news : Led} : At2 R news [] [] := ⟨rfl, fun i v c a => by simp at a⟩
theorem At2.snoc {κ : Type} {R : Led → Value → κ → Prop} {news : Led} {vs : List Value} {ks : List κ} {v : Value} {c : κ} (h : At2 R news vs ks) (hc : R news v c) : At2 R news (vs ++ [v]) (ks ++ [c]) := by
  refine ⟨by have := h.1; simp [this], fun i v' c' a b => ?_⟩
  have hlen : vs.length = ks.length := h.1
  by_cases hi : i < vs.length
  · rw [List.getElem?_append_left hi] at a
    rw [List.getElem?_append_left (hlen ▸ hi)] at b
    exact h.2 i v' c' a b
  · have hi' : i = vs.length := by
      have := (List.getElem?_eq_some_iff.mp a).1
      simp at this; omega
    subst hi'
    rw [List.getElem?_append_right (Nat.le_refl _)] at a
    rw [List.getElem?_append_right (by omega)] at b
    simp [hlen] at a b
    subst a; subst b; exact hc
theorem At2.get {κ : Type} {R : Led → Value → κ → Prop} {news : Led} {vs : List Value} {ks : List κ} (h : At2 R news vs ks) {i : Nat} {v : Value} (e : vs[i]? = some v) : ∃ c, ks[i]? = some c ∧ R news v c := by
  have hi : i < vs.length := (List.getElem?_eq_some_iff.mp e).1
  have hc : ks[i]? = some (ks[i]'(h.1 ▸ hi)) := List.getElem?_eq_getElem _
  exact ⟨_, hc, h.2 i v _ e hc⟩
section
variable {w : World} {cs : Scope} {c : Cx w cs} {D : Nat} {sl : Sl} {n : Led} {t : Nat}
/-- the same frame where nothing may be raised -/
noncomputable abbrev Cx.calm (c : Cx w cs) : Cx w cs := { c with E := fun _ _ => False, ke := fun _ => False }
theorem Cx.Ok.calm (ok : c.Ok D) : c.calm.Ok D :=
  ⟨ok.B, ok.X, ok.T, ok.hk, ok.hd, ok.hu, ok.fl, fun _ _ h => er_no (fun _ h => h) h, PassesOwn.never⟩
noncomputable abbrev CompVar (oC : Obj) (x : Str) (v : Value) : Prop := ∃ m, LCg.NsObj oC m ∧ m x = some v
theorem cname_t {scope : Scope} {cl : List (Str × Addr)} {C : Addr} {oC : Obj} {x : Str} {pos : Pos} {v : Value} {k : KV} (hm : (C, oC) ∈ n) (hv : CompVar oC x v) (hk : (compEnvC scope cl C c.env).scope.kind = .function) (hx : (compEnvC scope cl C c.env).kindOf x = some .local) (hd : (x == ("__debug__" : Str)) = false) (h : k v sl n t) :
    Tri c sl n t (eval (.Name x pos) (compEnvC scope cl C c.env)) k := by
  obtain ⟨m, hC, hx'⟩ := hv
  exact fun hp ⟨b, W, F, N⟩ => LCgL.ld_own (s := c.sh hp t) N hm hC hx' ⟨hp, sl, n, t, rfl, ⟨b, W, F, N⟩, h⟩ hk hx hd
/-- what a turn of a comprehension leaves -/
noncomputable def CompTurn (sl : Sl) (I C Dl : Addr) (oI oC oD : Obj) (J : Value → Led → Prop) (y : Value) (sl' : Sl) (n' : Led) (t' : Nat) : Prop :=
  sl' = sl ∧ ∃ n'', (∀ p ∈ (I, oI) :: (C, oC) :: (Dl, oD) :: n'', p ∈ n') ∧ LCg.Off3 I C Dl n'' ∧ J y n''
theorem comp_run (one : c.One) {b : Heap} (W : c.turn b) {I C Dl : Addr} {oI oC oD : Obj} {J : Value → Led → Prop} {S : Led → Prop} {h : Heap} {x : Sem Value} {E' : Value → Shared → Prop} (hS : ∀ y n', J y n' → S n')
    (T : Tri c.calm sl n t x (CompTurn sl I C Dl oI oC oD J)) (F : Fr b c.L h (menuOf cs.names sl)) (N : News b c.L h n) :
    wpAny (MM w) c.A x (LCg.CompEnd b c.L (menuOf cs.names sl) (c.sh h t) I oI C oC Dl oD S J) E' (c.sh h t) := by
  refine wpAny_mono (T h ⟨b, W, F, N⟩) ?_ fun _ _ e => e.elim
  intro v s hz1
  refine hide _ fun hidP hidH => ?_
  obtain ⟨h', sl', n', t', rfl, ⟨b', W', F', N'⟩, rfl, n'', hs, ho, hj⟩ := hz1
  refine hidH ?_
  clear hidH
  obtain rfl := one b b' W W'
  exact LCg.CompEnd.intro F' N' n'' hs ho (hS _ _ hj) hj
theorem comp_list_t (one : c.One) {elt : PySem.Expr} {x : Str} {scope : Scope} {cl : List (Str × Addr)} {l : Addr} {vs : List Value} {nn : Nat} {k : KV} (J : Nat → List Value → Led → Prop) (hm : (l, listOf vs.toArray nn) ∈ n) (hz : vs.length < 1000) (hJ : ∀ i ys n, J i ys n → (l, listOf vs.toArray nn) ∈ n) (h0 : J 0 [] n)
    (turn : ∀ i v I oI C oC Dl ys n t, vs[i]? = some v → J i ys n → CompVar oC x v → LCg.Off3 I C Dl n → ((@Ne Nat I C) ∧ (@Ne Nat I Dl) ∧ (@Ne Nat C Dl)) →
      Tri c.calm sl ((I, oI) :: (C, oC) :: (Dl, LCg.lst ys) :: n) t (eval elt (compEnvC scope cl C c.env)) (CompTurn sl I C Dl oI oC (LCg.lst ys) fun y n' => J (i + 1) (ys ++ [y]) n'))
    (fin : ∀ ys n Dl t, J vs.length ys n → LCg.Off1 Dl n → k (.ref Dl) sl ((Dl, LCg.lst ys) :: n) t) : CompT c elt x scope cl sl k (.ref l) sl n t := by
  refine ⟨rfl, fun b hp W F N => LCg.CompSrc.ledger (s₁ := c.sh hp t) rfl F N hm (by rw [PySem.sizeLine_eq, List.size_toArray]; omega) fun g => comp_inv J h0 ?_ ?_⟩
  · intro i v I oI C oC Dl m₂ ys n₁ h tk E' hi hj hv hC hx F' N' off ne
    exact comp_run one W (fun y n' q => .inr ⟨_, hJ _ _ _ q, rfl, _, rfl⟩) (turn i v I oI C oC Dl ys n₁ tk (by simpa using hv) hj ⟨m₂, hC, hx⟩ off ne) F' N'
  · intro ys n₁ hj
    unfold LCg.FinE
    intro Dl h' tk F' N' o1
    rw [List.size_toArray] at hj
    exact ⟨h', sl, _, tk, rfl, ⟨b, W, F', N'⟩, fin ys n₁ Dl tk hj o1⟩
/-- a comprehension's source, in any frame, with any end -/
noncomputable def CompG (c : Cx w cs) (e : Env) (elt : PySem.Expr) (x : Str) (scope : Scope) (cl : List (Str × Addr)) (sl₀ : Sl) (Fn : Heap → Shared → List Value → Led → Prop) (v : Value) (sl : Sl) (n : Led) (t : Nat) : Prop :=
  sl = sl₀ ∧ ∀ b h, c.turn b → Fr b c.L h (menuOf cs.names sl₀) → News b c.L h n → LCg.CompSrc PySem.Challenge.rw_pf0239_01.prog w c.A b c.L (menuOf cs.names sl₀) e elt x scope cl (Fn b) v (c.sh h t)
theorem comp_range_g (one : c.One) {e : Env} {elt : PySem.Expr} {x : Str} {scope : Scope} {cl : List (Str × Addr)} {Fn : Heap → Shared → List Value → Led → Prop} {r : Addr} {a : Int} {t1 u1 v1 : Tok} {N : Nat} (J : Nat → List Value → Led → Prop) (hr : (r, rangeObj a t1 u1 v1) ∈ n) (ha : a = (N : Int)) (hN : N < 100000) (h0 : J 0 [] n)
    (turn : ∀ i tv I oI C oC Dl ys n t, i < N → J i ys n → CompVar oC x (.int (0 + (i : Int)) tv) → LCg.Off3 I C Dl n → ((@Ne Nat I C) ∧ (@Ne Nat I Dl) ∧ (@Ne Nat C Dl)) →
      Tri c.calm sl ((I, oI) :: (C, oC) :: (Dl, LCg.lst ys) :: n) t (eval elt (compEnvC scope cl C e)) (CompTurn sl I C Dl oI oC (LCg.lst ys) fun y n' => J (i + 1) (ys ++ [y]) n'))
    (fin : ∀ b g t ys n, c.turn b → J N ys n → Fn b (c.sh g t) ys n) : CompG c e elt x scope cl sl Fn (.ref r) sl n t := by
  subst ha
  refine ⟨rfl, fun b hp W F N' => LCg.CompSrc.range (s₁ := c.sh hp t) rfl F N' (N' _ hr).1 (small_one (by omega) (by omega) (by omega) (by omega)) (range0_size _) (by rw [PySem.sizeLine_eq]; omega) fun g => comp_inv J h0 ?_ fun ys n₁ hj => fin b g t ys n₁ W hj⟩
  intro i v I oI C oC Dl m₂ ys n₁ h tk E' hi hj hv hC hx F' N' off ne
  obtain ⟨tv, rfl⟩ := hv
  exact comp_run one W (fun y n' q => trivial) (turn i tv I oI C oC Dl ys n₁ tk hi hj ⟨m₂, hC, hx⟩ off ne) F' N'
theorem finE {b g : Heap} {ys : List Value} {k : KV} (W : c.turn b) (h : ∀ Dl t, LCg.Off1 Dl n → k (.ref Dl) sl ((Dl, LCg.lst ys) :: n) t) : LCg.FinE b c.L (menuOf cs.names sl) (c.sh g t) (Post c k) ys n :=
  fun Dl h' tk F' N' o1 => ⟨h', sl, _, tk, rfl, ⟨b, W, F', N'⟩, h Dl tk o1⟩
theorem finA {b g : Heap} {y : Str} {i : Nat} {ys : List Value} {kf : KF} (hy : ixOf y cs.names = some i) (W : c.turn b) (h : ∀ Dl t, LCg.Off1 Dl n → kf .next (setAt i (some (.ref Dl)) sl) ((Dl, LCg.lst ys) :: n) t) : LCg.FinA b c.L (menuOf cs.names sl) (c.sh g t) y (Post c kf) ys n :=
  fun Dl h' tk F' N' o1 => ⟨h', setAt i (some (.ref Dl)) sl, _, tk, rfl, ⟨b, W, by rw [menuOf_set hy]; exact F', N'⟩, h Dl tk o1⟩
/-- a name set to a comprehension -/
theorem asgComp_t (ok : c.Ok D) (one : c.One) {elt iter : PySem.Expr} {x y : Str} {px py : Pos} {scope : Scope} {cl : List (Str × Addr)} {pos spos : Pos} {re : RE} {i : Nat} {kf : KF} (hy : locIx cs y = some i)
    (hsw : swapsWith (.ListComp elt [⟨.Name x px, iter, [], 0⟩] scope pos) (some (.Name y py)) spos.line c.env = pure true) (hcl : closureFor scope c.env = pure cl) (hnc : ∀ y ∈ scope.names, y.2 ≠ .cell) (hk : scope.kind = .function)
    (hl : ∀ y ∈ scope.names, y.2 = .local → scope.names.lookup y.1 = some .local) (hx : scope.names.lookup x = some .local) (hs : ∀ v, foldedSetIterable iter c.env v = pure v) (hi : tr cs 12 iter = re)
    (h : vcE c re sl n t (CompG c c.env elt x scope cl sl fun b s₂ => LCg.FinA b c.L (menuOf cs.names sl) s₂ y (Post c kf))) :
    Tri c sl n t (exec (.Assign [.Name y py] (.ListComp elt [⟨.Name x px, iter, [], 0⟩] scope pos) spos) c.env) kf := by
  subst hi
  intro hp hz2
  refine hide _ fun hidP hidH => ?_
  obtain ⟨b, W, F, N⟩ := hz2
  refine hidH ?_
  clear hidH
  obtain ⟨a1, a2⟩ := locIx_of hy
  obtain ⟨b1, b2, b3⟩ := locIn_of (cn := c.cn) (L := c.L) (a := c.a) (ccd := c.ccd) (cl := c.cl) a1
  refine LCg.Assign_ListComp_U (s := c.sh hp t) F rfl hsw hcl hnc hk hl hx b1 ?_ ((vc_ok ok 12 iter sl n t _ h).seq ?_ ⟨b, W, F, N⟩) hs
  · show (cs.kind == .class || (cs.kind == .module && _)) = false
    rw [ok.hk]; rfl
  · intro v sl' n' t' hz3 h' hz4
    refine hide _ fun hidP hidH => ?_
    obtain ⟨rfl, h1⟩ := hz3
    obtain ⟨b', W', F', N'⟩ := hz4
    refine hidH ?_
    clear hidH
    obtain rfl := one b b' W W'
    exact h1 b h' W F' N'
/-- a comprehension in a comprehension -/
theorem comp_in_t (one : c.One) {e : Env} {elt iter : PySem.Expr} {x : Str} {px : Pos} {scope : Scope} {cl : List (Str × Addr)} {pos : Pos} {k : KV} (hcl : closureFor scope e = pure cl) (hnc : ∀ y ∈ scope.names, y.2 ≠ .cell) (hk : scope.kind = .function)
    (hl : ∀ y ∈ scope.names, y.2 = .local → scope.names.lookup y.1 = some .local) (hx : scope.names.lookup x = some .local) (hs : ∀ v, foldedSetIterable iter e v = pure v)
    (h : Tri c sl n t (eval iter e) (CompG c e elt x scope cl sl fun b s₂ => LCg.FinE b c.L (menuOf cs.names sl) s₂ (Post c k))) :
    Tri c sl n t (eval (.ListComp elt [⟨.Name x px, iter, [], 0⟩] scope pos) e) k := by
  intro hp hz5
  refine hide _ fun hidP hidH => ?_
  obtain ⟨b, W, F, N⟩ := hz5
  refine hidH ?_
  clear hidH
  refine LCg.ListComp_U (s := c.sh hp t) F hcl hnc hk hl hx (h.seq ?_ ⟨b, W, F, N⟩) hs
  intro v sl' n' t' hz6 h' hz7
  refine hide _ fun hidP hidH => ?_
  obtain ⟨rfl, h1⟩ := hz6
  obtain ⟨b', W', F', N'⟩ := hz7
  refine hidH ?_
  clear hidH
  obtain rfl := one b b' W W'
  exact h1 b h' W F' N'
/-- a comprehension over a list whose turns put things into the ledger -/
theorem comp_grow_t (one : c.One) {κ : Type} {R O : Led → Value → κ → Prop} {ks : List κ} {elt : PySem.Expr} {x : Str} {scope : Scope} {cl : List (Str × Addr)} {l : Addr} {vs : List Value} {nn : Nat} {k : KV} (hc : At2 R n vs ks) (mR : Mono R) (mO : Mono O) (hm : (l, listOf vs.toArray nn) ∈ n) (hz : vs.length < 1000)
    (turn : ∀ q v I oI C oC Dl ys n' t, q ∈ ks → R n' v q → (∀ p ∈ n, p ∈ n') → CompVar oC x v → LCg.Off3 I C Dl n' → ((@Ne Nat I C) ∧ (@Ne Nat I Dl) ∧ (@Ne Nat C Dl)) →
      Tri c.calm sl ((I, oI) :: (C, oC) :: (Dl, LCg.lst ys) :: n') t (eval elt (compEnvC scope cl C c.env)) (CompTurn sl I C Dl oI oC (LCg.lst ys) fun y n'' => O n'' y q ∧ ∀ p ∈ n', p ∈ n''))
    (fin : ∀ ys n' Dl t, At2 O n' ys ks → (∀ p ∈ n, p ∈ n') → LCg.Off1 Dl n' → k (.ref Dl) sl ((Dl, LCg.lst ys) :: n') t) : CompT c elt x scope cl sl k (.ref l) sl n t := by
  have hlen : vs.length = ks.length := hc.1
  refine comp_list_t one (fun i ys n' => At2 O n' ys (ks.take i) ∧ ∀ p ∈ n, p ∈ n') hm hz (fun _ _ _ q => q.2 _ hm) ⟨by simpa using At2.nil, fun _ h => h⟩ ?_ ?_
  · rintro i v I oI C oC Dl ys n' t hv ⟨hy, hs⟩ hV off ne
    obtain ⟨q, hk, hR⟩ := hc.get hv
    refine (turn q v I oI C oC Dl ys n' t (List.mem_of_getElem? hk) (mR _ _ _ _ hR hs) hs hV off ne).mono ?_
    intro y sl' n2 t' hz8
    refine hide _ fun hidP hidH => ?_
    obtain ⟨e, n'', h1, h2, hO, hs'⟩ := hz8
    refine hidH ?_
    clear hidH
    have e2 : ks.take (i + 1) = ks.take i ++ [q] := by rw [List.take_add_one, hk]; rfl
    exact ⟨e, n'', h1, h2, e2 ▸ (hy.mono mO hs').snoc hO, fun p hp => hs' p (hs p hp)⟩
  · rintro ys n' Dl t ⟨hy, hs⟩ o1
    rw [hlen, List.take_length] at hy
    exact fin ys n' Dl t hy hs o1
end
theorem CompsAt.at2 {n : Led} {vs : List Value} {ks : List (Int × Int × Int × Int)} (h : CompsAt n vs ks) : At2 CompAt n vs ks := h
theorem RowsAt.of2 {n : Led} {vs : List Value} {ks : List (Int × Int × Int × Int)} (h : At2 RowAt n vs ks) : RowsAt n vs ks := h
theorem off3_new {I C Dl X : Addr} {o oI oC oD : Obj} {n : Led} (h : LCg.Off3 I C Dl n) (hX : ∀ p ∈ (I, oI) :: (C, oC) :: (Dl, oD) :: n, p.1 < X) : LCg.Off3 I C Dl ((X, o) :: n) :=
  ⟨⟨Nat.ne_of_gt (hX _ (.head _)), Nat.ne_of_gt (hX _ (.tail _ (.head _))), Nat.ne_of_gt (hX _ (.tail _ (.tail _ (.head _))))⟩, h⟩
section
variable {w : World} {cs : Scope} {c : Cx w cs} {D : Nat} {sl : Sl} {n : Led} {t : Nat}
/-- one thing put by a turn -/
theorem turn_put {I C Dl X : Addr} {oI oC oD o : Obj} {J : Value → Led → Prop} {y : Value} (off : LCg.Off3 I C Dl n) (hX : ∀ p ∈ (I, oI) :: (C, oC) :: (Dl, oD) :: n, p.1 < X) (hJ : J y ((X, o) :: n)) :
    CompTurn sl I C Dl oI oC oD J y sl ((X, o) :: (I, oI) :: (C, oC) :: (Dl, oD) :: n) t :=
  ⟨rfl, (X, o) :: n, sub_cons (.tail _ (.head _)) (sub_cons (.tail _ (.tail _ (.head _))) (sub_cons (.tail _ (.tail _ (.tail _ (.head _)))) (sub_cons (.head _) fun p hp => .tail _ (.tail _ (.tail _ (.tail _ hp)))))), off3_new off hX, hJ⟩
theorem cattr_t (ok : c.Ok D) {scope : Scope} {cl : List (Str × Addr)} {C : Addr} {oC : Obj} {y name : Str} {yp pos : Pos} {x : Addr} {v : Value} {k : KV} (hm : (C, oC) ∈ n) (hv : CompVar oC y (.ref x)) (hk : (compEnvC scope cl C c.env).scope.kind = .function) (hx : (compEnvC scope cl C c.env).kindOf y = some .local) (hd : (y == ("__debug__" : Str)) = false)
    (ha : AttrAt w n x name v) (h : k v sl n (t + 1)) : Tri c sl n t (eval (.Attribute (.Name y yp) name pos) (compEnvC scope cl C c.env)) k := by
  intro hp H
  refine hide _ fun hidP hidH => ?_
  obtain ⟨Cc, dx, es, m, slots, ho, hr, hl, hh⟩ := ha
  refine hidH ?_
  clear hidH
  unfold readOk at hr
  rw [Bool.and_eq_true, Bool.and_eq_true] at hr
  obtain ⟨o1, o2, o3⟩ := hr
  split at o3
  · rename_i at_ e3
    refine Attribute_Name_ ((cname_t (pos := yp) hm hv hk hx hd (k := fun v' sl' n' t' => v' = .ref x ∧ sl' = sl ∧ n' = n ∧ t' = t) ⟨rfl, rfl, rfl, rfl⟩).seq ?_ H)
    intro v' sl' n' t' hz1 h' H'
    refine hide _ fun hidP hidH => ?_
    obtain ⟨rfl, rfl, rfl, rfl⟩ := hz1
    refine hidH ?_
    clear hidH
    refine hide _ fun hidP hidH => ?_
    obtain ⟨b, W, F', N'⟩ := id H'
    refine hidH ?_
    clear hidH
    exact get_own (s := c.sh h' t') F' (ok.X b W) (InstAt.of_news N' ho.o ho.d) o1 o2 e3 o3 hl hh ⟨h', sl', n', t' + 1, rfl, H', h⟩
  · cases o3
theorem rowof_turn (ok : c.Ok D) {scope : Scope} {cl : List (Str × Addr)} {y : Str} {p1 p2 p3 p4 q1 q2 q3 q4 pos : Pos} {m : Nat} {q : Int × Int × Int × Int} {v : Value} {I C Dl : Addr} {oI oC oD : Obj} (hc : CompAt n v q) (hv : CompVar oC y v) (off : LCg.Off3 I C Dl n)
    (hk : (compEnvC scope cl C c.env).scope.kind = .function) (hx : (compEnvC scope cl C c.env).kindOf y = some .local) (hd : (y == ("__debug__" : Str)) = false) :
    Tri c sl ((I, oI) :: (C, oC) :: (Dl, oD) :: n) t (eval (.Tuple [.Attribute (.Name y p1) (Str.ofString "ident") q1, .Attribute (.Name y p2) (Str.ofString "across") q2, .Attribute (.Name y p3) (Str.ofString "down") q3, .Attribute (.Name y p4) (Str.ofString "quant") q4] m pos) (compEnvC scope cl C c.env))
      (CompTurn sl I C Dl oI oC oD fun y n'' => RowAt n'' y q ∧ ∀ p ∈ n, p ∈ n'') := by
  refine hide _ fun hidP hidH => ?_
  obtain ⟨x, dx, g1, g2, g3, g4, u1, u2, u3, u4, u5, u6, u7, u8, m, rfl, hx', hdx⟩ := hc
  refine hidH ?_
  clear hidH
  have hC : (C, oC) ∈ (I, oI) :: (C, oC) :: (Dl, oD) :: n := .tail _ (.head _)
  have ho : (x, instObj 150 dx) ∈ (I, oI) :: (C, oC) :: (Dl, oD) :: n := .tail _ (.tail _ (.tail _ hx'))
  have hd' := List.Mem.tail (I, oI) (.tail (C, oC) (.tail (Dl, oD) hdx))
  refine Tri.tup_ (Tri.args_cons rfl (cattr_t ok (v := .int q.1 u5) hC hv hk hx hd (attr_at ho hd' (by kernel_rfl) (by kernel_rfl) rfl) ?_))
  refine Tri.args_cons rfl (cattr_t ok (v := .int q.2.1 u6) hC hv hk hx hd (attr_at ho hd' (by kernel_rfl) (by kernel_rfl) rfl) ?_)
  refine Tri.args_cons rfl (cattr_t ok (v := .int q.2.2.1 u7) hC hv hk hx hd (attr_at ho hd' (by kernel_rfl) (by kernel_rfl) rfl) ?_)
  refine Tri.args_cons rfl (cattr_t ok (v := .int q.2.2.2 u8) hC hv hk hx hd (attr_at ho hd' (by kernel_rfl) (by kernel_rfl) rfl) ?_)
  refine fun h H => PyProof.Rows.args_nil ⟨h, sl, _, _, rfl, H, Nat.le_of_ble_eq_true rfl, fun X hX => ?_⟩
  exact turn_put off hX ⟨⟨X, _, _, _, _, rfl, .head _⟩, fun p hp => .tail _ hp⟩
end
theorem row_of_c (w : World) (x d l : Addr) (h1 h2 h3 h4 h5 : Int) (t1 t2 t3 t4 t5 tc tp th tw : Tok) (c p hh ww : Int) (n nn : Nat) (vs : List Value) (ks : List (Int × Int × Int × Int)) (news : Led) (H : FrameAt5 news x d l h1 h2 h3 h4 h5 t1 t2 t3 t4 t5 tc tp th tw c p hh ww n)
    (hl : (l, listOf vs.toArray nn) ∈ news) (hcs : CompsAt news vs ks) (hn : ks.length < 1000) :
    Cn w 4 372 [.ref x] news (fun v n' => FrameRow n' v c p hh ww ks ∧ ∀ p ∈ news, p ∈ n') (fun _ => False) := by
  have hfill := fill_ w
  revert hfill
  k_fill
  intro _
  refine' Cn.of (binds := [(Str.ofString "head", .ref x)]) (sl₀ := [some (.ref x)]) (z := 0) ?hf ?hc ?hb ?hl ?c2 ?c3 ?c4 ?c5 ?hs ?_
  walk_at "v_enter"
  intro cx S ok one hn' he hr t
  refine vc_go (f := 40) (rs := rs__law_row_of) ok (by kernel_rfl) (by kernel_rfl) ?_
  refine attrK (fa_code H) (attrK (fa_precision H) (attrK (fa_height H) (attrK (fa_width H) ?_)))
  refine comp_t ok one (re := .attr 0 (Str.ofString "components")) (by with_unfolding_all rfl) (by decide) rfl (by decide) rfl (fun _ => rfl) (by kernel_rfl) ?_
  refine attrK (fa_components H) ?_
  refine comp_grow_t one (O := RowAt) hcs.at2 (fun _ _ _ _ a b => a.mono b) (fun _ _ _ _ a b => a.mono b) hl (by rw [hcs.1]; exact hn) ?_ ?_
  · intro q v I oI C oC Dl ys n' t _ hR _ hv off _
    exact rowof_turn ok.calm hR hv off rfl rfl (by decide)
  · intro ys n' Dl t hR hs o1
    refine ⟨Nat.le_of_ble_eq_true rfl, fun X hX => ?_⟩
    exact ⟨_, sub_id, hr _ _ ⟨⟨X, Dl, _, _, _, _, _, _, rfl, .head _, .tail _ (.head _), (RowsAt.of2 hR).mono fun p hp => .tail _ (.tail _ hp)⟩, fun p hp => .tail _ (.tail _ (hs p hp))⟩⟩
namespace GG
theorem entry_dict_update_loop : entryFor table "dict.update.loop" = some Builtin.«dict.update.loop» := entryFor_of_tree (by kernel_rfl)
theorem plain_dict_update_loop : plainId "dict.update.loop" = true := by decide +kernel
theorem list_keys_none : typeLookup (.type "list") "keys" = pure none := am_miss_of_fast (by decide +kernel)
end GG
section
variable {prog : Program} {w : World} {A : Around} {E : Value → Shared → Prop} {s : Shared}
theorem getAttrQ_miss_list {a : Addr} {o : Obj} {xs : Array Value} {k : Nat} {name : Str} {Q : Option Value → Shared → Prop}
    (hx : s.heap.get? a = some o) (hc : o.cls = .type "list") (hdat : o.data = .seq xs k) (hd : o.dict = none) (hmiss : typeLookup (.type "list") name = pure none) (hname : (["__module__", "__name__", "__qualname__", "__doc__", "__annotations__"] : List Str).contains name = false) (hA : A.handled = none)
    (h : ∀ h' tk, (∀ b o, s.heap.get? b = some o → h'.get? b = some o) → Q none { s with heap := h', toks := tk }) (hsz : name.length + 100 ≤ sizeLine := by size_fits) :
    wpAny (model prog w) A (getAttr? (.ref a) name) Q E s := by
  refine hide _ fun hidP hidH => ?_
  obtain ⟨c, dct, dat, sl⟩ := o
  refine hidH ?_
  clear hidH
  simp only at hc hdat hd
  subst hc hdat hd
  refine hide _ fun hidP hidH => ?_
  obtain ⟨hp, g, d, tk, os⟩ := s
  refine hidH ?_
  clear hidH
  have hT : ∀ tk', (⟨hp, g, d, tk', os⟩ : Shared).TypeIs (.ref a) "list" := fun _ => ⟨_, hx, rfl⟩
  have f1 := sub_AttributeError
  have f3 := F.slot_list_getattribute.lookup
  have f4 := F.slot_list_getattribute.bind (.ref a)
  have f5 := am_list_getattr_none
  unfold getAttr? getAttrBy? getAttrBy
  repeat (any_goals (first | assumption | exact hT _ | ((with_reducible show wpAny _ _ (call (Value.builtin "list.__getattribute__") _ _) _ _ _); refine call_meets F.slot_list_getattribute (hT _) am_entry_list_getattribute (F.args_list_getattribute_2 _ _) (meets_getattribute_miss_list a xs k sl name _ hmiss hname hsz) ⟨hx, hA, fun h' tk' e hx' => ?_⟩) | wp_step))
  obtain ⟨t', u', he⟩ := hx'.there
  show wpAny _ _ (getattributeRaised _ _ _ _ _ _ _) _ _ _
  unfold getattributeRaised
  repeat (any_goals (first | assumption | wp_step))
  exact h _ _ hx'.keeps
end
noncomputable abbrev pairO (k : Int) (t : Tok) (x : Value) : Obj := { cls := .type "tuple", data := .seq [Value.int k t, x].toArray }
section
variable {prog : Program} {w : World} {A : Around} {R : Result → Shared → Prop} {I : Addr} {fp wr : List Addr} {G : Array GenState → Array GenState → Prop} {n : Nat} {P : Nat → Value → Prop} {St : Nat → Shared → Prop}
theorem codeAny_dict_update_loop (W : WalksS prog w A.in1 I fp wr G n P St) (d : Addr) (hdf : d ∉ fp) (pairs : List (Int × Value)) (hpn : pairs.length = n) (hb : n ≤ sizeLine) :
    ∀ (k i : Nat) (iv : Int) (it : Tok) (s : Shared), n - i = k → i ≤ n → St i s →
      (∀ i v, P i v → ∃ r k t x, v = .ref r ∧ r ∉ d :: wr ∧ pairs[i]? = some (k, x) ∧ s.heap.get? r = some (pairO k t x)) →
      s.heap.DictOf (intKind prog w) d (merged [] (pairs.take i)) →
      (∀ s', Moved (d :: wr) G s s' → s'.heap.DictOf (intKind prog w) d (merged [] pairs) → R (.ok (.ret .none)) s') →
      codeAny (model prog w) A (.builtin "dict.update.loop" ⟨[.ref d, .ref I, .int iv it, .none], []⟩) R s := by
  have hSw : d ∉ wr := fun h => hdf (W.sub _ h)
  have hsub : ∀ b ∈ wr, b ∈ d :: wr := fun b hb => List.mem_cons_of_mem _ hb
  have hdict : ∀ {h h' : Heap} {kvs : List (Int × Value)}, h.DictOf (intKind prog w) d kvs → (∀ o, h.get? d = some o → h'.get? d = some o) → h'.DictOf (intKind prog w) d kvs := by
    intro h h' kvs hz1 hk
    refine hide _ fun hidP hidH => ?_
    obtain ⟨o, es, ep, ho, r⟩ := hz1
    refine hidH ?_
    clear hidH
    exact ⟨o, es, ep, hk _ ho, r⟩
  intro k
  induction k with
  | zero =>
    intro i iv it s hk hi hst hT hS hR
    have hin : i = n := by omega
    subst hin
    refine codeAny_builtin GG.entry_dict_update_loop ?_
    rw [Around.under_plainId GG.plain_dict_update_loop _]
    show wpAny _ A.in1 (pyNext (.ref I) >>= _) _ _ s
    refine wpAny_bind (W.done s _ _ hst fun s' hm => ?_)
    show wpAny _ A.in1 (Builtin.Dict.addKeywords d [] >>= _) _ _ s'
    refine wpAny_bind (wpAny_pure (wpAny_pure (hR s' (hm.mono hsub) ?_)))
    rw [← hpn, List.take_length] at hS
    exact hdict hS fun o e => hm.heap d _ hSw e
  | succ k ih =>
    intro i iv it s hk hi hst hT hS hR
    have hlt : i < n := by omega
    refine codeAny_builtin GG.entry_dict_update_loop ?_
    rw [Around.under_plainId GG.plain_dict_update_loop _]
    show wpAny _ A.in1 (pyNext (.ref I) >>= _) _ _ s
    refine wpAny_bind (W.item i s _ _ hlt hst fun v s' hP hst' hm => ?_)
    refine hide _ fun hidP hidH => ?_
    obtain ⟨r, kk, t, x, rfl, hr, hpi, hro⟩ := hT i v hP
    refine hidH ?_
    clear hidH
    have hr' : s'.heap.get? r = some (pairO kk t x) := hm.heap r _ (fun h => hr (hsub _ h)) hro
    have hT' : s'.TypeIs (.ref r) "tuple" := ⟨_, hr', rfl⟩
    have hS' := hdict hS fun o e => hm.heap d _ hSw e
    show wpAny _ A.in1 (holding [Value.ref r] _ >>= _) _ _ s'
    refine wpAny_bind (wpAny_holding ?_)
    refine wpAny_bind (wpAny_tryCatch ?_)
    unfold Builtin.Dict.pairItems
    refine wpAny_bind (wpAny_typeOf hT' ?_)
    rw [if_pos (by decide)]
    refine wpAny_bind ?_
    unfold seqItems?
    refine wpAny_bind (wpAny_load hr' ?_)
    refine wpAny_pure ?_
    refine wpAny_pure ?_
    show wpAny _ A.in1 (holding [Value.int kk t, x] _) _ _ s'
    refine wpAny_holding ?_
    unfold dictSet
    refine wpAny_holding ?_
    refine wpAny_bind ((intKind prog w).pyHash (k := kk) (intKind_is _ _ _ _) ?_)
    have hroom : (merged [] (pairs.take i)).length ≤ sizeLine := by
      have := merged_length_le ([] : List (Int × Value)) (pairs.take i)
      have h2 : (pairs.take i).length ≤ i := by simp; omega
      simp only [List.length_nil] at this
      omega
    refine wpAny_dictSetHashed_pairs (knd := intKind prog w) (s := { s' with toks := s'.toks + 1 }) (intKind_is _ _ _ _) hS' (hsz := hroom) fun h' hd hsb => ?_
    rw [← merged_take_succ [] pairs i (kk, x) hpi] at hd
    refine wpAny_pure ⟨plainId_quiet GG.plain_dict_update_loop _, ih (i + 1) _ _ _ (by omega) hlt (W.frame _ s' _ _ hst' (Nat.le_succ _) fun b hb o e => ?_) ?_ hd fun s'' hm'' hS'' => ?_⟩
    · rw [hsb.2 b (fun h : b = d => hdf (by rw [← h]; exact hb))]; exact e
    · intro i' v' hP'
      refine hide _ fun hidP hidH => ?_
      obtain ⟨r, k, t, x, e1, e2, e3, e4⟩ := hT i' v' hP'
      refine hidH ?_
      clear hidH
      refine ⟨r, k, t, x, e1, e2, e3, ?_⟩
      show h'.get? r = _
      rw [hsb.2 r (fun h : r = d => e2 (by rw [h]; exact List.mem_cons_self))]
      exact hm.heap r _ (fun h => e2 (hsub _ h)) e4
    · refine hR s'' (Moved.trans W.gtrans ((hm.mono hsub).then_heap (Nat.le_succ _) fun b o hb e => ?_) hm'') hS''
      rw [hsb.2 b (fun h : b = d => hb (by rw [h]; exact List.mem_cons_self))]; exact e
end
section
variable {prog : Program} {w : World} {A : Around} {E : Value → Shared → Prop} {s : Shared}
theorem call_dict_pairs {l : Addr} {items : Array Value} {nn : Nat} {pairs : List (Int × Value)} {Q : Value → Shared → Prop} (hh : A.handled = none) (hlo : s.heap.get? l = some (W.listOf items nn)) (hpn : pairs.length = items.size) (hb : items.size ≤ sizeLine)
    (hT : ∀ (i : Nat) v, items[i]? = some v → ∃ r k t x, v = .ref r ∧ pairs[i]? = some (k, x) ∧ s.heap.get? r = some (pairO k t x))
    (h : ∀ h' tk, h'.DictOf (intKind prog w) s.heap.objs.size (merged [] pairs) → (∀ b o, b < s.heap.objs.size → s.heap.get? b = some o → h'.get? b = some o) → Q (.ref s.heap.objs.size) { s with heap := h', toks := tk }) :
    wpAny (model prog w) A (call (.type "dict") [.ref l]) Q E s := by
  refine callType_codes (Q₁ := fun obj s₁ => obj = .ref s.heap.objs.size ∧ s₁ = { s with heap := s.heap.push { cls := .type "dict", data := .dict #[] } }) F.kt_called_dict (F.kt_typeCall_dict_1 _) F.entry_dict_init (kt_code_dict_new _ ⟨rfl, rfl⟩) ?_
  rintro obj s₁ ⟨rfl, rfl⟩
  have hnew : (s.heap.push { cls := .type "dict", data := .dict #[] }).DictOf (intKind prog w) s.heap.objs.size [] := Heap.DictOf.new s.heap
  have hlo1 : (s.heap.push { cls := .type "dict", data := .dict #[] }).get? l = some (W.listOf items nn) := Heap.get?_push_of_some _ hlo
  have hTl : Shared.TypeIs { s with heap := s.heap.push { cls := .type "dict", data := .dict #[] } } (.ref l) "list" := ⟨_, hlo1, rfl⟩
  refine ⟨hnew.typeIs, F.args_dict_init_2 _ _, ?_⟩
  unfold Builtin.«dict.__init__»
  refine wpAny_bind ?_
  unfold Builtin.Dict.selfAndRest
  refine wpAny_bind (wpAny_notOrdered_dict hnew.typeIs ?_)
  show wpAny _ _ (pure (s.heap.objs.size, [Value.ref l])) _ _ _
  refine wpAny_pure ?_
  show wpAny _ _ (Builtin.Dict.updateFrom "dict.__init__" s.heap.objs.size (.ref l) [] .none) _ _ _
  unfold Builtin.Dict.updateFrom
  refine wpAny_bind (wpAny_typeOf hTl ?_)
  rw [if_pos (by decide)]
  refine wpAny_bind (getAttrQ_miss_list hlo1 rfl rfl rfl GG.list_keys_none (by decide +kernel) (by simp [hh]) fun h1 tk1 k1 => ?_)
  simp only [Option.isNone_none, if_true]
  refine wpAny_bind (wpAny_rule ?_)
  have hlo2 : h1.get? l = some (W.listOf items nn) := k1 _ _ hlo1
  have hl2 : h1.IsList l items := ⟨_, hlo2, rfl, nn, rfl⟩
  refine wpAny_bind (wpAny_pyIter_list hl2 ?_)
  have hls : l < s.heap.objs.size := Heap.lt_size hlo
  have hd1 : s.heap.objs.size < h1.objs.size := by
    refine hide _ fun hidP hidH => ?_
    obtain ⟨o, es, ep, ho, r⟩ := hnew
    refine hidH ?_
    clear hidH
    exact Heap.lt_size (k1 _ _ ho)
  have hneI : l ≠ h1.objs.size := Nat.ne_of_lt (Nat.lt_trans hls hd1)
  have hdf : s.heap.objs.size ∉ [h1.objs.size, l] := by
    simp only [List.mem_cons, List.not_mem_nil, or_false, not_or]
    exact ⟨Nat.ne_of_lt hd1, Nat.ne_of_gt hls⟩
  refine wpAny_pure ⟨plainId_quiet GG.plain_dict_update_loop _, ?_⟩
  refine codeAny_dict_update_loop ((Walks.list (A := A.in1.in1) (by simp [hh]) h1.objs.size l hneI items).toS) s.heap.objs.size hdf pairs hpn hb (items.size - 0) 0 0 _ _ (by omega) (Nat.zero_le _) ?_ ?_ ?_ ?_
  · exact ⟨⟨_, Heap.get?_push_size _ rfl, rfl, rfl⟩, hl2.push _⟩
  · intro i v hv
    refine hide _ fun hidP hidH => ?_
    obtain ⟨r, k, t, x, e1, e2, e3⟩ := hT i v hv
    refine hidH ?_
    clear hidH
    have hrs : r < s.heap.objs.size := Heap.lt_size e3
    refine ⟨r, k, t, x, e1, ?_, e2, Heap.get?_push_of_some _ (k1 _ _ (Heap.get?_push_of_some _ e3))⟩
    simp only [List.mem_cons, List.not_mem_nil, or_false, not_or]
    exact ⟨Nat.ne_of_lt hrs, Nat.ne_of_lt (Nat.lt_trans hrs hd1)⟩
  · refine hide _ fun hidP hidH => ?_
    obtain ⟨o, es, ep, ho, r⟩ := hnew
    refine hidH ?_
    clear hidH
    exact ⟨o, es, ep, Heap.get?_push_of_some _ (k1 _ _ ho), r⟩
  · intro s' hm hS'
    refine hide _ fun hidP hidH => ?_
    obtain ⟨h', g', d', tk', os'⟩ := s'
    refine hidH ?_
    clear hidH
    have eg : g' = s.gens := hm.gens
    have ed : d' = s.drawn := hm.drawn
    have eo : os' = s.os := hm.os
    subst eg; subst ed; subst eo
    refine ⟨rfl, h h' tk' hS' fun b o hb e => ?_⟩
    refine hm.heap b o ?_ (Heap.get?_push_of_some _ (k1 _ _ (Heap.get?_push_of_some _ e)))
    simp only [List.mem_cons, List.not_mem_nil, or_false, not_or]
    exact ⟨Nat.ne_of_lt hb, Nat.ne_of_lt (Nat.lt_trans hb hd1)⟩
end
theorem stored_len {kvs : List (Int × Value)} {k : Int} {v : Value} : (stored kvs k v).length = if k ∈ kvs.map (·.1) then kvs.length else kvs.length + 1 := by
  unfold stored
  have e : (kvs.any fun kv => decide (kv.1 = k)) = decide (k ∈ kvs.map (·.1)) := by
    rw [Bool.eq_iff_iff]; simp [List.mem_map]
  rw [e]
  by_cases h : k ∈ kvs.map (·.1) <;> simp only [h, decide_true, decide_false, if_true, if_false] <;> simp
theorem stored_keys {kvs : List (Int × Value)} {k : Int} {v : Value} {j : Int} : j ∈ (stored kvs k v).map (·.1) ↔ j = k ∨ j ∈ kvs.map (·.1) := by
  unfold stored
  have e : (kvs.any fun kv => decide (kv.1 = k)) = decide (k ∈ kvs.map (·.1)) := by
    rw [Bool.eq_iff_iff]; simp [List.mem_map]
  rw [e]
  by_cases h : k ∈ kvs.map (·.1)
  · simp only [h, decide_true, if_true]
    have e2 : (kvs.map fun kv => if kv.1 = k then (kv.1, v) else kv).map (·.1) = kvs.map (·.1) := by
      rw [List.map_map]; apply List.map_congr_left; intro kv _; simp only [Function.comp]; split <;> rfl
    rw [e2]
    constructor
    · exact .inr
    · rintro (rfl | hj)
      · exact h
      · exact hj
  · simp only [h, decide_false, if_false, Bool.false_eq_true, List.map_append, List.mem_append, List.map_cons, List.map_nil, List.mem_singleton]
    exact or_comm
theorem merged_len {L : List (Int × Value)} : ∀ (m : List (Int × Value)), (merged m L).length = m.length + L.length ↔ (L.map (·.1)).Nodup ∧ ∀ j ∈ L.map (·.1), j ∉ m.map (·.1) := by
  induction L with
  | nil => intro m; simp [merged]
  | cons kv L ih =>
    intro m
    have e : merged m (kv :: L) = merged (stored m kv.1 kv.2) L := rfl
    have hle := merged_length_le (stored m kv.1 kv.2) L
    have hi := ih (stored m kv.1 kv.2)
    have hs := stored_len (kvs := m) (k := kv.1) (v := kv.2)
    rw [e]
    by_cases hk : kv.1 ∈ m.map (·.1)
    · rw [if_pos hk] at hs
      constructor
      · intro h; simp only [List.length_cons] at h; omega
      · rintro ⟨_, h⟩; exact absurd hk (h _ (by simp))
    · rw [if_neg hk] at hs
      have e2 : m.length + (kv :: L).length = (stored m kv.1 kv.2).length + L.length := by rw [hs]; simp only [List.length_cons]; omega
      rw [e2, hi]
      simp only [List.map_cons, List.nodup_cons, List.mem_cons, stored_keys, not_or]
      constructor
      · rintro ⟨a, b⟩
        refine ⟨⟨fun h => (b _ h).1 rfl, a⟩, ?_⟩
        rintro j (rfl | hj)
        · exact hk
        · exact (b _ hj).2
      · rintro ⟨⟨a, b⟩, c⟩
        exact ⟨b, fun j hj => ⟨fun e => a (e ▸ hj), c j (.inr hj)⟩⟩
theorem merged_nodup {L : List (Int × Value)} : (merged [] L).length = L.length ↔ (L.map (·.1)).Nodup := by
  have := merged_len (L := L) []
  simpa using this
section
variable {prog : Program} {w : World} {A : Around} {E : Value → Shared → Prop} {s : Shared} {env : Env} {h₀ : Heap} {target : PySem.Expr} {body : List Stmt} {Q : Flow → Shared → Prop}
theorem iterT_list {l : Addr} {vs : List Value} {nn : Nat} {m₀ : Str → Option Value} {news : List (Addr × Obj)} (J : Nat → (Str → Option Value) → List (Addr × Obj) → Prop)
    (hh : A.handled = none) (hl : (l, listOf vs.toArray nn) ∈ news) (F : Fr h₀ env.locals s.heap m₀) (N : News h₀ env.locals s.heap news) (hj : J 0 m₀ news)
    (keepl : ∀ i m₁ news₁, J i m₁ news₁ → (l, listOf vs.toArray nn) ∈ news₁)
    (turn : ∀ i v m₁ news₁ I oI h tk, vs[i]? = some v → J i m₁ news₁ → (∀ p ∈ news₁, p.1 ≠ I) → Fr h₀ env.locals h m₁ → News h₀ env.locals h ((I, oI) :: news₁) →
      wpAny (model prog w) A (assign target env v) (fun _ s₃ => wpAny (model prog w) A (execs body env) (PostJ h₀ env.locals I oI (J (i + 1)) { s with heap := h, toks := tk } Q) E s₃) E { s with heap := h, toks := tk })
    (done : ∀ m₁ news₁ h tk, J vs.length m₁ news₁ → Fr h₀ env.locals h m₁ → News h₀ env.locals h news₁ → Q .next { s with heap := h, toks := tk }) :
    wpAny (model prog w) A (pyIter (.ref l)) (fun it s₂ => TurnsAt prog w A h₀ env target body Q E it s₂) E s := by
  have hol : s.heap.get? l = some (listOf vs.toArray nn) := (N _ hl).1
  have hls : s.heap.IsList l vs.toArray := ⟨_, hol, rfl, nn, rfl⟩
  have hne : l ≠ s.heap.objs.size := Nat.ne_of_lt (Heap.lt_size hol)
  refine wpAny_pyIter_list hls ?_
  have WW := Walks.list (prog := prog) (w := w) hh s.heap.objs.size l hne vs.toArray
  have hlen : vs.toArray.size = vs.length := by simp
  rw [hlen] at WW
  refine ⟨_, _, _, vs.length, _, _, _, m₀, news, J, rfl, KTurns.ofWalks WW (fun i v s Q E st q => letGo_listiter st.1 q), ?_, ?_, ?_, ⟨⟨_, Heap.get?_push_size _ rfl, rfl, rfl⟩, hls.at fun o e => Heap.get?_push_of_some _ e⟩, F.push _, (fun p hp => ⟨Heap.get?_push_of_some _ (N p hp).1, (N p hp).2⟩), hj, ?_, ?_⟩
  · intro hm
    rcases List.mem_cons.mp hm with e | hm
    · exact absurd F.ns.lt (e ▸ Nat.lt_irrefl _)
    · exact (N _ hl).2.1 ((List.mem_singleton.mp hm).symm)
  · intro b hb
    rw [List.mem_singleton.mp hb]
    exact next_is_new F
  · intro p hp hI
    exact absurd (Heap.lt_size (N p hp).1) ((List.mem_singleton.mp hI) ▸ Nat.lt_irrefl _)
  · intro i v m₁ news₁ hh' tk' own hin hP hJ hoff hown hget hfp st F₁ N₁
    refine hide _ fun hidP hidH => ?_
    obtain ⟨⟨oI, hoI, _⟩, _⟩ := id st
    refine hidH ?_
    clear hidH
    have hIn : h₀.get? s.heap.objs.size = none := next_is_new F
    have hmI : (s.heap.objs.size, oI) ∈ own := hfp _ (by simp) hIn oI hoI
    have hl₁ := keepl i m₁ news₁ hJ
    have hlo : hh'.get? l = some (listOf vs.toArray nn) := (N₁ _ (List.mem_append.mpr (.inr hl₁))).1
    have hP' : vs[i]? = some v := by simpa using hP
    have N₂ : News h₀ env.locals hh' ((s.heap.objs.size, oI) :: news₁) := fun p hp => N₁ p ((List.mem_cons.mp hp).elim (fun h => List.mem_append.mpr (.inl (h ▸ hmI))) fun h => List.mem_append.mpr (.inr h))
    refine wpAny_mono (turn i v m₁ news₁ s.heap.objs.size oI hh' tk' hP' hJ (fun p hp e => hoff p hp (by rw [e]; exact .head _)) F₁ N₂) (fun _ s₃ h₃ => wpAny_mono h₃ (fun f s₂ p => ?_) fun _ _ e => e) fun _ _ e => e
    have fin : EndJ h₀ env.locals s.heap.objs.size oI (J (i + 1)) { s with heap := hh', toks := tk' } s₂ → LoopStepU h₀ env.locals [s.heap.objs.size] own (J (i + 1)) { s with heap := hh', toks := tk' } .next s₂ :=
      fun hz => fin_two hown hget hoI hlo (fun _ _ hm => keepl _ _ _ hm) hz
    cases f with
    | ret v => exact .ret p
    | brk => exact .brk p
    | next => exact .next (fin p)
    | cont => exact .cont (fin p)
  · intro h' tk m' news' F' N' _ hJ
    exact done m' news' h' tk hJ F' N'
end
/-- pairs of a number and True -/
noncomputable def PairAt (news : List (Addr × Obj)) (v : Value) (k : Int) : Prop := ∃ (r : Addr) (t : Tok), v = .ref r ∧ (r, pairO k t (.bool true)) ∈ news
theorem PairAt.mono {news news' : List (Addr × Obj)} {v : Value} {k : Int} (h : PairAt news v k) (hs : ∀ p ∈ news, p ∈ news') : PairAt news' v k := by
  refine hide _ fun hidP hidH => ?_
  obtain ⟨r, t, e, a⟩ := h
  refine hidH ?_
  clear hidH
  exact ⟨r, t, e, hs _ a⟩
section
variable {prog : Program} {w : World} {A : Around} {E : Value → Shared → Prop} {s : Shared} {h₀ : Heap} {L : Addr} {m : Str → Option Value} {news : List (Addr × Obj)}
theorem dict_pairs_N {l : Addr} {vs : List Value} {ks : List Int} {nn : Nat} {Q : Value → Shared → Prop} (F : Fr h₀ L s.heap m) (N : News h₀ L s.heap news) (hbig : sysModules < h₀.objs.size) (hh : A.handled = none) (hl : (l, listOf vs.toArray nn) ∈ news) (hc : At2 PairAt news vs ks) (hb : ks.length < 10000)
    (h : ∀ h' tk D o kvs, Fr h₀ L h' m → News h₀ L h' ((D, o) :: news) → (D == sysModules) = false → o.IsDictOf (intKind prog w) kvs → kvs.length ≤ 10000 → (((kvs.length : Int) = (ks.length : Int)) ↔ ks.Nodup) → (∀ p ∈ news, p.1 < D) → Q (.ref D) { s with heap := h', toks := tk }) :
    wpAny (model prog w) A (call (.type "dict") [.ref l]) Q E s := by
  have hlen : vs.length = ks.length := hc.1
  have hle : (merged [] (ks.map fun k => (k, Value.bool true))).length ≤ ks.length := by
    have := merged_length_le ([] : List (Int × Value)) (ks.map fun k => (k, Value.bool true))
    simpa using this
  refine call_dict_pairs (items := vs.toArray) (nn := nn) (pairs := ks.map fun k => (k, Value.bool true)) hh (N _ hl).1 (by simp [hlen]) (by rw [List.size_toArray, sizeLine_eq]; omega) ?_ ?_
  · intro i v hv
    obtain ⟨k, hk, r, t, e, hm⟩ := hc.get (i := i) (v := v) (by simpa using hv)
    exact ⟨r, k, t, _, e, by simp [hk], (N _ hm).1⟩
  · intro h' tk hd hk
    obtain ⟨o, ho, hdo⟩ := Heap.dictOf_iff.mp hd
    have hLlt : L < s.heap.objs.size := F.ns.lt
    refine h h' tk _ o _ ⟨F.ns.at' fun o' e => hk L o' hLlt e, fun b o' e => hk b o' (Heap.lt_size (F.keep b o' e)) (F.keep b o' e), F.above⟩ (fun p hp => ?_) (F.notModules hbig) hdo (by omega) ?_ (fun p hp => Heap.lt_size (N p hp).1)
    · rcases List.mem_cons.mp hp with rfl | hp
      · exact ⟨ho, Nat.ne_of_gt hLlt, next_is_new F⟩
      · exact ⟨hk _ _ (Heap.lt_size (N p hp).1) (N p hp).1, (N p hp).2.1, (N p hp).2.2⟩
    · have := merged_nodup (L := ks.map fun k => (k, Value.bool true))
      rw [List.length_map, List.map_map] at this
      have e2 : ks.map (Prod.fst ∘ fun k => (k, Value.bool true)) = ks := by
        rw [show (Prod.fst ∘ fun k : Int => (k, Value.bool true)) = id from rfl, List.map_id]
      rw [e2] at this
      rw [← this]
      exact Int.natCast_inj
end
section
variable {w : World} {cs : Scope} {c : Cx w cs} {D : Nat} {sl : Sl} {n : Led} {t : Nat}
noncomputable def IterU (c : Cx w cs) (target : PySem.Expr) (body : List Stmt) (v : Value) (sl : Sl) (n : Led) (t : Nat) (kf : KF) : Prop :=
  ∀ b h, c.turn b → Fr b c.L h (menuOf cs.names sl) → News b c.L h n → wpAny (MM w) c.A (pyIter v) (fun it s₂ => TurnsAt PySem.Challenge.rw_pf0239_01.prog w c.A b c.env target body (Post c kf) c.E it s₂) c.E (c.sh h t)
theorem forU_t (ok : c.Ok D) (one : c.One) {target : PySem.Expr} {pos : Pos} {iter : PySem.Expr} {body : List Stmt} {re : RE} {kf : KF} (hi : tr cs 12 iter = re) (hs : ∀ v, foldedSetIterable iter c.env v = pure v)
    (h : vcE c re sl n t fun v sl n t => IterU c target body v sl n t kf) : Tri c sl n t (exec (.For target iter body [] pos) c.env) kf := by
  subst hi
  intro hp hz1
  refine hide _ fun hidP hidH => ?_
  obtain ⟨b, W, F, N⟩ := hz1
  refine hidH ?_
  clear hidH
  refine For_turns (s := c.sh hp t) F ((vc_ok ok 12 iter sl n t _ h).seq ?_ ⟨b, W, F, N⟩) hs ok.own
  intro v sl' n' t' h1 h' hz2
  refine hide _ fun hidP hidH => ?_
  obtain ⟨b', W', F', N'⟩ := hz2
  refine hidH ?_
  clear hidH
  obtain rfl := one b b' W W'
  exact h1 b h' W F' N'
theorem turn_post2 {b : Heap} (one : c.One) (W : c.turn b) {J : Sl → Led → Prop} {J' : (Str → Option Value) → List (Addr × Obj) → Prop} {I : Addr} {oI : Obj} {kf : KF} {h h0 : Heap} {tk tk0 : Nat} {x : Sem Flow} (hJ : ∀ sl n, J sl n → J' (menuOf cs.names sl) n)
    (T : wpAny (MM w) c.A x (Post c (turnK J I oI kf)) c.E (c.sh h tk)) : wpAny (MM w) c.A x (PostJ b c.L I oI J' (c.sh h0 tk0) (Post c kf)) c.E (c.sh h tk) := by
  refine wpAny_mono T ?_ fun _ _ e => e
  intro fl s hz3
  refine hide _ fun hidP hidH => ?_
  obtain ⟨h', sl, n, t, rfl, ⟨b', W', F, N⟩, hk⟩ := hz3
  refine hidH ?_
  clear hidH
  obtain rfl := one b b' W W'
  have e : TurnEnd J I oI sl n → EndJ b c.L I oI J' (c.sh h0 tk0) (c.sh h' t) := by
    intro hz4
    refine hide _ fun hidP hidH => ?_
    obtain ⟨hi, n', hs, hn, hj⟩ := hz4
    refine hidH ?_
    clear hidH
    exact EndJ.intro F (fun p hp => (List.mem_cons.mp hp).elim (fun e => e ▸ N _ hi) fun hp => N _ (hs p hp)) hn (hJ _ _ hj)
  cases fl with
  | ret v => exact ⟨h', sl, n, t, rfl, ⟨b, W, F, N⟩, hk⟩
  | brk => exact ⟨h', sl, n, t, rfl, ⟨b, W, F, N⟩, hk⟩
  | next => exact e hk
  | cont => exact e hk
/-- a loop that takes each thing apart -/
theorem iter_tup_t (one : c.One) {ts : List PySem.Expr} {xs : List (Str × Pos)} {ek} {tp : Pos} {body : List Stmt} {kf : KF} {l : Addr} {vs : List Value} {nn : Nat} (J : Nat → Sl → Led → Prop) (ok : c.Ok D) (hx : assignEach ts c.env = xs.map fun p => (false, assign (.Name p.1 p.2) c.env)) (hl : (l, listOf vs.toArray nn) ∈ n) (h0 : J 0 sl n) (keepl : ∀ i sl n, J i sl n → (l, listOf vs.toArray nn) ∈ n)
    (turn : ∀ i v sl n I oI t, vs[i]? = some v → J i sl n → (∀ p ∈ n, p.1 ≠ I) → ∃ a ws, v = .ref a ∧ (a, tupOf ws) ∈ n ∧ xs.length = ws.length ∧ StoreL c xs ws sl ((I, oI) :: n) t fun sl n t => Tri c sl n t (execs body c.env) (turnK (J (i + 1)) I oI kf))
    (done : ∀ sl n t, J vs.length sl n → kf .next sl n t) : IterU c (.Tuple ts ek tp) body (.ref l) sl n t kf := by
  intro b h W F N
  refine iterT_list (s := c.sh h t) (env := c.env) (fun i m n' => ∃ sl, m = menuOf cs.names sl ∧ J i sl n') rfl hl F N ⟨sl, rfl, h0⟩ (fun i m n' ⟨sl, _, hj⟩ => keepl i sl n' hj) ?_ ?_
  · rintro i v m₁ n₁ I oI h' tk hv ⟨sl₁, rfl, hj⟩ hI F₁ N₁
    refine hide _ fun hidP hidH => ?_
    obtain ⟨a, ws, rfl, hm, hlen, hst⟩ := turn i v sl₁ n₁ I oI tk hv hj hI
    refine hidH ?_
    clear hidH
    refine unpackN_ (s := c.sh h' tk) (items := ws.toArray) F₁ N₁ ⟨_, (N₁ _ (.tail _ hm)).1, rfl, _, rfl⟩ rfl (by rw [hx, List.length_map, hlen, List.size_toArray]) (by rw [hx, List.findIdx?_eq_none_iff]; intro x hx; obtain ⟨p, _, rfl⟩ := List.mem_map.mp hx; rfl) fun h2 F2 N2 => ?_
    rw [hx, List.map_map]
    exact (StoreL.tri ok xs ws hst).seq (fun _ sl n t g h3 H3 => turn_post2 one W (fun sl n hj => ⟨sl, rfl, hj⟩) (g h3 H3)) ⟨b, W, F2, N2⟩
  · rintro m₁ n₁ h' tk ⟨sl₁, rfl, hj⟩ F₁ N₁
    exact ⟨h', sl₁, n₁, tk, rfl, ⟨b, W, F₁, N₁⟩, done sl₁ n₁ tk hj⟩
end
open AutoSeq1 (wpAny_loadPart')
section
variable {prog : Program} {w : World} {A : Around} {E : Value → Shared → Prop} {s : Shared}
theorem m_inRange {r : Addr} {a b k : Int} {t u v tk : Tok} {Q : Value → Shared → Prop} (hr : IsRange s.heap r a b 1 t u v) (h : Q (.bool (decide (a ≤ k ∧ k < b))) s) : wpAny (model prog w) A (compareOp .In (.int k tk) (.ref r)) Q E s := by
  have hT : s.TypeIs (.ref r) "range" := ⟨_, hr, rfl⟩
  refine In_slot hT F.slot_range_contains (wpAny_call_entry F.slot_range_contains hT F.entry_range_contains ?_ (F.args_range_contains_2 _ _))
  have e : (Builtin.Range.rangePlace? a b 1 k).isSome = decide (a ≤ k ∧ k < b) := by
    unfold Builtin.Range.rangePlace?
    have h1 : (k - a) % 1 = 0 := by omega
    simp only [h1]
    by_cases hc : a ≤ k ∧ k < b
    · simp [hc]
    · have : ¬ (a ≤ k && decide (k < b)) = true := by simpa using hc
      simp [hc]
  refine hide _ fun hidP hidH => ?_
  obtain ⟨hp, g, d, tk, os⟩ := s
  refine hidH ?_
  clear hidH
  wp_walk using wpAny_loadPart' hr
  refine ⟨_, rfl, wpAny_truthy_bool ?_⟩
  rw [e]; exact h
end
section
variable {w : World} {cs : Scope} {c : Cx w cs} {D : Nat} {sl : Sl} {n : Led} {t : Nat}
/-- whether a number lies in a range of two ends -/
theorem inRange_t {a b i : Int} {ta tb u : Tok} {k : KV} (h : ∀ t, k (.bool (decide (a ≤ i ∧ i < b))) sl n t) : Tri c sl n t (call (.type "range") [.int a ta, .int b tb]) fun v sl n t => Tri c sl n t (compareOp .In (.int i u) v) k := by
  intro hp hz1
  refine hide _ fun hidP hidH => ?_
  obtain ⟨bb, W, F, N⟩ := hz1
  refine hidH ?_
  clear hidH
  refine range2_rows (s := c.sh hp t) F N fun h' tk' t1 u1 v1 R F' N' kp => ⟨h', sl, (hp.objs.size, ({ cls := .type "range", data := .fields #[.int a t1, .int b u1, .int 1 v1] } : Obj)) :: n, tk', rfl, ⟨bb, W, F', fun p hq => ?_⟩, ?_⟩
  · rcases List.mem_cons.mp hq with rfl | hq
    · exact ⟨R, fun e => absurd F.ns.lt (e ▸ Nat.lt_irrefl _), next_is_new F⟩
    · exact N' p hq
  · intro h2 hz2
    refine hide _ fun hidP hidH => ?_
    obtain ⟨b2, W2, F2, N2⟩ := hz2
    refine hidH ?_
    clear hidH
    exact m_inRange (s := c.sh h2 tk') (N2 _ (.head _)).1 ⟨h2, sl, n, tk', rfl, ⟨b2, W2, F2, fun p hp => N2 p (.tail _ hp)⟩, h _⟩
theorem itemT_t {value slice : PySem.Expr} {l : Addr} {vs : List Value} {i : Int} {u : Tok} {v : Value} {j : Nat} {k : KV} (hm : (l, tupOf vs) ∈ n) (hi : i = (j : Int)) (hj : vs[j]? = some v) (hz : vs.length < 1000) (h : k v sl n t)
    (hs : subscripted slice false (.ref l) (.int i u) = operate [.ref l, .int i u] (getItem (.ref l) (.int i u)) := by with_unfolding_all rfl) (hg : ∀ r, letTemporaryGo value (.ref l) r = pure () := by intro _; with_unfolding_all rfl) : Tri c sl n t (subscriptTail value slice (.ref l) (.int i u)) k := by
  have hlt := (List.getElem?_eq_some_iff.mp hj).1
  exact fun hp ⟨b, W, F, N⟩ => item_tupleL (s := c.sh hp t) (l := vs) ⟨_, (N _ hm).1, rfl, _, rfl⟩ (by omega) (by omega) (by subst hi; exact (seqIndex_of (Int.natCast_nonneg j) (Int.ofNat_lt.mpr hlt)).trans (by rw [Int.toNat_natCast])) hj ⟨hp, sl, n, t, rfl, ⟨b, W, F, N⟩, h⟩ hs hg
/-- a dict of pairs -/
theorem dict_t (ok : c.Ok D) {l : Addr} {vs : List Value} {ks : List Int} {nn : Nat} {k : KV} (hl : (l, listOf vs.toArray nn) ∈ n) (hc : At2 PairAt n vs ks) (hb : ks.length < 10000)
    (h : ∀ Dd o kvs t, (Dd == sysModules) = false → o.IsDictOf (intKind PySem.Challenge.rw_pf0239_01.prog w) kvs → kvs.length ≤ 10000 → (((kvs.length : Int) = (ks.length : Int)) ↔ ks.Nodup) → (∀ p ∈ n, p.1 < Dd) → k (.ref Dd) sl ((Dd, o) :: n) t) : Tri c sl n t (call (.type "dict") [.ref l]) k :=
  fun hp ⟨b, W, F, N⟩ => dict_pairs_N (s := c.sh hp t) F N (modules_low (ok.T b W).nolimit) rfl hl hc hb fun h' tk Dd o kvs F' N' a1 a2 a3 a4 a5 => ⟨h', sl, _, tk, rfl, ⟨b, W, F', N'⟩, h Dd o kvs tk a1 a2 a3 a4 a5⟩
theorem lenD_t {d : Addr} {o : Obj} {kvs : List (Int × Value)} {k : KV} (hm : (d, o) ∈ n) (hd : o.IsDictOf (intKind PySem.Challenge.rw_pf0239_01.prog w) kvs) (lo : (d == sysModules) = false) (hz : kvs.length ≤ 10000) (h : ∀ tv t, k (.int (kvs.length : Nat) tv) sl n t) : Tri c sl n t (call (.builtin "len") [.ref d]) k :=
  fun hp ⟨b, W, F, N⟩ => kda_len (s := c.sh hp t) N hm hd lo (by omega) ⟨hp, sl, n, _, rfl, ⟨b, W, F, N⟩, h _ _⟩
end
noncomputable abbrev bitsOk (c p : Int) : Prop := if c = 195 ∨ c = 199 ∨ c = 203 ∨ c = 207 then 2 ≤ p ∧ p < 17 else p = 8 ∨ (c ≠ 192 ∧ p = 12)
theorem bits_four {c : Int} : ([195, 199, 203, 207].any (· == c)) = true ↔ c = 195 ∨ c = 199 ∨ c = 203 ∨ c = 207 := by
  simp only [List.any_cons, List.any_nil, Bool.or_false, Bool.or_eq_true, beq_iff_eq]; omega
theorem bits_yes {c p : Int} (e : ([195, 199, 203, 207].any (· == c)) = true) : Value.bool (decide (2 ≤ p ∧ p < 17)) = .bool (decide (bitsOk c p)) := by
  unfold bitsOk; simp only [if_pos (bits_four.mp e)]
theorem bits_no {c p : Int} {b : Bool} (e : ([195, 199, 203, 207].any (· == c)) = false) (h : b = true ↔ (p = 8 ∨ (c ≠ 192 ∧ p = 12))) : Value.bool b = .bool (decide (bitsOk c p)) := by
  have e' : ¬ (c = 195 ∨ c = 199 ∨ c = 203 ∨ c = 207) := fun h => by rw [bits_four.mpr h] at e; cases e
  unfold bitsOk; simp only [if_neg e']
  cases b <;> simp_all
theorem bits_c (w : World) (c p : Int) (tc tp : Tok) (news : Led) :
    Cn w 2 355 [.int c tc, .int p tp] news (fun v n' => v = .bool (decide (bitsOk c p)) ∧ n' = news) (fun _ => False) := by
  have hfill := fill_ w
  revert hfill
  k_fill
  intro _
  refine' Cn.of (binds := [(Str.ofString "code", .int c tc), (Str.ofString "precision", .int p tp)]) (sl₀ := [some (.int c tc), some (.int p tp)]) (z := 1) ?hf ?hc ?hb ?hl ?c2 ?c3 ?c4 ?c5 ?hs ?_
  walk_at "v_enter"
  intro cx S ok one hn he hr t
  refine vc_go (f := 40) (rs := rs__law_lets_bits) ok (by kernel_rfl) (by kernel_rfl) ?_
  refine ⟨Nat.le_of_ble_eq_true rfl, fun l hl => inT_t (ns := [195, 199, 203, 207]) (.head _) (.cons _ _ (.cons _ _ (.cons _ _ (.cons _ _ .nil)))) ⟨fun e => ?_, fun e => ?_⟩⟩
  · exact inRange_t fun t => ⟨_, fun p hp => .tail _ hp, hr _ _ ⟨bits_yes e, rfl⟩⟩
  · exact fun t => ⟨_, fun p hp => .tail _ hp, hr _ _ ⟨bits_no e (by simp), rfl⟩⟩
noncomputable def RowOk (r : Int × Int × Int × Int) : Prop := (0 ≤ r.1 ∧ r.1 < 256) ∧ ([1, 2, 3, 4].any fun x => x == r.2.1) = true ∧ ([1, 2, 3, 4].any fun x => x == r.2.2.1) = true ∧ ([0, 1, 2, 3].any fun x => x == r.2.2.2) = true
noncomputable def LetsF (c p hh ww : Int) (ks : List (Int × Int × Int × Int)) : Prop := ([192, 193, 194, 195, 197, 198, 199, 201, 202, 203, 205, 206, 207].any fun x => x == c) = true ∧ bitsOk c p ∧ (0 ≤ hh ∧ hh < 65536) ∧ (0 < ww ∧ ww < 65536) ∧ (∀ r ∈ ks, RowOk r) ∧ (ks.map fun r => r.1).Nodup
theorem pairs_map {news : Led} {vs : List Value} {ks : List (Int × Int × Int × Int)} (h : At2 (fun n v (c : Int × Int × Int × Int) => PairAt n v c.1) news vs ks) : At2 PairAt news vs (ks.map fun r => r.1) := by
  refine ⟨by simpa using h.1, fun i v c a b => ?_⟩
  rw [List.getElem?_map] at b
  cases hk : ks[i]? with
  | none => rw [hk] at b; cases b
  | some k => rw [hk] at b; cases b; exact h.2 i v k a hk
theorem no_ {P : Prop} (h : true = false) : P := nomatch h
theorem not_t {b : Bool} (h : (!b) = true) : b = false := by cases b <;> simp_all
theorem not_f {b : Bool} (h : (!b) = false) : b = true := by cases b <;> simp_all
section
variable {w : World} {cs : Scope} {c : Cx w cs} {D : Nat} {sl : Sl} {n : Led} {t : Nat}
theorem bits_t (ok : c.Ok D) {a b : Int} {ta tb : Tok} {k : KV} (hD : Nat.ble 2 D = true) (h : ∀ t, k (.bool (decide (bitsOk a b))) sl n t) : Tri c sl n t (call (.ref 355) [.int a ta, .int b tb]) k :=
  (bits_c w a b ta tb n).tri ok hD (by rintro _ _ ⟨rfl, rfl⟩; exact h) fun _ z => z.elim
/-- one row looked at -/
theorem lf_turn {f0 f1 f2 f3 f4 f5 : Option Value} {a b d q : Int} {ta tb td tq : Tok} {kf : KF}
    (bad : ¬ RowOk (a, b, d, q) → ∀ sl n' t, (∀ p ∈ n, p ∈ n') → kf (.ret (.bool false)) sl n' t) (good : RowOk (a, b, d, q) → ∀ n' t, (∀ p ∈ n, p ∈ n') → kf .next [f0, f1, f2, f3, f4, f5, some (.int a ta), some (.int b tb), some (.int d td), some (.int q tq)] n' t) :
    vcS c rs__law_lets_frame_2 [f0, f1, f2, f3, f4, f5, some (.int a ta), some (.int b tb), some (.int d td), some (.int q tq)] n t kf := by
  have q4 : ∀ {x y z u : Int} {t1 t2 t3 t4 : Tok}, IntsAre [.int x t1, .int y t2, .int z t3, .int u t4] [x, y, z, u] := fun {x y z u t1 t2 t3 t4} => .cons _ _ (.cons _ _ (.cons _ _ (.cons _ _ .nil)))
  refine fun t => ⟨fun e1 => ⟨fun _ => bad (fun h => ?_) _ _ _ sub_id, no_⟩, fun e1 => ?_⟩
  · have := not_t e1; simp [h.1.1, h.1.2] at this
  refine ⟨Nat.le_of_ble_eq_true rfl, fun l1 h1 => notinT_t (ns := [1, 2, 3, 4]) (.head _) q4 ⟨fun e2 => ⟨fun _ => bad (fun h => ?_) _ _ _ fun p hp => .tail _ hp, no_⟩, fun e2 => ?_⟩⟩
  · exact absurd h.2.1 (by rw [not_t e2]; decide)
  refine ⟨Nat.le_of_ble_eq_true rfl, fun l2 h2 => notinT_t (ns := [1, 2, 3, 4]) (.head _) q4 ⟨fun e3 => ⟨fun _ => bad (fun h => ?_) _ _ _ fun p hp => .tail _ (.tail _ hp), no_⟩, fun e3 => ?_⟩⟩
  · exact absurd h.2.2.1 (by rw [not_t e3]; decide)
  refine ⟨Nat.le_of_ble_eq_true rfl, fun l3 h3 => notinT_t (ns := [0, 1, 2, 3]) (.head _) q4 ⟨fun e4 => bad (fun h => ?_) _ _ _ fun p hp => .tail _ (.tail _ (.tail _ hp)), fun e4 => ?_⟩⟩
  · exact absurd h.2.2.2 (by rw [not_t e4]; decide)
  exact good ⟨and_dec (not_f e1), not_f e2, not_f e3, not_f e4⟩ _ _ fun p hp => .tail _ (.tail _ (.tail _ hp))
/-- a pair of a row's name and True -/
theorem pair_turn (ok : c.Ok D) {scope : Scope} {cl : List (Str × Addr)} {y : Str} {p1 p2 p3 p4 pos : Pos} {m m1 m2 : Nat} {q : Int × Int × Int × Int} {v : Value} {I C Dl : Addr} {oI oC oD : Obj} (hc : RowAt n v q) (hv : CompVar oC y v) (off : LCg.Off3 I C Dl n)
    (hk : (compEnvC scope cl C c.env).scope.kind = .function) (hx : (compEnvC scope cl C c.env).kindOf y = some .local) (hd : (y == ("__debug__" : Str)) = false) :
    Tri c sl ((I, oI) :: (C, oC) :: (Dl, oD) :: n) t (eval (.Tuple [.Subscript (.Name y p1) (.Constant (.int 0) m1 p2) p3, .Constant (.bool true) m2 p4] m pos) (compEnvC scope cl C c.env))
      (CompTurn sl I C Dl oI oC oD fun y n'' => PairAt n'' y q.1 ∧ ∀ p ∈ n, p ∈ n'') := by
  refine hide _ fun hidP hidH => ?_
  obtain ⟨x, t1, t2, t3, t4, rfl, hx'⟩ := hc
  refine hidH ?_
  clear hidH
  refine Tri.tup_ (Tri.args_cons rfl (Tri.sub_ (cname_t (.tail _ (.head _)) hv hk hx hd ?_)))
  refine fun hp H => wpAny_Constant_int (s := c.sh hp _) ?_
  refine ⟨hp, _, _, _, rfl, H, itemT_t (j := 0) (v := .int q.1 t1) (.tail _ (.tail _ (.tail _ hx'))) rfl rfl (Nat.le_of_ble_eq_true rfl) ?_⟩
  refine Tri.args_cons rfl (fun hp H => wpAny_Constant_bool (s := c.sh hp _) ⟨hp, _, _, _, rfl, H, ?_⟩)
  refine fun h H => PyProof.Rows.args_nil ⟨h, sl, _, _, rfl, H, Nat.le_of_ble_eq_true rfl, fun X hX => ?_⟩
  exact turn_put off hX ⟨⟨X, _, rfl, .head _⟩, fun p hp => .tail _ hp⟩
end
theorem lets_frame_c (w : World) (x l : Addr) (tc tp th tw : Tok) (nn : Nat) (vs : List Value) (c p hh ww : Int) (ks : List (Int × Int × Int × Int)) (news : Led) (hx : (x, tup [.int c tc, .int p tp, .int hh th, .int ww tw, .ref l]) ∈ news) (hl : (l, listOf vs.toArray nn) ∈ news) (hcs : RowsAt news vs ks) (hn : ks.length < 1000) :
    Cn w 8 367 [.ref x] news (fun v n' => ∃ b, v = .bool b ∧ (b = true ↔ LetsF c p hh ww ks) ∧ n' = news) (fun _ => False) := by
  have hfill := fill_ w
  revert hfill
  k_fill
  intro _
  refine' Cn.of (binds := [(Str.ofString "frame", .ref x)]) (sl₀ := [some (.ref x), none, none, none, none, none, none, none, none, none]) (z := 4) ?hf ?hc ?hb ?hl ?c2 ?c3 ?c4 ?c5 ?hs ?_
  walk_at "v_enter"
  intro cx S ok one hn' he hr t
  have hlen : vs.length = ks.length := hcs.1
  have no : ∀ (n : Led), (∀ p ∈ news, p ∈ n) → ¬ LetsF c p hh ww ks → ∃ n', (∀ p ∈ n', p ∈ n) ∧ S (.bool false) n' := fun n hs hno => ⟨news, hs, hr _ _ ⟨false, rfl, ⟨fun h => (nomatch h), fun h => absurd h hno⟩, rfl⟩⟩
  refine vc_go (f := 40) (rs := rs__law_lets_frame) ok (by kernel_rfl) (by kernel_rfl) ?_
  refine unpack_t ok (xs := [(Str.ofString "code", _), (Str.ofString "precision", _), (Str.ofString "height", _), (Str.ofString "width", _), (Str.ofString "rows", _)]) (rv := .loc 0) (by kernel_rfl) rfl (by with_unfolding_all rfl) (by with_unfolding_all rfl) ?_
  refine ⟨x, _, rfl, hx, rfl, storeL_one (i := 1) (by kernel_rfl) (storeL_one (i := 2) (by kernel_rfl) (storeL_one (i := 3) (by kernel_rfl) (storeL_one (i := 4) (by kernel_rfl) (storeL_one (i := 5) (by kernel_rfl) ?_))))⟩
  refine codes_t ok rfl fun lc ws t hi hlc => notinL_t (.head _) hi ⟨fun e => ⟨fun _ => no _ (fun p hp => .tail _ hp) fun h => ?_, no_⟩, fun e => ?_⟩
  · exact absurd h.1 (by show ¬ (codesL.any _) = true; rw [not_t e]; decide)
  refine bits_t ok rfl fun t => ⟨fun e2 => ⟨fun _ => no _ (fun p hp => .tail _ hp) fun h => ?_, no_⟩, fun e2 => ?_⟩
  · exact absurd h.2.1 (of_decide_eq_false (not_t e2))
  refine fun t => ⟨fun e3 => ⟨fun _ => no _ (fun p hp => .tail _ hp) fun h => ?_, no_⟩, fun e3 => ?_⟩
  · exact absurd h.2.2.1 (and_dec_no (not_t e3))
  refine fun t => ⟨fun e4 => no _ (fun p hp => .tail _ hp) fun h => ?_, fun e4 => ?_⟩
  · exact absurd h.2.2.2.1 (and_dec_no (not_t e4))
  refine forU_t ok one (re := .loc 5) (by kernel_rfl) (fun _ => rfl) ?_
  refine iter_tup_t one (fun i sl n => (∃ a b d q, sl = [some (.ref x), some (.int c tc), some (.int p tp), some (.int hh th), some (.int ww tw), some (.ref l), a, b, d, q]) ∧ n = (lc, listOf ws.toArray 0) :: news ∧ ∀ r ∈ ks.take i, RowOk r) ok
    (xs := [(Str.ofString "ident", _), (Str.ofString "across", _), (Str.ofString "down", _), (Str.ofString "quant", _)]) rfl (.tail _ hl) ⟨⟨_, _, _, _, rfl⟩, rfl, by simp⟩ (fun i sl n h => h.2.1 ▸ .tail _ hl) ?_ ?_
  · intro i v sl n I oI t hv hz1 hI
    refine hide _ fun hidP hidH => ?_
    obtain ⟨⟨a, b, d, q, rfl⟩, rfl, hr'⟩ := hz1
    refine hidH ?_
    clear hidH
    refine hide _ fun hidP hidH => ?_
    obtain ⟨r, hk, y, t1, t2, t3, t4, rfl, hy⟩ := hcs.get hv
    refine hidH ?_
    clear hidH
    refine ⟨y, _, rfl, .tail _ hy, rfl, storeL_one (i := 6) (by kernel_rfl) (storeL_one (i := 7) (by kernel_rfl) (storeL_one (i := 8) (by kernel_rfl) (storeL_one (i := 9) (by kernel_rfl) ?_)))⟩
    refine vc_go (f := 40) (rs := rs__law_lets_frame_2) ok (by kernel_rfl) (by kernel_rfl) ?_
    refine lf_turn (fun hno sl n' t hs => no _ (fun p hp => hs _ (.tail _ (.tail _ hp))) fun h => hno (h.2.2.2.2.1 _ (List.mem_of_getElem? hk))) fun hgo n' t hs => ?_
    refine ⟨hs _ (.head _), _, fun p hp => hs _ (.tail _ hp), hI, ⟨_, _, _, _, rfl⟩, rfl, ?_⟩
    rw [List.take_add_one, hk]
    exact fun r' h' => (List.mem_append.mp h').elim (hr' r') fun h' => (List.mem_singleton.mp h') ▸ hgo
  · intro sl n t hz2
    refine hide _ fun hidP hidH => ?_
    obtain ⟨⟨a, b, d, q, rfl⟩, rfl, hr'⟩ := hz2
    refine hidH ?_
    clear hidH
    rw [hlen, List.take_length] at hr'
    refine comp_t ok one (re := .loc 5) (by with_unfolding_all rfl) (by decide) rfl (by decide) rfl (fun _ => rfl) (by kernel_rfl) ?_
    refine comp_grow_t one (R := RowAt) (O := fun n v c => PairAt n v c.1) (ks := ks) (At2.mono (fun _ _ _ _ a b => a.mono b) hcs fun p hp => .tail _ hp) (fun _ _ _ _ a b => a.mono b) (fun _ _ _ _ a b => a.mono b) (.tail _ hl) (by omega) ?_ ?_
    · intro q v I oI C oC Dl ys n' t _ hR _ hv off _
      exact pair_turn ok.calm hR hv off rfl rfl (by decide)
    · intro ys n' Dl t hR hs o1
      refine dict_t ok (.head _) (pairs_map (At2.mono (fun _ _ _ _ a b => a.mono b) hR fun p hp => .tail _ hp)) (by rw [List.length_map]; omega) fun Dd o kvs t a1 a2 a3 a4 a5 => ?_
      refine lenD_t (.head _) a2 a1 a3 fun tv t => len_t (.tail _ (.tail _ (hs _ (.tail _ hl)))) (by omega) fun tv t => ?_
      refine ⟨news, fun p hp => .tail _ (.tail _ (hs _ (.tail _ hp))), hr _ _ ⟨_, rfl, ?_, rfl⟩⟩
      rw [List.length_map] at a4
      rw [hlen, beq_iff_eq, a4]
      exact ⟨fun h => ⟨not_f e, of_decide_eq_true (not_f e2), and_dec (not_f e3), and_dec (not_f e4), hr', h⟩, fun h => h.2.2.2.2.2⟩
/-- a table of one lambda: nothing yet, or that lambda's code -/
noncomputable def Tab (line col : Nat) (qual : Str) (ps : Array Value) (news : List (Addr × Obj)) : Prop :=
  ps = #[] ∨ ∃ c' oc vs t, ps = #[rawInt line, rawInt col, .ref c'] ∧ (c', oc) ∈ news ∧ oc.data = .fields vs ∧ vs[1]? = some (.str qual t)
theorem Tab.mono {line col : Nat} {qual : Str} {ps : Array Value} {news news' : List (Addr × Obj)} (h : Tab line col qual ps news) (hs : ∀ p ∈ news, p ∈ news') : Tab line col qual ps news' := by
  rcases h with h | ⟨c', oc, vs, t, a, b, c, d⟩
  · exact .inl h
  · exact .inr ⟨c', oc, vs, t, a, hs _ b, c, d⟩
section
variable {M : Model} {A : Around} {E : Value → Shared → Prop} {s : Shared} {h₀ : Heap} {L a c P : Addr} {m mg mb : Str → Option Value} {cn : Str} {cs : Scope} {ccd : Value} {cl : List (Str × Addr)} {news keep TT : List (Addr × Obj)}
  {p : Program} {loose : List Str} {mean : ExcName → Option Value} {params : Arguments} {body : PySem.Expr} {scope : Scope} {ps : Array Value} {pos : Pos} {clos : List (Str × Addr)}
theorem lam_eval {Q : Value → Shared → Prop} (F : Fr h₀ L s.heap m) (N : News h₀ L s.heap news) (T : Top p loose mean mg mb h₀) (C : CodeHd h₀ c P) (hcd : ccd = .ref c) (hm : (P, tabObj ps) ∈ news) (hkp : ∀ p ∈ keep, p ∈ news) (hkP : ∀ p ∈ keep, p.1 ≠ P)
    (hTT : ∀ p ∈ TT, p ∈ keep) (ht : Tab pos.line pos.col ((cn ++ ".<locals>." ++ "<lambda>" : Str)) ps TT) (hdef : defaultsOf params (envX cn cs L a ccd cl) = ([], []))
    (hcl : closureFor scope (envX cn cs L a ccd cl) = pure clos)
    (h : ∀ f c' oc vs t ctv ps' h' tk, Fr h₀ L h' m →
      News h₀ L h' ((f, kla_obj "<lambda>" (cn ++ ".<locals>." ++ "<lambda>" : Str) params body scope clos ((mg "__name__").getD .none) c' ctv) :: (c', oc) :: (P, tabObj ps') :: keep) →
      oc.data = .fields vs → vs[1]? = some (.str (cn ++ ".<locals>." ++ "<lambda>" : Str) t) → Tab pos.line pos.col (cn ++ ".<locals>." ++ "<lambda>" : Str) ps' [(c', oc)] → c' ≠ P → ((∀ q ∈ keep, q.1 < c') ∨ (c', oc) ∈ TT) → (∀ q ∈ (c', oc) :: (P, tabObj ps') :: keep, q.1 < f) → Q (.ref f) { s with heap := h', toks := tk }) :
    wpAny M A (eval (.Lambda params body scope pos) (envX cn cs L a ccd cl)) Q E s := by
  refine kla_eval hdef ?_
  have hmP := N (P, tabObj ps) hm
  have Nk : News h₀ L s.heap keep := fun p hp => N p (hkp p hp)
  have N2 : News h₀ L s.heap ((P, tabObj ps) :: keep) := fun p hp => (List.mem_cons.mp hp).elim (fun e => e ▸ hmP) fun hp => Nk p hp
  rcases ht with rfl | ⟨c', oc, vs, t, rfl, hcT, hd, hv⟩
  · refine kla_nest (ps := #[]) (g := fun o => (P, o) :: keep) F N2 T C hcd ?_ True.intro rfl hcl ?_
    · exact .head hkP
    · intro f c' oc vs t ctv h' tk F' N' hd hv l1 l2
      have hcP : P < c' := l1 (P, tabObj #[]) (.head _)
      refine h f c' oc vs t ctv _ h' tk F' N' hd hv (.inr ⟨c', oc, vs, t, rfl, .head _, hd, hv⟩) (Nat.ne_of_gt hcP) (.inl fun q hq => l1 q (.tail _ hq)) ?_
      intro q hq
      rcases List.mem_cons.mp hq with rfl | hq
      · exact l2
      · rcases List.mem_cons.mp hq with rfl | hq
        · exact Nat.lt_trans hcP l2
        · exact Nat.lt_trans (l1 q (.tail _ hq)) l2
  · have hc := hTT _ hcT
    refine kla_hit (c' := c') F N2 T C hcd (.head _) ?_ ?_ hcl ?_
    · simp [TriplesOk, rawInt]
    · simp [codeAmong, rawInt]
    · intro f ctv h' tk F' N' l1
      refine h f c' oc vs t ctv _ h' tk F' (fun p hp => ?_) hd hv (.inr ⟨c', oc, vs, t, rfl, .head _, hd, hv⟩) (hkP _ hc) (.inr hcT) ?_
      · rcases List.mem_cons.mp hp with rfl | hp
        · exact N' _ (.head _)
        · rcases List.mem_cons.mp hp with rfl | hp
          · exact N' _ (.tail _ (.tail _ hc))
          · exact N' _ (.tail _ hp)
      · intro q hq
        rcases List.mem_cons.mp hq with rfl | hq
        · exact l1 _ (.tail _ hc)
        · exact l1 _ hq
end
noncomputable abbrev headB (p hh ww n : Int) : List Int := [p, hh / 256, hh % 256, ww / 256, ww % 256, n]
theorem frameB_eq {p hh ww : Int} {ks : List (Int × Int × Int × Int)} : frameB p hh ww ks = headB p hh ww ks.length ++ ks.flatMap rowB := by
  simp [frameB, headB]
theorem flat_rowB_len {ks : List (Int × Int × Int × Int)} : (ks.flatMap rowB).length = 3 * ks.length := by
  induction ks with
  | nil => rfl
  | cons c l ih => rw [List.flatMap_cons, List.length_append, ih]; simp [rowB]; omega
theorem flat_get {ks : List (Int × Int × Int × Int)} {i j : Nat} {c : Int × Int × Int × Int} (hi : ks[i]? = some c) (hj : j < 3) : (ks.flatMap rowB)[3 * i + j]? = (rowB c)[j]? := by
  induction ks generalizing i with
  | nil => simp at hi
  | cons d l ih =>
    rw [List.flatMap_cons]
    have hl : (rowB d).length = 3 := rfl
    cases i with
    | zero =>
      simp only [List.getElem?_cons_zero, Option.some.injEq] at hi
      subst hi
      rw [List.getElem?_append_left (by omega)]
      congr 1; omega
    | succ i =>
      simp only [List.getElem?_cons_succ] at hi
      rw [List.getElem?_append_right (by omega), ← ih hi]
      congr 1; omega
theorem frame_get {p hh ww n : Int} {ks : List (Int × Int × Int × Int)} {i j : Nat} {c : Int × Int × Int × Int} (hi : ks[i]? = some c) (hj : j < 3) : (headB p hh ww n ++ ks.flatMap rowB).getD (6 + 3 * i + j) 0 = (rowB c).getD j 0 := by
  have hl : (headB p hh ww n).length = 6 := rfl
  rw [List.getD_eq_getElem?_getD, List.getD_eq_getElem?_getD, List.getElem?_append_right (by omega), show 6 + 3 * i + j - (headB p hh ww n).length = 3 * i + j by omega, flat_get hi hj]
theorem read_back {p hh ww : Int} {ks : List (Int × Int × Int × Int)} {ns : List Int} (e : ns = headB p hh ww ks.length ++ ks.flatMap rowB) (hk : ∀ c ∈ ks, CompOk c) : payOk ns ∧ ns.getD 0 0 = p ∧ frH ns = hh ∧ frW ns = ww ∧ frK ns = ks := by
  subst e
  refine ⟨?_, rfl, ?_, ?_, ?_⟩
  · unfold payOk
    have h5 : (headB p hh ww ks.length ++ ks.flatMap rowB).getD 5 0 = (ks.length : Int) := rfl
    rw [h5, List.length_append, flat_rowB_len]
    simp only [headB, List.length_cons, List.length_nil]
    omega
  · show hh / 256 * 256 + hh % 256 = hh
    omega
  · show ww / 256 * 256 + ww % 256 = ww
    omega
  · unfold frK
    have h5 : (headB p hh ww ks.length ++ ks.flatMap rowB).getD 5 0 = (ks.length : Int) := rfl
    rw [h5, Int.toNat_natCast]
    unfold recs
    apply List.ext_getElem
    · simp
    · intro i h1 h2
      have hi : ks[i]? = some ks[i] := List.getElem?_eq_getElem h2
      have hc := hk _ (List.mem_of_getElem? hi)
      have g0 := frame_get (p := p) (hh := hh) (ww := ww) (n := ks.length) (j := 0) hi (by omega)
      have g1 := frame_get (p := p) (hh := hh) (ww := ww) (n := ks.length) (j := 1) hi (by omega)
      have g2 := frame_get (p := p) (hh := hh) (ww := ww) (n := ks.length) (j := 2) hi (by omega)
      simp only [rowB, List.getD_cons_zero, List.getD_cons_succ] at g0 g1 g2
      unfold CompOk at hc
      rw [List.getElem_map, List.getElem_range]
      unfold recAt
      rw [show 6 + 3 * i = 6 + 3 * i + 0 from rfl, g0, show 7 + 3 * i = 6 + 3 * i + 1 by omega, g1, show 8 + 3 * i = 6 + 3 * i + 2 by omega, g2]
      rw [show (ks[i].2.1 * 16 + ks[i].2.2.1) / 16 = ks[i].2.1 by omega, show (ks[i].2.1 * 16 + ks[i].2.2.1) % 16 = ks[i].2.2.1 by omega]
noncomputable def rowD (r : Int × Int × Int × Int) : PyData := .tuple [.int r.1, .int r.2.1, .int r.2.2.1, .int r.2.2.2]
noncomputable def frameD (c p hh ww : Int) (ks : List (Int × Int × Int × Int)) : PyData := .tuple [.int c, .int p, .int hh, .int ww, .list (ks.map rowD)]
theorem rowD_lay : ∀ ks : List (Int × Int × Int × Int), PyData.canLayAll0 (ks.map rowD) = true
  | [] => rfl
  | r :: ks => by simp [PyData.canLayAll0, PyData.canLay0, rowD, rowD_lay ks]
theorem rowD_depth : ∀ ks : List (Int × Int × Int × Int), PyData.depthAll (ks.map rowD) ≤ 1
  | [] => by simp [PyData.depthAll]
  | r :: ks => by
    have := rowD_depth ks
    simp only [List.map_cons, PyData.depthAll, rowD, PyData.depth]
    omega
theorem frameD_shaped (c p hh ww : Int) (ks : List (Int × Int × Int × Int)) : SeqAt.shaped (frameD c p hh ww ks) = true := by
  have h1 := rowD_lay ks
  have h2 := rowD_depth ks
  unfold SeqAt.shaped frameD
  rw [Bool.and_eq_true]
  refine ⟨by simp [PyData.canLayAll0, PyData.canLay0, h1], decide_eq_true ?_⟩
  simp only [PyData.depth, PyData.depthAll]
  omega
theorem At2.cons {κ : Type} {R : List (Addr × Obj) → Value → κ → Prop} {news : List (Addr × Obj)} {v : Value} {vs : List Value} {k : κ} {ks : List κ} (h : At2 R news (v :: vs) (k :: ks)) : R news v k ∧ At2 R news vs ks := by
  refine ⟨h.2 0 v k rfl rfl, ?_, fun i v' c' a b => h.2 (i + 1) v' c' (by simpa using a) (by simpa using b)⟩
  have := h.1
  simpa using this
theorem reads_rows {h₀ h : Heap} {L : Addr} {news : List (Addr × Obj)} (N : News h₀ L h news) : ∀ (vs : List Value) (ks : List (Int × Int × Int × Int)), At2 RowAt news vs ks → ∃ as, ReadsAll h vs (ks.map rowD) as
  | [], [], _ => ⟨_, .nil⟩
  | [], _ :: _, x => nomatch x.1
  | _ :: _, [], x => nomatch x.1
  | v :: vs, k :: ks, x => by
    refine hide _ fun hidP hidH => ?_
    obtain ⟨⟨r, t1, t2, t3, t4, rfl, hm⟩, x'⟩ := At2.cons x
    refine hidH ?_
    clear hidH
    obtain ⟨as, ra⟩ := reads_rows N vs ks x'
    exact ⟨_, .cons (reads_tuple_at (N _ hm).1 rfl rfl (.cons (.int _ _) (.cons (.int _ _) (.cons (.int _ _) (.cons (.int _ _) .nil))))) ra⟩
theorem reads_frame {h₀ h : Heap} {L : Addr} {news : List (Addr × Obj)} (N : News h₀ L h news) {v : Value} {c p hh ww : Int} {ks : List (Int × Int × Int × Int)} (hf : FrameRow news v c p hh ww ks) : ∃ as, Reads h v (frameD c p hh ww ks) as := by
  refine hide _ fun hidP hidH => ?_
  obtain ⟨x, l, tc, tp, th, tw, nn, vs, rfl, hx, hl, hr⟩ := hf
  refine hidH ?_
  clear hidH
  obtain ⟨as, ra⟩ := reads_rows N vs ks hr
  exact ⟨_, reads_tuple_at (N _ hx).1 rfl rfl (.cons (.int _ _) (.cons (.int _ _) (.cons (.int _ _) (.cons (.int _ _) (.cons (reads_list_at (N _ hl).1 rfl rfl ra) .nil)))))⟩
section
variable {prog : Program} {w : World} {A : Around} {E : Value → Shared → Prop} {s : Shared} {h₀ : Heap} {L : Addr} {news : List (Addr × Obj)}
theorem eq_frames {Q : Value → Shared → Prop} (N : News h₀ L s.heap news) {vx vy : Value} {c p hh ww : Int} {ks : List (Int × Int × Int × Int)} (hx : FrameRow news vx c p hh ww ks) (hy : FrameRow news vy c p hh ww ks) (hu : A.units + 64 < cLine) (h : Q (.bool true) s) :
    wpAny (model prog w) A (compareOp .Eq vx vy) Q E s := by
  obtain ⟨as, ra⟩ := reads_frame N hx
  obtain ⟨bs, rb⟩ := reads_frame N hy
  refine eq_dataH ra rb (frameD_shaped ..) (frameD_shaped ..) hu ?_
  rw [SeqAt.eqv_refl _ (SeqAt.canLay_of_shaped (frameD_shaped ..))]
  exact h
end
section
variable {w : World} {cs : Scope} {c : Cx w cs} {D : Nat} {sl : Sl} {n : Led} {t : Nat}
/-- a function of the top called in a comprehension -/
theorem ccall_t (ok : c.Ok D) {env : Env} {scope : Scope} {cl : List (Str × Addr)} {C : Addr} {x : Str} {p1 pos : Pos} {e : PySem.Expr} {r : List PySem.Expr} {v : Value} {k : KV} (hv : gtabF.lookup x = some v) (hk : (compEnvC scope cl C env).scope.kind = .function) (hx : (compEnvC scope cl C env).kindOf x = some .globalImplicit) (hd : (x == ("__debug__" : Str)) = false) (hs : noStar (e :: r) = true)
    (h : Tri c sl n t (spliced (backTo pos (starEach (e :: r) (compEnvC scope cl C env)))) fun vs sl n t => Tri c sl n t (call v vs) k) (hge : env.globals = mainGlobals := by rfl) : Tri c sl n t (eval (.Call (.Name x p1) (e :: r) [] pos) (compEnvC scope cl C env)) k := by
  intro hp H
  have hg := globF_of (w := w) hv
  have pl := plain_args (env := compEnvC scope cl C env) (pos := pos) hs
  have args := Tri.evalArgs_ (f := v) (k := fun vs sl n t => Tri c sl n t (call v vs) k) hs h
  refine Call_ ?_
  refine hide _ fun hidP hidH => ?_
  obtain ⟨b, W, F, N⟩ := id H
  refine hidH ?_
  clear hidH
  refine LCgL.ld_global (s := c.sh hp t) F (ok.X b W) (ok.T b W) hg.1 ?_ hge hk hx hd
  refine callWith_of (P := (K w.params).In) (by rw [pl]; rfl) (keeps_K hg.2) (args.seq ?_ H)
  rintro ⟨ps, kw⟩ sl' n' t' ⟨e, hk⟩ h' H'
  refine hide _ fun hidP hidH => ?_
  obtain ⟨b, W, F', N'⟩ := id H'
  refine hidH ?_
  clear hidH
  cases e
  exact ⟨(ok.X b W).keeps F'.keep, hk h' H'⟩
/-- a built-in type called in a comprehension -/
theorem ccallT_t (ok : c.Ok D) {env : Env} {scope : Scope} {cl : List (Str × Addr)} {C : Addr} {x : Str} {p1 pos : Pos} {e : PySem.Expr} {r : List PySem.Expr} {i : String} {k : KV} (hv : gtabB.lookup x = some (.type i)) (hk : (compEnvC scope cl C env).scope.kind = .function) (hx : (compEnvC scope cl C env).kindOf x = some .globalImplicit) (hd : (x == ("__debug__" : Str)) = false) (hs : noStar (e :: r) = true)
    (h : Tri c sl n t (spliced (backTo pos (starEach (e :: r) (compEnvC scope cl C env)))) fun vs sl n t => Tri c sl n t (call (.type i) vs) k) (hge : env.globals = mainGlobals := by rfl) (hgb : env.builtins = builtinsNs := by rfl) : Tri c sl n t (eval (.Call (.Name x p1) (e :: r) [] pos) (compEnvC scope cl C env)) k := by
  intro hp H
  have hg := globB_of (w := w) hv
  have args := Tri.evalArgs_ (f := .type i) (k := fun vs sl n t => Tri c sl n t (call (.type i) vs) k) hs h
  refine Call_ ?_
  refine hide _ fun hidP hidH => ?_
  obtain ⟨b, W, F, N⟩ := id H
  refine hidH ?_
  clear hidH
  refine LCgL.ld_built (s := c.sh hp t) F (ok.X b W) (ok.T b W) hg.1 hg.2.1 hg.2.2.1 ?_ hge hgb hk hx hd
  refine PyProof.Rows.callWith_type (plain_args hs) (args.seq ?_ H)
  rintro ⟨ps, kw⟩ sl' n' t' ⟨e, hk⟩ h' H'
  cases e
  exact hk h' H'
theorem csub_t {scope : Scope} {cl : List (Str × Addr)} {C : Addr} {oC : Obj} {y : Str} {p1 p2 p3 : Pos} {x : Addr} {vs : List Value} {v : Value} {j m : Nat} {k : KV} (hm : (C, oC) ∈ n) (hv : CompVar oC y (.ref x)) (hk : (compEnvC scope cl C c.env).scope.kind = .function) (hx : (compEnvC scope cl C c.env).kindOf y = some .local) (hd : (y == ("__debug__" : Str)) = false)
    (hx' : (x, tupOf vs) ∈ n) (hj : vs[j]? = some v) (hz : vs.length < 1000) (h : ∀ t, k v sl n t) (hs : ∀ u, subscripted (.Constant (.int (j : Int)) m p2) false (.ref x) (.int (j : Int) u) = operate [.ref x, .int (j : Int) u] (getItem (.ref x) (.int (j : Int) u)) := by intro _; with_unfolding_all rfl)
    (hg : ∀ r, letTemporaryGo (.Name y p1) (.ref x) r = pure () := by intro _; with_unfolding_all rfl) : Tri c sl n t (eval (.Subscript (.Name y p1) (.Constant (.int (j : Int)) m p2) p3) (compEnvC scope cl C c.env)) k := by
  refine Tri.sub_ (cname_t hm hv hk hx hd ?_)
  refine fun hp H => wpAny_Constant_int (s := c.sh hp _) ?_
  exact ⟨hp, _, _, _, rfl, H, itemT_t (j := j) hx' rfl hj hz (h _) (hs _) hg⟩
end
theorem leave_onC {M : Model} {A : Around} {E : Value → Shared → Prop} {s' : Shared} {base g g₂ : Heap} {outer : List Env} {L a e t : Addr} {m : Str → Option Value} {name : Str} {scope : Scope} {cd cls : Value} {cells : List (Str × Addr)} {Q : Unit → Shared → Prop} {news : List (Addr × Obj)} {vs : List Value}
    (R : RaisedS base g₂ (envX name scope L a cd cells :: outer) e cls t vs news s'.heap) (K : Below A base outer g) (F : Fr g L g₂ m) (hsm : g₂.UpToSlots s'.heap)
    (hQ : ∀ h', RaisedS base g outer e cls t vs news h' → g.UpToSlots h' → Q () { s' with heap := h' }) :
    wpAny M (A.deeper (envX name scope L a cd cells)) (leaving (envX name scope L a cd cells) (.ref e)) Q E s' := by
  refine hide _ fun hidP hidH => ?_
  obtain ⟨⟨B, hB, hBG, hl, hfl, hnew⟩, htup⟩ := R
  refine hidH ?_
  clear hidH
  exact wpAny_leaves_onW (Around.frames_deeper K.stack) rfl hfl fun h' x1 x2 =>
    have R : RaisedS base g outer e cls t vs news h' := ⟨⟨B, hB, fun b o q nm => hBG b o (F.keep b o q) (fun hm => by
      rcases frs_mem (env := envX name scope L a cd cells) (outer := outer) rfl hm with z | z
      · rw [z, kts_self F] at q
        cases q
      · exact nm z), fun q hq => ⟨(hl q hq).1, kts_none F.keep (hl q hq).2.1, (hl q hq).2.2⟩, x1, hnew⟩, htup.of_slots x2⟩
    hQ h' R ((Heap.UpToSlots.of_keeps F.keep).trans (hsm.trans x2))
section
variable {w : World} {D : Nat}
/-- a lambda without arguments -/
theorem Cn.ofL {f c' : Addr} {oc : Obj} {vs' : Array Value} {tq : Tok} {news : Led} {R : Value → Led → Prop} {X : Addr → Prop} {name qual : Str} {params : Arguments} {body : PySem.Expr} {scope : Scope} {cl : List (Str × Addr)} {pm ctv : Value}
    (ho : (f, kla_obj name qual params body scope cl pm c' ctv) ∈ news) (hoc : (c', oc) ∈ news) (ho1 : oc.data = .fields vs') (ho2 : vs'[1]? = some (.str qual tq)) (hb : bindArgs (kla_fn name qual params body scope cl pm (.ref c') ctv) ⟨[], []⟩ = pure [])
    (c2 : scope.isCoroutine = false) (c3 : scope.isGenerator = false) (c4 : scope.kind = .function) (c5 : ∀ x ∈ scope.names, x.2 ≠ .cell)
    (run : ∀ (c : Cx w scope) (S : Value → Led → Prop), c.Ok D → c.cl = cl → (∀ p ∈ c.n₀, p ∈ news) → (∀ C, X C → c.ke C) → (∀ v n, R v n → S v n) → ∀ t, Tri c [] news t (eval body c.env) fun v _ n _ => ∃ n', (∀ p ∈ n', p ∈ n) ∧ S v n') : Cn w (D + 1) f [] news R X := by
  intro loose mean mg mb dp un gd cn cs a ccd cl0 outer A₀ base h₀ L m s Q E B F X' N T hk hdp hun hret herr hfl
  refine wpAny_call (kla_code (K := K w.params) B F X' N T rfl rfl hk ho (codeRec_news N hoc ho1 ho2) (Nat.lt_of_le_of_lt (Nat.le_of_lt_succ (Nat.lt_succ_of_lt (Nat.lt_of_le_of_lt (Nat.le_add_right dp (D + 1)) hdp))) (by decide)) hb (fun _ h => nomatch h) ?_ c2 c3 c4 c5)
  intro g L' h₁ FG F' N' B' X'' T'
  have F'' : Fr g L' h₁ (menuOf scope.names []) := by
    have e0 : menuOf scope.names [] = fun _ => none := by
      funext y; unfold menuOf; cases ixOf y scope.names <;> rfl
    rw [e0]; exact F'
  let c : Cx w scope := { loose, mean, mg, mb, dp := dp + 1, un := un + 3, gd, cn := qual, a := f, ccd := .ref c', cl := cl, outer := envX cn cs L a ccd cl0 :: outer, A₀ := ktrTop dp un gd cn cs L a ccd cl0 outer, base, turn := fun b => b = g, L := L', g := s.gens, d := s.drawn, o := s.os, n₀ := news, ke := X, E := fun e s' => wpAny (MM w) ((ktrTop dp un gd cn cs L a ccd cl0 outer).deeper (envX qual scope L' f (.ref c') cl)) (leaving (envX qual scope L' f (.ref c') cl) e) (fun _ s'' => E e s'') (fun e' s'' => E e' s'') s' }
  have ok : c.Ok D := ⟨fun b e => e ▸ B', fun b e => e ▸ X'', fun b e => e ▸ T', c4, by show dp + 1 + D < 500; omega, by show un + 3 + 8 * D < 2000; omega, hfl, by
    intro v s' hz1
    refine hide _ fun hidP hidH => ?_
    obtain ⟨C, e, t, vs', h, tk, b, g₂, m', rfl, rfl, eb, F'', R', U', hx⟩ := hz1
    refine hidH ?_
    clear hidH
    obtain rfl : b = g := eb
    exact leave_onC R' B' F'' U' fun h' R2 U2 => herr C e t vs' h' tk _ hx FG R2 U2, by show PassesOwn _ _ _ _; passes_own⟩
  have key := run c R ok rfl (fun _ hp => hp) (fun _ hx => hx) (fun _ _ h => h) s.toks h₁ ⟨g, rfl, F'', N'⟩
  refine wpAny_mono key ?_ fun _ _ e => e
  intro v s' hz2
  refine hide _ fun hidP hidH => ?_
  obtain ⟨h', sl, n, t, rfl, ⟨b, eb, F'', N''⟩, n', hs', hr⟩ := hz2
  refine hidH ?_
  clear hidH
  obtain rfl : b = g := eb
  exact leaveK_ F'' (fun p hp => N'' p (hs' p hp)) fun F3 N3 => hret _ _ _ _ hr F3 N3
end
section
variable {M : Model} {A : Around} {E : Value → Shared → Prop} {s : Shared} {h₀ : Heap} {L a c P : Addr} {m mg mb : Str → Option Value} {cn : Str} {cs : Scope} {ccd : Value} {cl : List (Str × Addr)} {pre post TT : List (Addr × Obj)}
  {p : Program} {loose : List Str} {mean : ExcName → Option Value} {params : Arguments} {body : PySem.Expr} {scope : Scope} {ps : Array Value} {pos : Pos} {clos : List (Str × Addr)}
theorem lam_eval2 {Q : Value → Shared → Prop} (F : Fr h₀ L s.heap m) (N : News h₀ L s.heap (pre ++ (P, tabObj ps) :: post)) (T : Top p loose mean mg mb h₀) (C : CodeHd h₀ c P) (hcd : ccd = .ref c) (hkP : ∀ p ∈ pre ++ post, p.1 ≠ P)
    (hTT : ∀ p ∈ TT, p ∈ post) (ht : Tab pos.line pos.col ((cn ++ ".<locals>." ++ "<lambda>" : Str)) ps TT) (hdef : defaultsOf params (envX cn cs L a ccd cl) = ([], []))
    (hcl : closureFor scope (envX cn cs L a ccd cl) = pure clos)
    (h : ∀ f c' oc vs t ctv ps' h' tk, Fr h₀ L h' m →
      News h₀ L h' ((f, kla_obj "<lambda>" (cn ++ ".<locals>." ++ "<lambda>" : Str) params body scope clos ((mg "__name__").getD .none) c' ctv) :: (c', oc) :: (P, tabObj ps') :: (pre ++ post)) →
      oc.data = .fields vs → vs[1]? = some (.str (cn ++ ".<locals>." ++ "<lambda>" : Str) t) → Tab pos.line pos.col (cn ++ ".<locals>." ++ "<lambda>" : Str) ps' [(c', oc)] → @Ne Nat c' P → ((∀ q ∈ pre ++ post, q.1 < c') ∨ (c', oc) ∈ TT) → (∀ q ∈ (c', oc) :: (P, tabObj ps') :: (pre ++ post), q.1 < f) → Q (.ref f) { s with heap := h', toks := tk }) :
    wpAny M A (eval (.Lambda params body scope pos) (envX cn cs L a ccd cl)) Q E s :=
  lam_eval F N T C hcd (List.mem_append_right _ (.head _)) (fun q hq => by
    rcases List.mem_append.mp hq with h | h
    · exact List.mem_append_left _ h
    · exact List.mem_append_right _ (.tail _ h)) hkP (fun q hq => List.mem_append_right _ (hTT q hq)) ht hdef hcl h
end
theorem off1_mem {Dl : Addr} : ∀ {l : Led}, LCg.Off1 Dl l → ∀ p ∈ l, p.1 ≠ Dl
  | [], _, _, h => nomatch h
  | _ :: _, x, p, h => (List.mem_cons.mp h).elim (fun e => e ▸ x.1) fun h => off1_mem x.2 p h
section
variable {w : World} {cs : Scope} {c : Cx w cs} {D : Nat} {sl : Sl} {n : Led} {t : Nat}
theorem of_tr (ok : c.Ok D) {e : PySem.Expr} {re : RE} {k : KV} (h : tr cs 12 e = re) (hv : vcE c re sl n t k) : Tri c sl n t (eval e c.env) k := by
  subst h; exact vc_ok ok 12 e sl n t k hv
/-- things put ahead of all that was -/
noncomputable def AddTurn (sl : Sl) (m : Led) (O : Led → Value → Prop) (y : Value) (sl' : Sl) (n' : Led) (t' : Nat) : Prop := sl' = sl ∧ ∃ add, n' = add ++ m ∧ (∀ p ∈ add, ∀ q ∈ m, q.1 < p.1) ∧ O add y
/-- a comprehension over a list, each turn of which puts things ahead; some entries are held apart -/
theorem comp_add_t (one : c.One) {κ : Type} {R O : Led → Value → κ → Prop} {pre rest : Led} {ks : List κ} {elt : PySem.Expr} {x : Str} {scope : Scope} {cl : List (Str × Addr)} {l : Addr} {vs : List Value} {nn : Nat} {k : KV} (hn : n = pre ++ rest) (hc : At2 R rest vs ks) (mR : Mono R) (mO : Mono O) (hm : (l, listOf vs.toArray nn) ∈ rest) (hz : vs.length < 1000) (ap : ∀ p ∈ rest, ∀ q ∈ pre, p.1 ≠ q.1)
    (turn : ∀ q v I oI C oC Dl oD n' t, R n' v q → CompVar oC x v →
      Tri c.calm sl ((I, oI) :: (C, oC) :: (Dl, oD) :: n') t (eval elt (compEnvC scope cl C c.env)) (AddTurn sl ((I, oI) :: (C, oC) :: (Dl, oD) :: n') fun add y => O add y q))
    (fin : ∀ ys rest' Dl t, At2 O rest' ys ks → (∀ p ∈ rest, p ∈ rest') → (∀ p ∈ rest', ∀ q ∈ pre, p.1 ≠ q.1) → (∀ p ∈ pre ++ rest', p.1 ≠ Dl) → k (.ref Dl) sl ((Dl, LCg.lst ys) :: (pre ++ rest')) t) : CompT c elt x scope cl sl k (.ref l) sl n t := by
  subst hn
  have hlen : vs.length = ks.length := hc.1
  refine comp_list_t one (fun i ys n' => ∃ rest', n' = pre ++ rest' ∧ At2 O rest' ys (ks.take i) ∧ (∀ p ∈ rest, p ∈ rest') ∧ ∀ p ∈ rest', ∀ q ∈ pre, p.1 ≠ q.1) (List.mem_append_right _ hm) hz ?_ ⟨rest, rfl, by simpa using At2.nil, fun _ h => h, ap⟩ ?_ ?_
  · intro i ys n' hz1
    refine hide _ fun hidP hidH => ?_
    obtain ⟨rest', rfl, _, hs, _⟩ := hz1
    refine hidH ?_
    clear hidH
    exact List.mem_append_right _ (hs _ hm)
  · intro i v I oI C oC Dl ys hz2 t hv hz3 hV off ne
    refine hide _ fun hidP hidH => ?_
    obtain ⟨rest', rfl, hy, hs, ap'⟩ := hz3
    refine hidH ?_
    clear hidH
    obtain ⟨q, hk, hR⟩ := hc.get hv
    refine (turn q v I oI C oC Dl (LCg.lst ys) (pre ++ rest') t (mR _ _ _ _ hR fun p hp => List.mem_append_right _ (hs p hp)) hV).mono ?_
    intro y sl' n2 t' hz4
    refine hide _ fun hidP hidH => ?_
    obtain ⟨e, add, rfl, hlt, hO⟩ := hz4
    refine hidH ?_
    clear hidH
    have e2 : ks.take (i + 1) = ks.take i ++ [q] := by rw [List.take_add_one, hk]; rfl
    refine ⟨e, pre ++ (add ++ rest'), ?_, LCg.Off3.of ?_, add ++ rest', rfl, e2 ▸ (hy.mono mO fun p hp => List.mem_append_right _ hp).snoc (mO _ _ _ _ hO fun p hp => List.mem_append_left _ hp), fun p hp => List.mem_append_right _ (hs p hp), ?_⟩
    · refine sub_cons (List.mem_append_right _ (.head _)) (sub_cons (List.mem_append_right _ (.tail _ (.head _))) (sub_cons (List.mem_append_right _ (.tail _ (.tail _ (.head _)))) fun p hp => ?_))
      rcases List.mem_append.mp hp with hp | hp
      · exact List.mem_append_right _ (.tail _ (.tail _ (.tail _ (List.mem_append_left _ hp))))
      · rcases List.mem_append.mp hp with hp | hp
        · exact List.mem_append_left _ hp
        · exact List.mem_append_right _ (.tail _ (.tail _ (.tail _ (List.mem_append_right _ hp))))
    · intro p hp
      rcases List.mem_append.mp hp with hp | hp
      · exact off.mem _ (List.mem_append_left _ hp)
      · rcases List.mem_append.mp hp with hp | hp
        · exact ⟨Nat.ne_of_gt (hlt p hp _ (.head _)), Nat.ne_of_gt (hlt p hp _ (.tail _ (.head _))), Nat.ne_of_gt (hlt p hp _ (.tail _ (.tail _ (.head _))))⟩
        · exact off.mem _ (List.mem_append_right _ hp)
    · intro p hp q hq
      rcases List.mem_append.mp hp with hp | hp
      · exact Nat.ne_of_gt (hlt p hp q (.tail _ (.tail _ (.tail _ (List.mem_append_left _ hq)))))
      · exact ap' p hp q hq
  · intro ys hz5 Dl t hz6 o1
    refine hide _ fun hidP hidH => ?_
    obtain ⟨rest', rfl, hy, hs, ap'⟩ := hz6
    refine hidH ?_
    clear hidH
    rw [hlen, List.take_length] at hy
    exact fin ys rest' Dl t hy hs ap' (off1_mem o1)
/-- a component made of a row -/
theorem head_add (ok : c.Ok D) (hD : Nat.ble 4 D = true) {scope : Scope} {cl : List (Str × Addr)} {y : Str} {p0 p1 p2 p3 p4 q1 q2 q3 q4 r1 r2 r3 r4 pos : Pos} {m1 m2 m3 m4 : Nat} {q : Int × Int × Int × Int} {v : Value} {I C Dl : Addr} {oI oC oD : Obj} (hc : RowAt n v q) (hv : CompVar oC y v)
    (hk : (compEnvC scope cl C c.env).scope.kind = .function) (hx : (compEnvC scope cl C c.env).kindOf y = some .local) (hd : (y == ("__debug__" : Str)) = false) (hx0 : (compEnvC scope cl C c.env).kindOf (Str.ofString "ComponentHead") = some .globalImplicit) :
    Tri c sl ((I, oI) :: (C, oC) :: (Dl, oD) :: n) t (eval (.Call (.Name (Str.ofString "ComponentHead") p0) [.Subscript (.Name y p1) (.Constant (.int 0) m1 q1) r1, .Subscript (.Name y p2) (.Constant (.int 1) m2 q2) r2, .Subscript (.Name y p3) (.Constant (.int 2) m3 q3) r3, .Subscript (.Name y p4) (.Constant (.int 3) m4 q4) r4] [] pos) (compEnvC scope cl C c.env))
      (AddTurn sl ((I, oI) :: (C, oC) :: (Dl, oD) :: n) fun add y => CompAt add y q) := by
  refine hide _ fun hidP hidH => ?_
  obtain ⟨x, t1, t2, t3, t4, rfl, hx'⟩ := hc
  refine hidH ?_
  clear hidH
  have hC : (C, oC) ∈ (I, oI) :: (C, oC) :: (Dl, oD) :: n := .tail _ (.head _)
  have ho := List.Mem.tail (I, oI) (.tail (C, oC) (.tail (Dl, oD) hx'))
  refine ccall_t ok (v := .ref 150) (by kernel_rfl) hk hx0 (by decide) (by rfl) ?_
  refine Tri.args_cons rfl (csub_t (j := 0) (vs := [.int q.1 t1, .int q.2.1 t2, .int q.2.2.1 t3, .int q.2.2.2 t4]) hC hv hk hx hd ho rfl (Nat.le_of_ble_eq_true rfl) fun t => ?_)
  refine Tri.args_cons rfl (csub_t (j := 1) (vs := [.int q.1 t1, .int q.2.1 t2, .int q.2.2.1 t3, .int q.2.2.2 t4]) hC hv hk hx hd ho rfl (Nat.le_of_ble_eq_true rfl) fun t => ?_)
  refine Tri.args_cons rfl (csub_t (j := 2) (vs := [.int q.1 t1, .int q.2.1 t2, .int q.2.2.1 t3, .int q.2.2.2 t4]) hC hv hk hx hd ho rfl (Nat.le_of_ble_eq_true rfl) fun t => ?_)
  refine Tri.args_cons rfl (csub_t (j := 3) (vs := [.int q.1 t1, .int q.2.1 t2, .int q.2.2.1 t3, .int q.2.2.2 t4]) hC hv hk hx hd ho rfl (Nat.le_of_ble_eq_true rfl) fun t => ?_)
  refine fun h H => PyProof.Rows.args_nil ⟨h, sl, _, _, rfl, H, ?_⟩
  refine new_comp ok hD fun X Y h1 h2 h3 h4 u1 u2 u3 u4 t l1 l2 => ?_
  refine ⟨rfl, [(Y, compD h1 h2 h3 h4 u1 u2 u3 u4 _ _ _ _), (X, instObj 150 Y)], rfl, ?_, X, Y, h1, h2, h3, h4, u1, u2, u3, u4, _, _, _, _, _, rfl, .tail _ (.head _), .head _⟩
  intro p hp q hq
  rcases List.mem_cons.mp hp with rfl | hp
  · exact l1 q hq
  · rw [List.mem_singleton.mp hp]; exact Nat.lt_trans (l1 q hq) l2
/-- a lambda made -/
theorem lam_t (ok : c.Ok D) {params : Arguments} {body : PySem.Expr} {scope : Scope} {pos : Pos} {clos : List (Str × Addr)} {P cadr : Addr} {ps : Array Value} {TT post : Led} {qual : Str} {k : KV} (hs : ∀ p ∈ (P, tabObj ps) :: post, p ∈ n) (hq : (c.cn ++ ".<locals>." ++ "<lambda>" : Str) = qual) (hcd : c.ccd = .ref cadr) (hC : codeHdIn (K w.params) cadr P = true) (hP : ∀ p ∈ post, p.1 ≠ P) (hTT : ∀ p ∈ TT, p ∈ post) (ht : Tab pos.line pos.col qual ps TT)
    (hdef : defaultsOf params c.env = ([], [])) (hcl : closureFor scope c.env = pure clos)
    (h : ∀ f c' oc vs tq ctv ps' pm t, oc.data = .fields vs → vs[1]? = some (.str qual tq) → Tab pos.line pos.col qual ps' [(c', oc)] → @Ne Nat c' P → ((∀ q ∈ post, q.1 < c') ∨ (c', oc) ∈ TT) → (∀ q ∈ (c', oc) :: (P, tabObj ps') :: post, q.1 < f) → k (.ref f) sl ((f, kla_obj "<lambda>" qual params body scope clos pm c' ctv) :: (c', oc) :: (P, tabObj ps') :: post) t) : Tri c sl n t (eval (.Lambda params body scope pos) c.env) k := by
  subst hq
  intro hp hz7
  refine hide _ fun hidP hidH => ?_
  obtain ⟨b, W, F, N⟩ := hz7
  refine hidH ?_
  clear hidH
  exact lam_eval2 (s := c.sh hp t) (pre := []) (TT := TT) F (fun p hq => N p (hs p hq)) (ok.T b W) (codeHd_of_K (ok.X b W) hC) hcd hP hTT ht hdef hcl fun f c' oc vs tq ctv ps' h' tk F' N' a1 a2 a3 a4 a6 a5 => ⟨h', sl, _, tk, rfl, ⟨b, W, F', N'⟩, h f c' oc vs tq ctv ps' _ tk a1 a2 a3 a4 a6 a5⟩
end
theorem lamW_c (w : World) (f c' cell : Addr) (oc oce : Obj) (vs' : Array Value) (tq : Tok) (pm ctv : Value) (x d l : Addr) (h1 h2 h3 h4 h5 : Int) (t1 t2 t3 t4 t5 tc tp th tw : Tok) (c p hh ww : Int) (n nn : Nat) (vs : List Value) (ks : List (Int × Int × Int × Int)) (news : List (Addr × Obj)) (hx : (x, instObj 171 d) ∈ news)
    (hd : (d, dictOf [⟨h1, .str (Str.ofString "code") t1, .int c tc⟩, ⟨h2, .str (Str.ofString "precision") t2, .int p tp⟩, ⟨h3, .str (Str.ofString "height") t3, .int hh th⟩, ⟨h4, .str (Str.ofString "width") t4, .int ww tw⟩, ⟨h5, .str (Str.ofString "components") t5, .ref l⟩] n) ∈ news)
    (hl : (l, listOf vs.toArray nn) ∈ news) (hcs : CompsAt news vs ks) (hn : ks.length < 1000)
    (hf : (f, kla_obj "<lambda>" (Str.ofString "_law_frame_right" ++ Str.ofString ".<locals>." ++ Str.ofString "<lambda>") ({ posonlyargs := [], args := [], vararg := none, kwonlyargs := [], kw_defaults := [], kwarg := none, defaults := [] } : Arguments) (PySem.Expr.Call (PySem.Expr.Name (Str.ofString "write_frame") ⟨226, 30, 226, 41⟩) [(PySem.Expr.Name (Str.ofString "head") ⟨226, 42, 226, 46⟩)] [] ⟨226, 30, 226, 47⟩) ({ kind := .function, names := [(Str.ofString "head", .free), (Str.ofString "write_frame", .globalImplicit)], isGenerator := false, isCoroutine := false, more := [] } : Scope) [(Str.ofString "head", cell)] pm c' ctv) ∈ news) (hoc : (c', oc) ∈ news) (ho1 : oc.data = .fields vs') (ho2 : vs'[1]? = some (.str (Str.ofString "_law_frame_right" ++ Str.ofString ".<locals>." ++ Str.ofString "<lambda>") tq))
    (hce : (cell, oce) ∈ news) (hcv : oce.data = .cell (some (.ref x))) :
    Cn w 22 f [] news (fun v n' => (∃ t, v = .bytes (byteArr (frameB p hh ww ks)) t) ∧ n' = news ∧ FrameOk c p hh ww ks) (fun C => C = 44 ∧ ¬ FrameOk c p hh ww ks) := by
  refine Cn.ofL hf hoc ho1 ho2 rfl rfl rfl rfl (by decide) ?_
  intro cx S ok hcl hn' he hr t
  refine of_tr ok (re := .call (.ref 250) (.cons (.raw (.Name (Str.ofString "head") ⟨226, 42, 226, 46⟩)) .nil)) (by kernel_rfl) ?_
  refine free_t ok (a := cell) (by rw [hcl]; rfl) hce hcv rfl (by decide) (by decide) ?_
  exact (write_frame_c w x d l h1 h2 h3 h4 h5 t1 t2 t3 t4 t5 tc tp th tw c p hh ww n nn vs ks news hx hd hl hcs hn).tri ok rfl (by rintro v n' ⟨a, rfl, b⟩ t; exact ⟨n', sub_id, hr _ _ ⟨a, rfl, b⟩⟩) (fun C q => ⟨hn', he C q⟩)
theorem CnT.mono {w : World} {D : Nat} {f : Addr} {vs : List Value} {news : List (Addr × Obj)} {R R' : Value → List (Addr × Obj) → Prop} (h : CnT w D f vs news R) (hR : ∀ v n, R v n → R' v n) : CnT w D f vs news R' := by
  intro loose mean mg mb dp un gd cn cs a ccd cl outer A₀ base h₀ L m s Q E B F X' N T XB TB D' hk hdp hun hret
  exact h _ _ _ _ _ _ _ _ _ _ _ _ _ _ _ _ _ _ _ _ _ B F X' N T XB TB D' hk hdp hun fun v n' h' tk' h₀' r => hret v n' h' tk' h₀' (hR _ _ r)
theorem heardW_c (w : World) (f c' cell : Addr) (oc oce : Obj) (vs' : Array Value) (tq : Tok) (pm ctv : Value) (x d l : Addr) (h1 h2 h3 h4 h5 : Int) (t1 t2 t3 t4 t5 tc tp th tw : Tok) (c p hh ww : Int) (n nn : Nat) (vs : List Value) (ks : List (Int × Int × Int × Int)) (news : List (Addr × Obj)) (hx : (x, instObj 171 d) ∈ news)
    (hd : (d, dictOf [⟨h1, .str (Str.ofString "code") t1, .int c tc⟩, ⟨h2, .str (Str.ofString "precision") t2, .int p tp⟩, ⟨h3, .str (Str.ofString "height") t3, .int hh th⟩, ⟨h4, .str (Str.ofString "width") t4, .int ww tw⟩, ⟨h5, .str (Str.ofString "components") t5, .ref l⟩] n) ∈ news)
    (hl : (l, listOf vs.toArray nn) ∈ news) (hcs : CompsAt news vs ks) (hn : ks.length < 1000)
    (hf : (f, kla_obj "<lambda>" (Str.ofString "_law_frame_right" ++ Str.ofString ".<locals>." ++ Str.ofString "<lambda>") ({ posonlyargs := [], args := [], vararg := none, kwonlyargs := [], kw_defaults := [], kwarg := none, defaults := [] } : Arguments) (PySem.Expr.Call (PySem.Expr.Name (Str.ofString "write_frame") ⟨226, 30, 226, 41⟩) [(PySem.Expr.Name (Str.ofString "head") ⟨226, 42, 226, 46⟩)] [] ⟨226, 30, 226, 47⟩) ({ kind := .function, names := [(Str.ofString "head", .free), (Str.ofString "write_frame", .globalImplicit)], isGenerator := false, isCoroutine := false, more := [] } : Scope) [(Str.ofString "head", cell)] pm c' ctv) ∈ news) (hoc : (c', oc) ∈ news) (ho1 : oc.data = .fields vs') (ho2 : vs'[1]? = some (.str (Str.ofString "_law_frame_right" ++ Str.ofString ".<locals>." ++ Str.ofString "<lambda>") tq))
    (hce : (cell, oce) ∈ news) (hcv : oce.data = .cell (some (.ref x))) :
    CnT w 26 341 [.ref f] news (fun v n' => n' = news ∧ ((FrameOk c p hh ww ks ∧ ∃ t, v = .bytes (byteArr (frameB p hh ww ks)) t) ∨ (¬ FrameOk c p hh ww ks ∧ v = .none))) := by
  refine CnT.mono (heard_c w 22 f _ _ _ _ news _ _ (fun C h => h.1) hf (lamW_c w f c' cell oc oce vs' tq pm ctv x d l h1 h2 h3 h4 h5 t1 t2 t3 t4 t5 tc tp th tw c p hh ww n nn vs ks news hx hd hl hcs hn hf hoc ho1 ho2 hce hcv)) ?_
  rintro v n' (⟨hv, hn', hok⟩ | ⟨hv, hn', C, hC⟩)
  · exact ⟨hn', .inl ⟨hok, hv⟩⟩
  · exact ⟨hn', .inr ⟨hC.2, hv⟩⟩
theorem rowB_of {c : Int × Int × Int × Int} (h : CompOk c) : KBa.In (rowB c) := by
  unfold CompOk at h
  intro n hn
  simp only [rowB, List.mem_cons, List.not_mem_nil, or_false] at hn
  rcases hn with rfl | rfl | rfl <;> omega
theorem any_iff {l : List Int} {lo : Int} {m : Nat} {P : Int → Prop} (h1 : ∀ x ∈ l, P x) (h2 : ∀ k : Fin m, P (lo + (k.val : Int)) → (l.any fun x => x == lo + (k.val : Int)) = true) (h3 : ∀ c, P c → lo ≤ c ∧ c < lo + m) {c : Int} : (l.any fun x => x == c) = true ↔ P c := by
  constructor
  · intro h
    obtain ⟨x, hx, e⟩ := List.any_eq_true.mp h
    exact (eq_of_beq e) ▸ h1 x hx
  · intro h
    obtain ⟨a, b⟩ := h3 c h
    have e : lo + (((c - lo).toNat : Nat) : Int) = c := by omega
    have := h2 ⟨(c - lo).toNat, by omega⟩
    simp only at this
    rw [e] at this
    exact this h
theorem any13 {c : Int} : ([192, 193, 194, 195, 197, 198, 199, 201, 202, 203, 205, 206, 207].any fun x => x == c) = true ↔ (192 ≤ c ∧ c ≤ 207 ∧ c ≠ 196 ∧ c ≠ 200 ∧ c ≠ 204) :=
  any_iff (lo := 192) (m := 16) (P := fun c => 192 ≤ c ∧ c ≤ 207 ∧ c ≠ 196 ∧ c ≠ 200 ∧ c ≠ 204) (by decide) (by decide) fun c h => ⟨h.1, Int.lt_of_le_of_lt h.2.1 (by decide)⟩
theorem any14 {c : Int} : ([1, 2, 3, 4].any fun x => x == c) = true ↔ (1 ≤ c ∧ c ≤ 4) :=
  any_iff (lo := 1) (m := 4) (P := fun c => 1 ≤ c ∧ c ≤ 4) (by decide) (by decide) fun c h => ⟨h.1, Int.lt_of_le_of_lt h.2 (by decide)⟩
theorem any03 {c : Int} : ([0, 1, 2, 3].any fun x => x == c) = true ↔ (0 ≤ c ∧ c ≤ 3) :=
  any_iff (lo := 0) (m := 4) (P := fun c => 0 ≤ c ∧ c ≤ 3) (by decide) (by decide) fun c h => ⟨h.1, Int.lt_of_le_of_lt h.2 (by decide)⟩
theorem lt_k {a : Int} (k : Int) : a < k + 1 ↔ a ≤ k := Int.lt_add_one_iff
theorem mod3 {c : Int} (h : 192 ≤ c) (h' : c ≤ 207) : Int.fmod c 4 = 3 ↔ (c = 195 ∨ c = 199 ∨ c = 203 ∨ c = 207) := by
  have e : 192 + (((c - 192).toNat : Nat) : Int) = c := by omega
  have k : ∀ k : Fin 16, Int.fmod (192 + (k.val : Int)) 4 = 3 ↔ ((192 + (k.val : Int)) = 195 ∨ (192 + (k.val : Int)) = 199 ∨ (192 + (k.val : Int)) = 203 ∨ (192 + (k.val : Int)) = 207) := by decide
  have := k ⟨(c - 192).toNat, by omega⟩
  simp only at this
  rw [e] at this
  exact this
theorem bits_iff {c p : Int} (h : 192 ≤ c) (h' : c ≤ 207) : bitsOk c p ↔ (if Int.fmod c 4 = 3 then 2 ≤ p ∧ p ≤ 16 else p = 8 ∨ (p = 12 ∧ c ≠ 192)) := by
  have e := mod3 h h'
  unfold bitsOk
  by_cases g : c = 195 ∨ c = 199 ∨ c = 203 ∨ c = 207
  · rw [if_pos g, if_pos (e.mpr g)]
    exact and_congr_right fun _ => lt_k 16
  · rw [if_neg g, if_neg fun z => g (e.mp z)]
    exact or_congr_right and_comm
theorem row_iff {r : Int × Int × Int × Int} : RowOk r ↔ CompOk r := by
  unfold RowOk CompOk
  rw [any14, any14, any03]
  exact ⟨fun ⟨⟨a, b⟩, c, d, e⟩ => ⟨a, (lt_k 255).mp b, c.1, c.2, d.1, d.2, e.1, e.2⟩, fun ⟨a, b, c, c', d, d', e, e'⟩ => ⟨⟨a, (lt_k 255).mpr b⟩, ⟨c, c'⟩, ⟨d, d'⟩, e, e'⟩⟩
theorem lets_iff {c p hh ww : Int} {ks : List (Int × Int × Int × Int)} (h1 : 1 ≤ ks.length) (h2 : ks.length < 100) : LetsF c p hh ww ks ↔ FrameOk c p hh ww ks := by
  unfold LetsF FrameOk
  rw [any13]
  exact ⟨fun ⟨a, b, d, e, f, g⟩ => ⟨a, (bits_iff a.1 a.2.1).mp b, ⟨d.1, (lt_k 65535).mp d.2⟩, ⟨e.1, (lt_k 65535).mp e.2⟩, ⟨h1, by omega⟩, fun r hr => row_iff.mp (f r hr), g⟩,
    fun ⟨a, b, d, e, _, f, g⟩ => ⟨a, (bits_iff a.1 a.2.1).mpr b, ⟨d.1, (lt_k 65535).mpr d.2⟩, ⟨e.1, (lt_k 65535).mpr e.2⟩, fun r hr => row_iff.mpr (f r hr), g⟩⟩
theorem headB_in {p hh ww : Int} {n : Nat} (h1 : 0 ≤ p) (h2 : p < 256) (h3 : 0 ≤ hh) (h4 : hh ≤ 65535) (h5 : 0 ≤ ww) (h6 : ww ≤ 65535) (h7 : n < 256) : KBa.In (headB p hh ww n) := by
  intro k hk
  simp only [headB, List.mem_cons, List.not_mem_nil, or_false] at hk
  rcases hk with rfl | rfl | rfl | rfl | rfl | rfl <;> omega
theorem ok_bounds {c p hh ww : Int} {ks : List (Int × Int × Int × Int)} (h : FrameOk c p hh ww ks) : (0 ≤ p ∧ p < 256) ∧ (0 ≤ hh ∧ hh ≤ 65535) ∧ (0 ≤ ww ∧ ww ≤ 65535) ∧ ks.length < 256 ∧ ∀ c ∈ ks, CompOk c := by
  refine hide _ fun hidP hidH => ?_
  obtain ⟨y1, y2, ⟨y3, y3'⟩, ⟨y4, y4'⟩, y5, y6, y7⟩ := h
  refine hidH ?_
  clear hidH
  refine ⟨?_, ⟨y3, y3'⟩, ⟨by omega, y4'⟩, by omega, y6⟩
  split at y2 <;> omega
theorem flat_in {ks : List (Int × Int × Int × Int)} (h : ∀ c ∈ ks, CompOk c) : KBa.In (ks.flatMap rowB) := fun k hk => by
  obtain ⟨c, hc, hk⟩ := List.mem_flatMap.mp hk
  exact rowB_of (h c hc) k hk
section
variable {w : World} {cs : Scope} {c : Cx w cs} {D : Nat} {sl : Sl} {n : Led} {t : Nat}
theorem is_none_t {k : KV} (h : k (.bool true) sl n t) : Tri c sl n t (compareOp .Is .none .none) k :=
  fun hp H => wpAny_is_self rfl ⟨hp, sl, n, t, rfl, H, h⟩
theorem eqF_t (ok : c.Ok D) {vx vy : Value} {a p hh ww : Int} {ks : List (Int × Int × Int × Int)} {k : KV} (hx : FrameRow n vx a p hh ww ks) (hy : FrameRow n vy a p hh ww ks) (h : k (.bool true) sl n t) : Tri c sl n t (compareOp .Eq vx vy) k :=
  fun hp ⟨b, W, F, N⟩ => eq_frames (s := c.sh hp t) N hx hy (by have := ok.hu; have hc := cLine_is; simp only [cLine]; omega) ⟨hp, sl, n, t, rfl, ⟨b, W, F, N⟩, h⟩
theorem row_of_t (ok : c.Ok D) {v : Value} {a p hh ww : Int} {ks : List (Int × Int × Int × Int)} {k : KV} (H : FrameAt n v a p hh ww ks) (hn : ks.length < 1000) (hD : Nat.ble 4 D = true) (h : ∀ y n' t, FrameRow n' (.ref y) a p hh ww ks → (∀ p ∈ n, p ∈ n') → k (.ref y) sl n' t) : Tri c sl n t (call (.ref 372) [v]) k := by
  refine hide _ fun hidP hidH => ?_
  obtain ⟨x, d, l, h1, h2, h3, h4, h5, t1, t2, t3, t4, t5, tc, tp, th, tw, m, nn, vs, rfl, hx, hd, hl, hcs⟩ := H
  refine hidH ?_
  clear hidH
  exact (row_of_c w x d l h1 h2 h3 h4 h5 t1 t2 t3 t4 t5 tc tp th tw a p hh ww m nn vs ks n ⟨hx, hd⟩ hl hcs hn).tri ok hD (by rintro v n' ⟨q1, q2⟩ t; obtain ⟨y, rfl⟩ : ∃ y, v = .ref y := (by obtain ⟨a, _, _, _, _, _, _, _, e, _⟩ := q1; exact ⟨a, e⟩); exact h y n' t q1 q2) fun _ z => z.elim
theorem lets_frame_t (ok : c.Ok D) {v : Value} {a p hh ww : Int} {ks : List (Int × Int × Int × Int)} {k : KV} (H : FrameRow n v a p hh ww ks) (hn : ks.length < 1000) (hD : Nat.ble 8 D = true) (h : ∀ b t, (b = true ↔ LetsF a p hh ww ks) → k (.bool b) sl n t) : Tri c sl n t (call (.ref 367) [v]) k := by
  refine hide _ fun hidP hidH => ?_
  obtain ⟨x, l, tc, tp, th, tw, nn, vs, rfl, hx, hl, hr⟩ := H
  refine hidH ?_
  clear hidH
  exact (lets_frame_c w x l tc tp th tw nn vs a p hh ww ks n hx hl hr hn).tri ok hD (by rintro _ _ ⟨b, rfl, q, rfl⟩ t; exact h b t q) fun _ z => z.elim
/-- a row's octets behind what is there -/
theorem due_turn {f0 f1 f2 f3 f4 f5 f6 : Option Value} {b0 : List Int} {q : Int × Int × Int × Int} {tb t1 t2 t3 t4 : Tok} {kf : KF} (hq : CompOk q) (hl : b0.length < 1000000)
    (h : ∀ tb' n' t, (∀ p ∈ n, p ∈ n') → kf .next [f0, f1, f2, f3, f4, f5, f6, some (.bytes (byteArr (b0 ++ rowB q)) tb'), some (.int q.1 t1), some (.int q.2.1 t2), some (.int q.2.2.1 t3), some (.int q.2.2.2 t4)] n' t) :
    vcS c rs__law_frame_right_5 [f0, f1, f2, f3, f4, f5, f6, some (.bytes (byteArr b0) tb), some (.int q.1 t1), some (.int q.2.1 t2), some (.int q.2.2.1 t3), some (.int q.2.2.2 t4)] n t kf := by
  have e : [q.1, 16 * q.2.1 + q.2.2.1, q.2.2.2] = rowB q := by unfold rowB; rw [Int.mul_comm]
  refine mul_t (mul_l (by decide +kernel)) ⟨Nat.le_of_ble_eq_true rfl, fun l h1 => ?_⟩
  refine bytes_t (ns := [q.1, 16 * q.2.1 + q.2.2.1, q.2.2.2]) (.head _) (.cons _ _ (.cons _ _ (.cons _ _ .nil))) (e ▸ rowB_of hq) (Nat.le_of_ble_eq_true rfl) fun tv t => ?_
  refine addB_t (by simp; omega) fun tv2 t => ?_
  rw [e]
  exact h _ _ _ fun p hp => .tail _ hp
end
noncomputable abbrev frQual : Str := Str.ofString "_law_frame_right" ++ Str.ofString ".<locals>." ++ Str.ofString "<lambda>"
noncomputable def FRPost (news : Led) (v : Value) (n' : Led) : Prop := v = .bool true ∧ ∃ ps' news', n' = (374, tabObj ps') :: news' ∧ (∀ p ∈ news', p.1 ≠ 374) ∧ Tab 226 22 frQual ps' news' ∧ ∀ p ∈ news, p ∈ news'
theorem fr_done {n post news : Led} {ps' : Array Value} {c' : Addr} {oc : Obj} {S : Value → Led → Prop} (hr : ∀ v n, FRPost news v n → S v n) (hn : ∀ p ∈ (c', oc) :: (374, tabObj ps') :: post, p ∈ n) (ht : Tab 226 22 frQual ps' [(c', oc)]) (hc : @Ne Nat c' 374) (ho : ∀ p ∈ post, p.1 ≠ 374) (hs : ∀ p ∈ news, p ∈ post) :
    ∃ n', (∀ p ∈ n', p ∈ n) ∧ S (.bool true) n' :=
  ⟨(374, tabObj ps') :: (c', oc) :: post, sub_cons (hn _ (.tail _ (.head _))) (sub_cons (hn _ (.head _)) fun p hp => hn _ (.tail _ (.tail _ hp))), hr _ _ ⟨rfl, ps', _, rfl, off_cons hc ho, ht.mono fun p hp => (List.mem_singleton.mp hp) ▸ .head _, fun p hp => .tail _ (hs p hp)⟩⟩
theorem due_len {p hh ww m : Int} {ks : List (Int × Int × Int × Int)} {i : Nat} (h : ks.length < 100) : (headB p hh ww m ++ (ks.take i).flatMap rowB).length < 1000000 := by
  have e := flat_rowB_len (ks := ks.take i)
  have e' : (ks.take i).length ≤ ks.length := by rw [List.length_take]; exact Nat.min_le_right _ _
  simp only [List.length_append, e, headB, List.length_cons, List.length_nil]
  omega
theorem frameAt_cast {n : Led} {v : Value} {c p hh ww p' h' w' : Int} {ks ks' : List (Int × Int × Int × Int)} (H : FrameAt n v c p' h' w' ks') (e1 : p' = p) (e2 : h' = hh) (e3 : w' = ww) (e4 : ks' = ks) : FrameAt n v c p hh ww ks := by
  subst e1 e2 e3 e4; exact H
theorem frameOk_cast {c p hh ww p' h' w' : Int} {ks ks' : List (Int × Int × Int × Int)} (H : FrameOk c p hh ww ks) (e1 : p' = p) (e2 : h' = hh) (e3 : w' = ww) (e4 : ks' = ks) : FrameOk c p' h' w' ks' := by
  subst e1 e2 e3 e4; exact H
theorem frame_right_c (w : World) (x l : Addr) (tc tp th tw : Tok) (nn : Nat) (vs : List Value) (c p hh ww : Int) (ks : List (Int × Int × Int × Int)) (ps : Array Value) (news : Led) (hx : (x, tup [.int c tc, .int p tp, .int hh th, .int ww tw, .ref l]) ∈ news) (hl : (l, listOf vs.toArray nn) ∈ news) (hcs : RowsAt news vs ks) (hn1 : 1 ≤ ks.length) (hn : ks.length < 100) (hoff : ∀ p ∈ news, p.1 ≠ 374)
    (ht : Tab 226 22 frQual ps news) :
    CnT w 40 377 [.ref x] ((374, tabObj ps) :: news) (fun v n' => v = .bool true ∧ ∃ ps' news', n' = (374, tabObj ps') :: news' ∧ (∀ p ∈ news', p.1 ≠ 374) ∧ Tab 226 22 frQual ps' news' ∧ ∀ p ∈ news, p ∈ news') := by
  have hfill := fill_ w
  revert hfill
  k_fill
  intro _
  refine' CnT.of1 (x := Str.ofString "frame") (sl₀ := [some (.ref x), none, none, none, none, none, none, none, none, none, none, none]) ?hf ?hc ?hb ?hs ?c2 ?c3 ?c4 ?hnd ?_
  case hf => k_is
  case hc => k_is
  case hb => exact fun s => BindsTo.of_eq rfl
  case hs => exact .inl ⟨rfl, 0, 12, by kernel_rfl, rfl⟩
  case c2 => exact rfl
  case c3 => exact rfl
  case c4 => exact rfl
  case hnd => decide +kernel
  intro cx S cells ok okT hcn hcd hcl Y hlt hr t
  obtain ⟨oA, rfl, hoA⟩ := CellsAre.one Y
  have hlen : vs.length = ks.length := hcs.1
  have hFR : FrameRow news (.ref x) c p hh ww ks := ⟨x, l, tc, tp, th, tw, nn, vs, rfl, hx, hl, hcs⟩
  have ap : ∀ p ∈ news, ∀ q ∈ [(cx.L + 1, oA), (374, tabObj ps)], p.1 ≠ q.1 := by
    intro p hp q hq
    rcases List.mem_cons.mp hq with rfl | hq
    · exact Nat.ne_of_lt (Nat.lt_succ_of_lt (hlt p (.tail _ hp)))
    · rw [List.mem_singleton.mp hq]; exact hoff p hp
  have a374 : @Ne Nat 374 (cx.L + 1) := Nat.ne_of_lt (Nat.lt_succ_of_lt (hlt _ (.head _)))
  refine vc_go (f := 40) (rs := rs__law_frame_right) ok (by kernel_rfl) (by kernel_rfl) ?_
  refine unpack_t ok (xs := [(Str.ofString "code", _), (Str.ofString "precision", _), (Str.ofString "height", _), (Str.ofString "width", _), (Str.ofString "rows", _)]) (rv := .loc 0) (by kernel_rfl) rfl (by with_unfolding_all rfl) (by with_unfolding_all rfl) ?_
  refine ⟨x, _, rfl, .tail _ (.tail _ hx), rfl, storeL_one (i := 1) (by kernel_rfl) (storeL_one (i := 2) (by kernel_rfl) (storeL_one (i := 3) (by kernel_rfl) (storeL_one (i := 4) (by kernel_rfl) (storeL_one (i := 5) (by kernel_rfl) ?_))))⟩
  refine asgc_t ok (rv := .call (.ref 171) (.cons (.loc 1) (.cons (.loc 2) (.cons (.loc 3) (.cons (.loc 4) (.cons (.raw _) .nil)))))) (by with_unfolding_all rfl) rfl ?_
  refine Tri.held fun b hb => ?_
  refine comp_t (ok.hold hb) Cx.one_hold (re := .loc 5) (by with_unfolding_all rfl) (by decide) rfl (by decide) rfl (fun _ => rfl) (by kernel_rfl) ?_
  refine comp_add_t Cx.one_hold (R := RowAt) (O := CompAt) (pre := [(cx.L + 1, oA), (374, tabObj ps)]) (rest := news) (ks := ks) rfl hcs (fun _ _ _ _ a b => a.mono b) (fun _ _ _ _ a b => a.mono b) hl (by omega) ap ?_ ?_
  · intro q v I oI C oC Dl oD n' t hR hv
    exact head_add (ok.hold hb).calm rfl hR hv rfl rfl (by decide) rfl
  intro ys rest' Dl t hR hs ap' hDl
  refine new_frame ok rfl fun x9 d9 h1 h2 h3 h4 h5 t1 t2 t3 t4 t5 t l1 l2 => ?_
  have q0 : cx.L + 1 < d9 := l1 _ (.tail _ (.head _))
  have q1 : 374 < d9 := l1 _ (.tail _ (.tail _ (.head _)))
  have q2 : Dl < d9 := l1 _ (.head _)
  have oa : ∀ e ∈ (d9, frameDict h1 h2 h3 h4 h5 t1 t2 t3 t4 t5 (.int c tc) (.int p tp) (.int hh th) (.int ww tw) (.ref Dl)) :: (x9, instObj 171 d9) :: (Dl, LCg.lst ys) :: rest', e.1 ≠ cx.L + 1 :=
    off_cons (Nat.ne_of_gt q0) (off_cons (Nat.ne_of_gt (Nat.lt_trans q0 l2)) (off_cons (Ne.symm (hDl _ (.head _))) fun p hp => ap' p hp _ (.head _)))
  have ob : ∀ e ∈ (d9, frameDict h1 h2 h3 h4 h5 t1 t2 t3 t4 t5 (.int c tc) (.int p tp) (.int hh th) (.int ww tw) (.ref Dl)) :: (x9, instObj 171 d9) :: (Dl, LCg.lst ys) :: rest', e.1 ≠ 374 :=
    off_cons (Nat.ne_of_gt q1) (off_cons (Nat.ne_of_gt (Nat.lt_trans q1 l2)) (off_cons (Ne.symm (hDl _ (.tail _ (.head _)))) fun p hp => ap' p hp _ (.tail _ (.head _))))
  refine AsgC.head (a := cx.L + 1) (o := oA) (r := (374, tabObj ps) :: (d9, frameDict h1 h2 h3 h4 h5 t1 t2 t3 t4 t5 (.int c tc) (.int p tp) (.int hh th) (.int ww tw) (.ref Dl)) :: (x9, instObj 171 d9) :: (Dl, LCg.lst ys) :: rest')
    (sub_cons (.tail _ (.tail _ (.tail _ (.head _)))) (sub_cons (.tail _ (.tail _ (.tail _ (.tail _ (.head _))))) (sub_cons (.head _) (sub_cons (.tail _ (.head _)) (sub_cons (.tail _ (.tail _ (.head _))) fun p hp => .tail _ (.tail _ (.tail _ (.tail _ (.tail _ hp)))))))))
    (by rw [hcl]; rfl) rfl hoA (off_cons a374 oa) fun oB hoB => ?_
  refine lam_t ok (qual := frQual) (P := 374) (ps := ps) (TT := news) (post := (cx.L + 1, oB) :: (d9, frameDict h1 h2 h3 h4 h5 t1 t2 t3 t4 t5 (.int c tc) (.int p tp) (.int hh th) (.int ww tw) (.ref Dl)) :: (x9, instObj 171 d9) :: (Dl, LCg.lst ys) :: rest')
    (clos := [(Str.ofString "head", cx.L + 1)]) (sub_cons (.tail _ (.head _)) (sub_cons (.head _) fun p hp => .tail _ (.tail _ hp))) (by rw [hcn]) hcd (by kernel_rfl) (off_cons (Ne.symm a374) ob) (fun p hp => .tail _ (.tail _ (.tail _ (.tail _ (hs p hp))))) ht rfl (by show closureFor _ (envX _ _ _ _ _ cx.cl) = _; rw [hcl]; rfl) ?_
  intro f c' oc vs' tq ctv ps' pm t a1 a2 a3 a4 _ a5
  have hcs' : CompsAt rest' ys ks := hR
  refine CnT.tri (heardW_c w f c' (cx.L + 1) oc oB vs' tq pm ctv x9 d9 Dl h1 h2 h3 h4 h5 t1 t2 t3 t4 t5 tc tp th tw c p hh ww 5 ys.length ys ks _ (.tail _ (.tail _ (.tail _ (.tail _ (.tail _ (.head _)))))) (.tail _ (.tail _ (.tail _ (.tail _ (.head _))))) (.tail _ (.tail _ (.tail _ (.tail _ (.tail _ (.tail _ (.head _)))))))
    (hcs'.mono fun e he => .tail _ (.tail _ (.tail _ (.tail _ (.tail _ (.tail _ (.tail _ he))))))) (by omega) (.head _) (.tail _ (.head _)) a1 a2 (.tail _ (.tail _ (.tail _ (.head _)))) hoB) ok okT rfl ?_
  rintro v n' ⟨hn', hv⟩ t
  have hsub : ∀ e ∈ (c', oc) :: (374, tabObj ps') :: rest', e ∈ n' := hn' ▸ sub_cons (.tail _ (.head _)) (sub_cons (.tail _ (.tail _ (.head _))) fun e he => .tail _ (.tail _ (.tail _ (.tail _ (.tail _ (.tail _ (.tail _ he)))))))
  have hnews : ∀ e ∈ news, e ∈ n' := fun e he => hsub _ (.tail _ (.tail _ (hs e he)))
  have done : ∀ n'', (∀ e ∈ n', e ∈ n'') → ∃ n', (∀ p ∈ n', p ∈ n'') ∧ S (.bool true) n' := fun n'' h => fr_done (post := rest') (news := news) hr (fun e he => h e (hsub e he)) a3 a4 (fun e he => ap' e he _ (.tail _ (.head _))) hs
  have hB := lets_iff (c := c) (p := p) (hh := hh) (ww := ww) hn1 hn
  refine lets_frame_t ok (hFR.mono hnews) (by omega) rfl fun b t hb => ⟨fun e => ?_, fun e => ?_⟩
  · rcases hv with ⟨hok, tv, rfl⟩ | ⟨hno, rfl⟩
    · exact absurd (hb.mpr (hB.mpr hok)) (by rw [not_t e]; decide)
    · exact is_none_t (done _ sub_id)
  rcases hv with ⟨hok, tv, rfl⟩ | ⟨hno, rfl⟩
  rotate_left
  · exact absurd (hB.mp (hb.mp (not_f e))) hno
  refine hide _ fun hidP hidH => ?_
  obtain ⟨b1, b2, b3, b4, b5⟩ := ok_bounds hok
  refine hidH ?_
  clear hidH
  refine div_t (by decide) fun u1 t => mod_t (by decide) fun u2 t => div_t (by decide) fun u3 t => mod_t (by decide) fun u4 t => ?_
  refine len_t (hnews _ hl) (by omega) fun u5 t => ⟨Nat.le_of_ble_eq_true rfl, fun lb hlb => ?_⟩
  have hI := headB_in (n := vs.length) b1.1 b1.2 b2.1 b2.2 b3.1 b3.2 (by omega)
  refine bytes_t (ns := headB p hh ww vs.length) (.head _) (.cons _ _ (.cons _ _ (.cons _ _ (.cons _ _ (.cons _ _ (.cons _ _ .nil)))))) hI (Nat.le_of_ble_eq_true rfl) fun u6 t => ?_
  refine Tri.held fun b hb => forU_t (ok.hold hb) Cx.one_hold (re := .loc 5) (by kernel_rfl) (fun _ => rfl) ?_
  refine iter_tup_t Cx.one_hold (fun i sl n => (∃ a b d q tb, sl = [some (.ref x), some (.int c tc), some (.int p tp), some (.int hh th), some (.int ww tw), some (.ref l), some (.bytes (byteArr (frameB p hh ww ks)) tv), some (.bytes (byteArr (headB p hh ww vs.length ++ (ks.take i).flatMap rowB)) tb), a, b, d, q]) ∧ ∃ o, n = (lb, o) :: n') (ok.hold hb)
    (xs := [(Str.ofString "ident", _), (Str.ofString "across", _), (Str.ofString "down", _), (Str.ofString "quant", _)]) rfl (.tail _ (hnews _ hl)) ⟨⟨none, none, none, none, u6, rfl⟩, _, rfl⟩ (fun i sl n h => by obtain ⟨_, o, rfl⟩ := h; exact .tail _ (hnews _ hl)) ?_ ?_
  · intro i v sl n I oI t hv hz1 hI
    refine hide _ fun hidP hidH => ?_
    obtain ⟨⟨a, b, d, q, tb, rfl⟩, o, rfl⟩ := hz1
    refine hidH ?_
    clear hidH
    refine hide _ fun hidP hidH => ?_
    obtain ⟨r, hk, y, t1, t2, t3, t4, rfl, hy⟩ := hcs.get hv
    refine hidH ?_
    clear hidH
    refine ⟨y, _, rfl, .tail _ (hnews _ hy), rfl, storeL_one (i := 8) (by kernel_rfl) (storeL_one (i := 9) (by kernel_rfl) (storeL_one (i := 10) (by kernel_rfl) (storeL_one (i := 11) (by kernel_rfl) ?_)))⟩
    refine vc_go (f := 40) (rs := rs__law_frame_right_5) (ok.hold ‹_›) (by kernel_rfl) (by kernel_rfl) ?_
    refine due_turn (b5 _ (List.mem_of_getElem? hk)) (due_len hn) fun tb' n2 t hs2 => ?_
    exact ⟨hs2 _ (.head _), _, fun e he => hs2 _ (.tail _ he), hI, ⟨_, _, _, _, tb', by rw [flat_take_succ hk, ← List.append_assoc]⟩, o, rfl⟩
  intro sl n t hz2
  refine hide _ fun hidP hidH => ?_
  obtain ⟨⟨a, b, d, q, tb, rfl⟩, o, rfl⟩ := hz2
  refine hidH ?_
  clear hidH
  rw [hlen, List.take_length]
  have hrb := read_back (ns := headB p hh ww ks.length ++ ks.flatMap rowB) rfl b5
  have hJ : KBa.In (headB p hh ww ks.length ++ ks.flatMap rowB) := in_app (hlen ▸ hI) (flat_in b5)
  refine eqB_t (frameB_eq ▸ hJ) hJ ⟨fun _ => ?_, fun e => absurd frameB_eq (of_decide_eq_false e)⟩
  refine (read_frame_c w c tc tb (headB p hh ww ks.length ++ ks.flatMap rowB) _ hJ (by rw [List.length_append, flat_rowB_len]; simp only [headB, List.length_cons, List.length_nil]; omega)).tri ok rfl ?_ (fun C z => absurd ⟨hrb.1, frameOk_cast hok hrb.2.1 hrb.2.2.1 hrb.2.2.2.1 hrb.2.2.2.2⟩ z.2)
  rintro v2 n2 ⟨_, g2, g3⟩ t
  refine row_of_t ok (frameAt_cast g3 hrb.2.1 hrb.2.2.1 hrb.2.2.2.1 hrb.2.2.2.2) (by omega) rfl fun v3 n3 t g4 g5 => ?_
  exact eqF_t ok g4 (hFR.mono fun e he => g5 _ (g2 _ (.tail _ (hnews _ he)))) (done _ fun e he => g5 _ (g2 _ (.tail _ he)))
theorem lamO_c (w : World) (f c' cc co : Addr) (oc occ oco : Obj) (vs' : Array Value) (tq : Tok) (pm ctv : Value) (c : Int) (tc tp : Tok) (ns : List Int) (news : List (Addr × Obj)) (hin : KBa.In ns) (hl : ns.length < 10000)
    (hf : (f, kla_obj "<lambda>" (Str.ofString "_law_octets_right" ++ Str.ofString ".<locals>." ++ Str.ofString "<lambda>") ({ posonlyargs := [], args := [], vararg := none, kwonlyargs := [], kw_defaults := [], kwarg := none, defaults := [] } : Arguments) (PySem.Expr.Call (PySem.Expr.Name (Str.ofString "read_frame") ⟨241, 30, 241, 40⟩) [(PySem.Expr.Name (Str.ofString "code") ⟨241, 41, 241, 45⟩), (PySem.Expr.Name (Str.ofString "octets") ⟨241, 47, 241, 53⟩)] [] ⟨241, 30, 241, 54⟩) ({ kind := .function, names := [(Str.ofString "code", .free), (Str.ofString "octets", .free), (Str.ofString "read_frame", .globalImplicit)], isGenerator := false, isCoroutine := false, more := [] } : Scope) [(Str.ofString "octets", co), (Str.ofString "code", cc)] pm c' ctv) ∈ news) (hoc : (c', oc) ∈ news) (ho1 : oc.data = .fields vs') (ho2 : vs'[1]? = some (.str (Str.ofString "_law_octets_right" ++ Str.ofString ".<locals>." ++ Str.ofString "<lambda>") tq))
    (hc1 : (cc, occ) ∈ news) (hv1 : occ.data = .cell (some (.int c tc))) (hc2 : (co, oco) ∈ news) (hv2 : oco.data = .cell (some (.bytes (byteArr ns) tp))) :
    Cn w 24 f [] news (fun v n' => (payOk ns ∧ FrameOk c (ns.getD 0 0) (frH ns) (frW ns) (frK ns)) ∧ (∀ p ∈ news, p ∈ n') ∧ FrameAt n' v c (ns.getD 0 0) (frH ns) (frW ns) (frK ns)) (fun C => C = 44 ∧ ¬ (payOk ns ∧ FrameOk c (ns.getD 0 0) (frH ns) (frW ns) (frK ns))) := by
  refine Cn.ofL hf hoc ho1 ho2 rfl rfl rfl rfl (by decide) ?_
  intro cx S ok hcl hn' he hr t
  refine of_tr ok (re := .call (.ref 243) (.cons (.raw (.Name (Str.ofString "code") ⟨241, 41, 241, 45⟩)) (.cons (.raw (.Name (Str.ofString "octets") ⟨241, 47, 241, 53⟩)) .nil))) (by kernel_rfl) ?_
  refine free_t ok (a := cc) (by rw [hcl]; rfl) hc1 hv1 rfl (by decide) (by decide) ?_
  refine free_t ok (a := co) (by rw [hcl]; rfl) hc2 hv2 rfl (by decide) (by decide) ?_
  exact (read_frame_c w c tc tp ns news hin hl).tri ok rfl (fun v n' q t => ⟨n', sub_id, hr _ _ q⟩) (fun C q => ⟨hn', he C q⟩)
theorem heardO_c (w : World) (f c' cc co : Addr) (oc occ oco : Obj) (vs' : Array Value) (tq : Tok) (pm ctv : Value) (c : Int) (tc tp : Tok) (ns : List Int) (news : List (Addr × Obj)) (hin : KBa.In ns) (hl : ns.length < 10000)
    (hf : (f, kla_obj "<lambda>" (Str.ofString "_law_octets_right" ++ Str.ofString ".<locals>." ++ Str.ofString "<lambda>") ({ posonlyargs := [], args := [], vararg := none, kwonlyargs := [], kw_defaults := [], kwarg := none, defaults := [] } : Arguments) (PySem.Expr.Call (PySem.Expr.Name (Str.ofString "read_frame") ⟨241, 30, 241, 40⟩) [(PySem.Expr.Name (Str.ofString "code") ⟨241, 41, 241, 45⟩), (PySem.Expr.Name (Str.ofString "octets") ⟨241, 47, 241, 53⟩)] [] ⟨241, 30, 241, 54⟩) ({ kind := .function, names := [(Str.ofString "code", .free), (Str.ofString "octets", .free), (Str.ofString "read_frame", .globalImplicit)], isGenerator := false, isCoroutine := false, more := [] } : Scope) [(Str.ofString "octets", co), (Str.ofString "code", cc)] pm c' ctv) ∈ news) (hoc : (c', oc) ∈ news) (ho1 : oc.data = .fields vs') (ho2 : vs'[1]? = some (.str (Str.ofString "_law_octets_right" ++ Str.ofString ".<locals>." ++ Str.ofString "<lambda>") tq))
    (hc1 : (cc, occ) ∈ news) (hv1 : occ.data = .cell (some (.int c tc))) (hc2 : (co, oco) ∈ news) (hv2 : oco.data = .cell (some (.bytes (byteArr ns) tp))) :
    CnT w 28 341 [.ref f] news (fun v n' => ((payOk ns ∧ FrameOk c (ns.getD 0 0) (frH ns) (frW ns) (frK ns)) ∧ (∀ p ∈ news, p ∈ n') ∧ FrameAt n' v c (ns.getD 0 0) (frH ns) (frW ns) (frK ns)) ∨ (¬ (payOk ns ∧ FrameOk c (ns.getD 0 0) (frH ns) (frW ns) (frK ns)) ∧ v = .none ∧ n' = news)) := by
  refine CnT.mono (heard_c w 24 f _ _ _ _ news _ _ (fun C h => h.1) hf (lamO_c w f c' cc co oc occ oco vs' tq pm ctv c tc tp ns news hin hl hf hoc ho1 ho2 hc1 hv1 hc2 hv2)) ?_
  rintro v n' (h | ⟨hv, hn', C, hC⟩)
  · exact .inl h
  · exact .inr ⟨hC.2, hv, hn'⟩
section
variable {w : World} {cs : Scope} {c : Cx w cs} {D : Nat} {sl : Sl} {n : Led} {t : Nat}
theorem Well.asgc {wl : Addr} {nn : Nat} {x : Str} {v : Value} {a : Addr} {o : Obj} {v₀ : Option Value} {r : Led} {k : Led → Prop} (H : Well wl nn n ((a, o) :: r)) (hc : c.cl.lookup x = some a) (hx : cs.names.lookup x = some .cell) (hd : o.data = .cell v₀) (ho : ∀ p ∈ r, p.1 ≠ a) (h : ∀ o' n', o'.data = .cell (some v) → Well wl nn n' ((a, o') :: r) → k n') : AsgC c x v n k := by
  refine hide _ fun hidP hidH => ?_
  obtain ⟨wa, wb, ta, tb, h1, h2⟩ := H
  refine hidH ?_
  clear hidH
  have hw : @Ne Nat wl a := Ne.symm (h2 _ (.head _))
  exact AsgC.head (r := (wl, listOf #[.int wa ta, .int wb tb] nn) :: r) (sub_cons (h1 _ (.tail _ (.head _))) (sub_cons (h1 _ (.head _)) fun p hp => h1 p (.tail _ (.tail _ hp)))) hc hx hd (off_cons hw ho) fun o' ho' => h o' _ ho' ⟨wa, wb, ta, tb, sub_cons (.tail _ (.head _)) (sub_cons (.head _) fun p hp => .tail _ (.tail _ hp)), off_cons (Ne.symm hw) fun p hp => h2 p (.tail _ hp)⟩
end
noncomputable abbrev ocQual : Str := Str.ofString "_law_octets_right" ++ Str.ofString ".<locals>." ++ Str.ofString "<lambda>"
noncomputable abbrev ocCs : Scope := { kind := .function, names := [(Str.ofString "well", .local), (Str.ofString "many", .local), (Str.ofString "rows", .local), (Str.ofString "turn", .local), (Str.ofString "row", .local), (Str.ofString "frame", .local), (Str.ofString "head", .local), (Str.ofString "code", .cell), (Str.ofString "octets", .cell), (Str.ofString "_law_codes", .globalImplicit), (Str.ofString "_law_draw", .globalImplicit), (Str.ofString "bytes", .globalImplicit), (Str.ofString "range", .globalImplicit), (Str.ofString "_law_heard", .globalImplicit), (Str.ofString "_law_lets_frame", .globalImplicit), (Str.ofString "_law_row_of", .globalImplicit)], isGenerator := false, isCoroutine := false }
noncomputable def OctRow (k : Int × Int × Int × Int) : Prop := KBa.In (rowB k) ∧ 0 ≤ k.2.2.1 ∧ k.2.2.1 < 16
theorem octRow_of {p x q : Int} (h1 : 0 ≤ p ∧ p < 3) (h2 : 0 ≤ x ∧ x < 256) (h3 : 0 ≤ q ∧ q < 256) : [p, x, q] = rowB (p, x / 16, x % 16, q) ∧ OctRow (p, x / 16, x % 16, q) := by
  have e : [p, x, q] = rowB (p, x / 16, x % 16, q) := by
    unfold rowB
    have : x / 16 * 16 + x % 16 = x := by omega
    rw [this]
  refine ⟨e, e ▸ ?_, Int.emod_nonneg _ (by decide), Int.emod_lt_of_pos _ (by decide)⟩
  intro k hk
  simp only [List.mem_cons, List.not_mem_nil, or_false] at hk
  rcases hk with rfl | rfl | rfl <;> omega
theorem getD_in {l : List Int} (h : ∀ x ∈ l, 0 ≤ x ∧ x < 256) (n : Nat) : 0 ≤ l.getD n 0 ∧ l.getD n 0 < 256 := by
  rw [List.getD_eq_getElem?_getD]
  cases e : l[n]? with
  | none => exact ⟨Int.le_refl _, by decide⟩
  | some x => exact h x (List.mem_of_getElem? e)
/-- between the turns -/
structure OT (wl co lr : Addr) (ps : Array Value) (base rest : Led) (bs : List Int) (oo : Obj) (tb : Tok) (vs : List Value) (m : Nat) (ks : List (Int × Int × Int × Int)) (i : Nat) : Prop where
  o0 : ∀ p ∈ rest, p.1 ≠ wl
  o1 : ∀ p ∈ rest, p.1 ≠ co
  o2 : ∀ p ∈ rest, p.1 ≠ 379
  n0 : @Ne Nat co wl
  n1 : @Ne Nat 379 wl
  n2 : @Ne Nat 379 co
  hd : oo.data = .cell (some (.bytes (byteArr (bs ++ ks.flatMap rowB)) tb))
  hr : RowsAt rest vs ks
  hl : (lr, listOf vs.toArray m) ∈ rest
  hk : ks.length = i
  ho : ∀ k ∈ ks, OctRow k
  hs : ∀ p ∈ base, p ∈ rest
noncomputable def OJ (wl co : Addr) (nn : Nat) (ps : Array Value) (mv : Option Value) (base : Led) (bs : List Int) (i : Nat) (sl : Sl) (n : Led) : Prop :=
  ∃ a b wa wb ta tb oo t lr vs m ks rest, sl = [some (.ref wl), mv, some (.ref lr), a, b, none, none] ∧ n = (wl, listOf #[.int wa ta, .int wb tb] nn) :: (co, oo) :: (379, tabObj ps) :: rest ∧ OT wl co lr ps base rest bs oo t vs m ks i
section
variable {w : World} {cs : Scope} {c : Cx w cs} {D : Nat} {sl : Sl} {n : Led} {t : Nat}
theorem addV_t {l1 l2 : Addr} {vs ws : List Value} {n1 n2 : Nat} {k : KV} (h1 : (l1, listOf vs.toArray n1) ∈ n) (h2 : (l2, listOf ws.toArray n2) ∈ n) (hz : vs.length + ws.length ≤ 100000)
    (h : ∀ Dl, (∀ p ∈ n, p.1 < Dl) → k (.ref Dl) sl ((Dl, listOf (vs ++ ws).toArray 0) :: n) t) : Tri c sl n t (binaryOp .Add (.ref l1) (.ref l2)) k :=
  fun hp ⟨b, W, F, N⟩ => add_lists (s := c.sh hp t) F N (News.isList N h1) (News.isList N h2) (fun h' F' N' => ⟨h', sl, _, t, rfl, ⟨b, W, F', N'⟩, h _ fun p hp => Heap.lt_size (N p hp).1⟩) (by rw [sizeLine_eq]; omega)
end
theorem oct_next {wl co lr Dl lt I : Addr} {nn m i : Nat} {ps : Array Value} {mv a b : Option Value} {base rest n : Led} {bs : List Int} {oo oN oI : Obj} {tb tN : Tok} {vs : List Value} {ks : List (Int × Int × Int × Int)} {k : Int × Int × Int × Int} {t1 t2 t3 t4 : Tok}
    (T : OT wl co lr ps base rest bs oo tb vs m ks i) (H : Well wl nn n ((co, oN) :: (I, oI) :: (379, tabObj ps) :: (lt, tupOf [.int k.1 t1, .int k.2.1 t2, .int k.2.2.1 t3, .int k.2.2.2 t4]) :: (Dl, listOf (vs ++ [Value.ref lt]).toArray 0) :: rest))
    (hN : oN.data = .cell (some (.bytes (byteArr ((bs ++ ks.flatMap rowB) ++ rowB k)) tN))) (hk : OctRow k) (hI : ∀ p ∈ rest, p.1 ≠ I) (i1 : @Ne Nat co I) (i2 : @Ne Nat 379 I) (hlt : ∀ p ∈ (I, oI) :: (co, oo) :: (379, tabObj ps) :: rest, p.1 < lt) (hl2 : lt < Dl) :
    TurnEnd (OJ wl co nn ps mv base bs (i + 1)) I oI [some (.ref wl), mv, some (.ref Dl), a, b, none, none] n := by
  refine hide _ fun hidP hidH => ?_
  obtain ⟨wa, wb, ta, tb', h1, h2⟩ := H
  refine hidH ?_
  clear hidH
  have a1 : I < lt := hlt _ (.head _)
  have a2 : co < lt := hlt _ (.tail _ (.head _))
  have a3 : 379 < lt := hlt _ (.tail _ (.tail _ (.head _)))
  refine ⟨h1 _ (.tail _ (.tail _ (.head _))), (wl, listOf #[.int wa ta, .int wb tb'] nn) :: (co, oN) :: (379, tabObj ps) :: (lt, tupOf [.int k.1 t1, .int k.2.1 t2, .int k.2.2.1 t3, .int k.2.2.2 t4]) :: (Dl, listOf (vs ++ [Value.ref lt]).toArray 0) :: rest,
    sub_cons (h1 _ (.head _)) (sub_cons (h1 _ (.tail _ (.head _))) fun p hp => h1 p (.tail _ (.tail _ (.tail _ hp)))), ?_, a, b, wa, wb, ta, tb', oN, tN, Dl, vs ++ [Value.ref lt], 0, ks ++ [k], _, rfl, rfl, ?_⟩
  · exact off_cons (Ne.symm (h2 _ (.tail _ (.head _)))) (off_cons i1 (off_cons i2 (off_cons (Nat.ne_of_gt a1) (off_cons (Nat.ne_of_gt (Nat.lt_trans a1 hl2)) hI))))
  · refine ⟨fun p hp => h2 p (.tail _ (.tail _ (.tail _ hp))), off_cons (Nat.ne_of_gt a2) (off_cons (Nat.ne_of_gt (Nat.lt_trans a2 hl2)) T.o1), off_cons (Nat.ne_of_gt a3) (off_cons (Nat.ne_of_gt (Nat.lt_trans a3 hl2)) T.o2), T.n0, T.n1, T.n2, ?_, ?_, .tail _ (.head _), ?_, ?_, fun p hp => .tail _ (.tail _ (T.hs p hp))⟩
    · rw [hN, List.flatMap_append, List.append_assoc]; simp
    · exact (T.hr.mono fun p hp => .tail _ (.tail _ hp)).snoc ⟨lt, t1, t2, t3, t4, rfl, .head _⟩
    · rw [List.length_append, T.hk]; rfl
    · intro q hq
      exact (List.mem_append.mp hq).elim (T.ho q) fun hq => (List.mem_singleton.mp hq) ▸ hk
theorem oct_turn {w : World} {c : Cx w ocCs} {D : Nat} {t : Nat} (ok : c.Ok D) (hD : Nat.ble 2 D = true) {wl co lr I : Addr} {nn m i : Nat} {ps : Array Value} {mv a b : Option Value} {base rest : Led} {bs : List Int} {oo oI : Obj} {tb0 ta tb : Tok} {wa wb : Int} {vs : List Value} {ks : List (Int × Int × Int × Int)} {kf : KF}
    (hco : c.cl.lookup (Str.ofString "octets") = some co) (hbs : KBa.In bs) (hbl : bs.length < 1000) (hi : i < 100)
    (T : OT wl co lr ps base rest bs oo tb0 vs m ks i) (hI : ∀ p ∈ (wl, listOf #[.int wa ta, .int wb tb] nn) :: (co, oo) :: (379, tabObj ps) :: rest, p.1 ≠ I) :
    vcS c rs__law_octets_right_3 [some (.ref wl), mv, some (.ref lr), a, b, none, none] ((I, oI) :: (wl, listOf #[.int wa ta, .int wb tb] nn) :: (co, oo) :: (379, tabObj ps) :: rest) t (turnK (OJ wl co nn ps mv base bs (i + 1)) I oI kf) := by
  have H := (Well.of (off_cons T.n0 (off_cons T.n1 T.o0)) : Well wl nn ((wl, listOf #[.int wa ta, .int wb tb] nn) :: (co, oo) :: (379, tabObj ps) :: rest) _).up (e := (I, oI)) (Ne.symm (hI _ (.head _)))
  have hlen : vs.length = i := T.hr.1.trans T.hk
  refine draw_t ok H (by decide) hD fun n1 p1 tp1 t H1 g1 => ?_
  refine ⟨Nat.le_of_ble_eq_true rfl, fun l1 hl1 => ?_⟩
  refine draw_t ok (H1.up (e := (l1, _)) (H1.ne hl1)) (by decide) hD fun n2 p2 tp2 t H2 g2 => ?_
  refine item_t (ns := [17, 34, 65, 20, 68, 1, 80, 255]) (H2.sub _ (.head _)) (.cons _ _ (.cons _ _ (.cons _ _ (.cons _ _ (.cons _ _ (.cons _ _ (.cons _ _ (.cons _ _ .nil)))))))) g2.1 (show p2 < (([17, 34, 65, 20, 68, 1, 80, 255] : List Int).length : Int) from g2.2) (by decide) fun tv2 t => ?_
  refine ⟨Nat.le_of_ble_eq_true rfl, fun l3 hl3 => ?_⟩
  refine draw_t ok (((H2.less (sub_up sub_id)).up (e := (l3, _)) (H2.ne hl3))) (by decide) hD fun n4 p4 tp4 t H4 g4 => ?_
  refine item_t (ns := [0, 3, 4, 255, 1, 2]) (H4.sub _ (.head _)) (.cons _ _ (.cons _ _ (.cons _ _ (.cons _ _ (.cons _ _ (.cons _ _ .nil)))))) g4.1 (show p4 < (([0, 3, 4, 255, 1, 2] : List Int).length : Int) from g4.2) (by decide) fun tv4 t => ?_
  refine ⟨Nat.le_of_ble_eq_true rfl, fun l5 hl5 => ?_⟩
  have H5 := H4.less (rest' := (I, oI) :: (co, oo) :: (379, tabObj ps) :: rest) (sub_up sub_id)
  have x2 := getD_in (l := [17, 34, 65, 20, 68, 1, 80, 255]) (by decide) p2.toNat
  have x4 := getD_in (l := [0, 3, 4, 255, 1, 2]) (by decide) p4.toNat
  generalize [17, 34, 65, 20, 68, 1, 80, 255].getD p2.toNat (0 : Int) = x at x2 ⊢
  generalize [0, 3, 4, 255, 1, 2].getD p4.toNat (0 : Int) = q at x4 ⊢
  obtain ⟨e, hrow⟩ := octRow_of g1 x2 x4
  refine unpack_t ok (xs := [(Str.ofString "octets", _), (Str.ofString "rows", _)]) (rv := .tup (.cons (.bin (.raw _) .Add (.call (.type "bytes") (.cons (.loc 4) .nil))) (.cons (.bin (.loc 2) .Add (.list (.cons (.tup (.cons (.sub (.loc 4) (.int 0) _ _) (.cons (.bin (.sub (.loc 4) (.int 1) _ _) .FloorDiv (.int 16)) (.cons (.bin (.sub (.loc 4) (.int 1) _ _) .Mod (.int 16)) (.cons (.sub (.loc 4) (.int 2) _ _) .nil))))) .nil))) .nil))) (by with_unfolding_all rfl) rfl (by with_unfolding_all rfl) (by with_unfolding_all rfl) ?_
  have hfl : (bs ++ ks.flatMap rowB).length < 10000 := by rw [List.length_append, flat_rowB_len, T.hk]; omega
  have i3 : ∀ {u v z : Int} {t1 t2 t3 : Tok}, IntsAre [.int u t1, .int v t2, .int z t3] [u, v, z] := fun {u v z t1 t2 t3} => .cons _ _ (.cons _ _ (.cons _ _ .nil))
  refine cell_t ok hco (.tail _ (H5.sub _ (.tail _ (.head _)))) T.hd rfl (by decide) ?_
  refine bytes_t (ns := [p1, x, q]) (.head _) i3 (e ▸ hrow.1) (Nat.le_of_ble_eq_true rfl) fun tv6 t => ?_
  refine addB_t (by simp only [List.length_cons, List.length_nil]; omega) fun tv7 t => ?_
  refine item_t (ns := [p1, x, q]) (.head _) i3 (by decide) (show (0 : Int) < ((3 : Nat) : Int) by decide) (show 3 < 2 ^ 62 by decide) fun tv8 t => ?_
  refine item_t (ns := [p1, x, q]) (.head _) i3 (by decide) (show (1 : Int) < ((3 : Nat) : Int) by decide) (show 3 < 2 ^ 62 by decide) fun tv9 t => div_t (by decide) fun tv10 t => ?_
  refine item_t (ns := [p1, x, q]) (.head _) i3 (by decide) (show (1 : Int) < ((3 : Nat) : Int) by decide) (show 3 < 2 ^ 62 by decide) fun tv11 t => mod_t (by decide) fun tv12 t => ?_
  refine item_t (ns := [p1, x, q]) (.head _) i3 (by decide) (show (2 : Int) < ((3 : Nat) : Int) by decide) (show 3 < 2 ^ 62 by decide) fun tv13 t => ⟨Nat.le_of_ble_eq_true rfl, fun lt hlt => ⟨Nat.le_of_ble_eq_true rfl, fun ll hll => ?_⟩⟩
  refine addV_t (vs := vs) (n1 := m) (.tail _ (.tail _ (.tail _ (H5.sub _ (.tail _ (.tail _ (.tail _ T.hl))))))) (.head _) (by simp only [List.length_cons, List.length_nil]; omega) fun Dl hDl => ⟨Nat.le_of_ble_eq_true rfl, fun lz hlz => ?_⟩
  have q1 : lt < Dl := hDl _ (.tail _ (.head _))
  have q2 : ∀ e ∈ (I, oI) :: (co, oo) :: (379, tabObj ps) :: rest, e.1 < lt := fun e he => hlt e (.tail _ (H5.sub e he))
  have q3 : co < lt := q2 _ (.tail _ (.head _))
  refine ⟨lz, _, rfl, .head _, rfl, storeL_cell rfl ?_⟩
  refine Well.asgc (a := co) (o := oo) (v₀ := some (.bytes (byteArr (bs ++ ks.flatMap rowB)) tb0)) (r := (I, oI) :: (379, tabObj ps) :: (lt, tupOf [.int p1 tv8, .int (x / 16) tv10, .int (x % 16) tv12, .int q tv13]) :: (Dl, listOf (vs ++ [Value.ref lt]).toArray 0) :: rest)
    (Well.less (Well.up (Well.up (Well.up (Well.up (Well.up H5 (H5.ne hl5)) (Well.ne (Well.up H5 (H5.ne hl5)) hlt)) (Well.ne (Well.up (Well.up H5 (H5.ne hl5)) (Well.ne (Well.up H5 (H5.ne hl5)) hlt)) hll)) (Well.ne (Well.up (Well.up (Well.up H5 (H5.ne hl5)) (Well.ne (Well.up H5 (H5.ne hl5)) hlt)) (Well.ne (Well.up (Well.up H5 (H5.ne hl5)) (Well.ne (Well.up H5 (H5.ne hl5)) hlt)) hll)) hDl))
      (Well.ne (Well.up (Well.up (Well.up (Well.up H5 (H5.ne hl5)) (Well.ne (Well.up H5 (H5.ne hl5)) hlt)) (Well.ne (Well.up (Well.up H5 (H5.ne hl5)) (Well.ne (Well.up H5 (H5.ne hl5)) hlt)) hll)) (Well.ne (Well.up (Well.up (Well.up H5 (H5.ne hl5)) (Well.ne (Well.up H5 (H5.ne hl5)) hlt)) (Well.ne (Well.up (Well.up H5 (H5.ne hl5)) (Well.ne (Well.up H5 (H5.ne hl5)) hlt)) hll)) hDl)) hlz))
      (sub_cons (.tail _ (.tail _ (.tail _ (.tail _ (.tail _ (.tail _ (.head _))))))) (sub_cons (.tail _ (.tail _ (.tail _ (.tail _ (.tail _ (.head _)))))) (sub_cons (.tail _ (.tail _ (.tail _ (.tail _ (.tail _ (.tail _ (.tail _ (.head _)))))))) (sub_cons (.tail _ (.tail _ (.tail _ (.head _)))) (sub_cons (.tail _ (.head _)) fun p hp => .tail _ (.tail _ (.tail _ (.tail _ (.tail _ (.tail _ (.tail _ (.tail _ hp)))))))))))))
    hco rfl T.hd (off_cons (Ne.symm (hI _ (.tail _ (.head _)))) (off_cons T.n2 (off_cons (Nat.ne_of_gt q3) (off_cons (Nat.ne_of_gt (Nat.lt_trans q3 q1)) T.o1)))) fun oN n' hN HN => ?_
  refine storeL_one (i := 2) (by kernel_rfl) ?_
  exact oct_next T HN (e ▸ hN) hrow (fun e he => hI e (.tail _ (.tail _ (.tail _ he)))) (hI _ (.tail _ (.head _))) (hI _ (.tail _ (.tail _ (.head _)))) q2 q1
theorem read_back2 {q0 q1 q2 q3 q4 q5 : Int} {ks : List (Int × Int × Int × Int)} (e : q5 = (ks.length : Int)) (hk : ∀ k ∈ ks, OctRow k) : payOk ([q0, q1, q2, q3, q4, q5] ++ ks.flatMap rowB) ∧ frK ([q0, q1, q2, q3, q4, q5] ++ ks.flatMap rowB) = ks := by
  have hget : ∀ (i j : Nat) (c : Int × Int × Int × Int), ks[i]? = some c → j < 3 → ([q0, q1, q2, q3, q4, q5] ++ ks.flatMap rowB).getD (6 + 3 * i + j) 0 = (rowB c).getD j 0 := by
    intro i j c hi hj
    rw [List.getD_eq_getElem?_getD, List.getD_eq_getElem?_getD, List.getElem?_append_right (by simp only [List.length_cons, List.length_nil]; omega), show 6 + 3 * i + j - [q0, q1, q2, q3, q4, q5].length = 3 * i + j by simp only [List.length_cons, List.length_nil]; omega, flat_get hi hj]
  have h5 : ([q0, q1, q2, q3, q4, q5] ++ ks.flatMap rowB).getD 5 0 = (ks.length : Int) := e
  refine ⟨?_, ?_⟩
  · unfold payOk
    rw [h5, List.length_append, flat_rowB_len]
    simp only [List.length_cons, List.length_nil]
    omega
  · unfold frK
    rw [h5, Int.toNat_natCast]
    unfold recs
    apply List.ext_getElem
    · simp
    · intro i h1 h2
      have hi : ks[i]? = some ks[i] := List.getElem?_eq_getElem h2
      have hc := (hk _ (List.mem_of_getElem? hi)).2
      have g0 := hget i 0 _ hi (by omega)
      have g1 := hget i 1 _ hi (by omega)
      have g2 := hget i 2 _ hi (by omega)
      simp only [rowB, List.getD_cons_zero, List.getD_cons_succ] at g0 g1 g2
      rw [List.getElem_map, List.getElem_range]
      unfold recAt
      rw [show 6 + 3 * i = 6 + 3 * i + 0 from rfl, g0, show 7 + 3 * i = 6 + 3 * i + 1 by omega, g1, show 8 + 3 * i = 6 + 3 * i + 2 by omega, g2]
      rw [show (ks[i].2.1 * 16 + ks[i].2.2.1) / 16 = ks[i].2.1 by omega, show (ks[i].2.1 * 16 + ks[i].2.2.1) % 16 = ks[i].2.2.1 by omega]
theorem or_keep {A B C E : Prop} {N n' : Led} (h : (A ∧ (∀ p ∈ N, p ∈ n') ∧ B) ∨ (C ∧ E ∧ n' = N)) : ∀ p ∈ N, p ∈ n' := by
  rcases h with h | h
  · exact h.2.1
  · rw [h.2.2]; exact sub_id
theorem no_' {P : Prop} (h : false = true) : P := nomatch h
theorem is_notnone_t {w : World} {cs : Scope} {c : Cx w cs} {sl : Sl} {n : Led} {t : Nat} {a : Addr} {k : KV} (h : k (.bool true) sl n t) : Tri c sl n t (compareOp .IsNot (.ref a) .none) k :=
  fun hp H => isnot_ref_none (s := c.sh hp t) ⟨hp, sl, n, t, rfl, H, h⟩
noncomputable def OCPost (wl : Addr) (nn : Nat) (rest : Led) (v : Value) (n' : Led) : Prop := v = .bool true ∧ ∃ ps' a' b' ta' tb' rest', n' = (379, tabObj ps') :: (wl, listOf #[.int a' ta', .int b' tb'] nn) :: rest' ∧ (∀ p ∈ rest', p.1 ≠ wl) ∧ (∀ p ∈ rest', p.1 ≠ 379) ∧ Tab 241 22 ocQual ps' rest' ∧ ∀ p ∈ rest, p ∈ rest'
theorem oc_done {wl c' : Addr} {nn : Nat} {n post rest : Led} {ps' : Array Value} {a b : Int} {ta tb : Tok} {oc : Obj} {S : Value → Led → Prop} (hr : ∀ v n, OCPost wl nn rest v n → S v n) (hn : ∀ p ∈ (c', oc) :: (379, tabObj ps') :: (wl, listOf #[.int a ta, .int b tb] nn) :: post, p ∈ n) (ht : Tab 241 22 ocQual ps' [(c', oc)]) (hc : @Ne Nat c' 379) (hw : @Ne Nat c' wl) (ho : ∀ p ∈ post, p.1 ≠ 379) (ho2 : ∀ p ∈ post, p.1 ≠ wl) (hs : ∀ p ∈ rest, p ∈ post) :
    ∃ n', (∀ p ∈ n', p ∈ n) ∧ S (.bool true) n' :=
  ⟨(379, tabObj ps') :: (wl, listOf #[.int a ta, .int b tb] nn) :: (c', oc) :: post, sub_cons (hn _ (.tail _ (.head _))) (sub_cons (hn _ (.tail _ (.tail _ (.head _)))) (sub_cons (hn _ (.head _)) fun p hp => hn _ (.tail _ (.tail _ (.tail _ hp))))), hr _ _ ⟨rfl, ps', a, b, ta, tb, _, rfl, off_cons hw ho2, off_cons hc ho, ht.mono fun p hp => (List.mem_singleton.mp hp) ▸ .head _, fun p hp => .tail _ (hs p hp)⟩⟩
theorem octets_right_c (w : World) (wl : Addr) (wa wb : Int) (ta tb : Tok) (nn : Nat) (ps : Array Value) (rest : List (Addr × Obj)) (hoff : ∀ p ∈ rest, p.1 ≠ wl) (hoff2 : ∀ p ∈ rest, p.1 ≠ 379) (hwt : @Ne Nat wl 379)
    (ht : Tab 241 22 ocQual ps rest) :
    CnT w 44 384 [.ref wl] ((379, tabObj ps) :: (wl, listOf #[.int wa ta, .int wb tb] nn) :: rest) (fun v n' => v = .bool true ∧ ∃ ps' a' b' ta' tb' rest', n' = (379, tabObj ps') :: (wl, listOf #[.int a' ta', .int b' tb'] nn) :: rest' ∧ (∀ p ∈ rest', p.1 ≠ wl) ∧ (∀ p ∈ rest', p.1 ≠ 379) ∧ Tab 241 22 ocQual ps' rest' ∧ ∀ p ∈ rest, p ∈ rest') := by
  have hfill := fill_ w
  revert hfill
  k_fill
  intro _
  refine' CnT.of1 (x := Str.ofString "well") (sl₀ := [some (.ref wl), none, none, none, none, none, none]) ?hf ?hc ?hb ?hs ?c2 ?c3 ?c4 ?hnd ?_
  case hf => k_is
  case hc => k_is
  case hb => exact fun s => BindsTo.of_eq rfl
  case hs => exact .inl ⟨rfl, 0, 7, by kernel_rfl, rfl⟩
  case c2 => exact rfl
  case c3 => exact rfl
  case c4 => exact rfl
  case hnd => decide +kernel
  intro cx S cells ok okT hcn hcd hcl Y hlt hr t
  refine hide _ fun hidP hidH => ?_
  obtain ⟨oO, oC, rfl, hoO, hoC⟩ := CellsAre.two (n := Str.ofString "octets") (n' := Str.ofString "code") (c := cx.L + 1 + 1) (c' := cx.L + 1) Y
  refine hidH ?_
  clear hidH
  have hco : cx.cl.lookup (Str.ofString "octets") = some (cx.L + 1 + 1) := by rw [hcl]; rfl
  have hcc : cx.cl.lookup (Str.ofString "code") = some (cx.L + 1) := by rw [hcl]; rfl
  have z0 : wl < cx.L := hlt _ (.tail _ (.head _))
  have z1 : 379 < cx.L := hlt _ (.head _)
  have z2 : ∀ e ∈ rest, e.1 < cx.L := fun e he => hlt e (.tail _ (.tail _ he))
  have y0 : @Ne Nat (cx.L + 1 + 1) (cx.L + 1) := Nat.succ_ne_self _
  have y1 : @Ne Nat 379 (cx.L + 1) := Nat.ne_of_lt (Nat.lt_succ_of_lt z1)
  have y2 : @Ne Nat 379 (cx.L + 1 + 1) := Nat.ne_of_lt (Nat.lt_succ_of_lt (Nat.lt_succ_of_lt z1))
  have y3 : @Ne Nat wl (cx.L + 1) := Nat.ne_of_lt (Nat.lt_succ_of_lt z0)
  have y4 : @Ne Nat wl (cx.L + 1 + 1) := Nat.ne_of_lt (Nat.lt_succ_of_lt (Nat.lt_succ_of_lt z0))
  have oc1 : ∀ e ∈ rest, e.1 ≠ cx.L + 1 := fun e he => Nat.ne_of_lt (Nat.lt_succ_of_lt (z2 e he))
  have oc2 : ∀ e ∈ rest, e.1 ≠ cx.L + 1 + 1 := fun e he => Nat.ne_of_lt (Nat.lt_succ_of_lt (Nat.lt_succ_of_lt (z2 e he)))
  generalize hcoE : cx.L + 1 + 1 = co at *
  generalize hccE : cx.L + 1 = cc at *
  have H0 : Well wl nn ([(co, oO), (cc, oC)] ++ (379, tabObj ps) :: (wl, listOf #[.int wa ta, .int wb tb] nn) :: rest) ((cc, oC) :: (co, oO) :: (379, tabObj ps) :: rest) :=
    ⟨wa, wb, ta, tb, sub_cons (.tail _ (.tail _ (.tail _ (.head _)))) (sub_cons (.tail _ (.head _)) (sub_cons (.head _) (sub_cons (.tail _ (.tail _ (.head _))) fun p hp => .tail _ (.tail _ (.tail _ (.tail _ hp)))))), off_cons (Ne.symm y3) (off_cons (Ne.symm y4) (off_cons (Ne.symm hwt) hoff))⟩
  refine vc_go (f := 40) (rs := rs__law_octets_right) ok (by kernel_rfl) (by kernel_rfl) ?_
  refine unpack_t ok (xs := [(Str.ofString "code", _), (Str.ofString "many", _)]) (rv := .tup (.cons (.sub (.call (.ref 348) .nil) (.call (.ref 320) (.cons (.loc 0) (.cons (.int 13) .nil))) _ _) (.cons (.bin (.int 1) .Add (.call (.ref 320) (.cons (.loc 0) (.cons (.int 2) .nil)))) .nil))) (by with_unfolding_all rfl) rfl (by with_unfolding_all rfl) (by with_unfolding_all rfl) ?_
  refine codes_t ok rfl fun lc ws t hi hlc => ?_
  refine draw_t ok (H0.up (e := (lc, _)) (H0.ne hlc)) (by decide) rfl fun n1 p1 tp1 t H1 g1 => ?_
  refine item_t (ns := codesL) (H1.sub _ (.head _)) hi g1.1 (show p1 < (codesL.length : Int) from g1.2) (by decide) fun tv1 t => ?_
  refine draw_t ok (H1.less (sub_up sub_id)) (by decide) rfl fun n2 m1 tm1 t H2 g2 => ⟨Nat.le_of_ble_eq_true rfl, fun lz hlz => ?_⟩
  generalize codesL.getD p1.toNat 0 = cd
  refine ⟨lz, _, rfl, .head _, rfl, storeL_cell rfl (Well.asgc (H2.up (e := (lz, _)) (H2.ne hlz) |>.less (sub_up sub_id)) hcc rfl hoC (off_cons y0 (off_cons y1 oc1)) fun oC' n3 hC' H3 => storeL_one (i := 1) (by kernel_rfl) ?_)⟩
  refine asgc_t ok (rv := .call (.type "bytes") (.cons (.list (.cons (.sub (.list (.cons (.int 8) (.cons (.int 12) (.cons (.int 2) (.cons (.int 16) .nil))))) (.call (.ref 320) (.cons (.loc 0) (.cons (.int 4) .nil))) _ _) (.cons (.call (.ref 320) (.cons (.loc 0) (.cons (.int 256) .nil))) (.cons (.int 3) (.cons (.call (.ref 320) (.cons (.loc 0) (.cons (.int 2) .nil))) (.cons (.call (.ref 320) (.cons (.loc 0) (.cons (.int 3) .nil))) (.cons (.loc 1) .nil))))))) .nil)) (by with_unfolding_all rfl) rfl ?_
  refine ⟨Nat.le_of_ble_eq_true rfl, fun l4 hl4 => ?_⟩
  refine draw_t ok (H3.up (e := (l4, _)) (H3.ne hl4)) (by decide) rfl fun n4 p4 tp4 t H4 g4 => ?_
  refine item_t (ns := [8, 12, 2, 16]) (H4.sub _ (.head _)) (.cons _ _ (.cons _ _ (.cons _ _ (.cons _ _ .nil)))) g4.1 (show p4 < (([8, 12, 2, 16] : List Int).length : Int) from g4.2) (by decide) fun tv4 t => ?_
  have x4 := getD_in (l := [8, 12, 2, 16]) (by decide) p4.toNat
  generalize [8, 12, 2, 16].getD p4.toNat (0 : Int) = a0 at x4 ⊢
  refine draw_t ok (H4.less (sub_up sub_id)) (by decide) rfl fun n5 a1 ta1 t H5 g5 => draw_t ok H5 (by decide) rfl fun n6 a3 ta3 t H6 g6 => draw_t ok H6 (by decide) rfl fun n7 a4 ta4 t H7 g7 => ⟨Nat.le_of_ble_eq_true rfl, fun l8 hl8 => ?_⟩
  have hbs : KBa.In [a0, a1, 3, a3, a4, 1 + m1] := by
    intro k hk
    simp only [List.mem_cons, List.not_mem_nil, or_false] at hk
    rcases hk with rfl | rfl | rfl | rfl | rfl | rfl <;> omega
  refine bytes_t (ns := [a0, a1, 3, a3, a4, 1 + m1]) (.head _) (.cons _ _ (.cons _ _ (.cons _ _ (.cons _ _ (.cons _ _ (.cons _ _ .nil)))))) hbs (Nat.le_of_ble_eq_true rfl) fun tv8 t => ?_
  refine Well.asgc (a := co) (o := oO) (r := (cc, oC') :: (379, tabObj ps) :: rest) ((H7.up (e := (l8, _)) (H7.ne hl8)).less (sub_cons (.tail _ (.tail _ (.head _))) (sub_cons (.tail _ (.head _)) fun p hp => .tail _ (.tail _ (.tail _ hp))))) hco rfl hoO (off_cons (Ne.symm y0) (off_cons y2 oc2)) fun oO' n9 hO' H9 => ?_
  refine ⟨by decide, fun lr hlr => ?_⟩
  have q1 : co < lr := hlr _ (H9.sub _ (.head _))
  have q2 : 379 < lr := hlr _ (H9.sub _ (.tail _ (.tail _ (.head _))))
  refine Tri.held fun b hb => for_t (ok.hold hb) Cx.one_hold (ix := 3) (re := .call (.type "range") (.cons (.loc 1) .nil)) (by kernel_rfl) (by kernel_rfl) (fun _ => rfl) ?_
  have H10 := H9.up (e := (lr, listOf ([] : List Value).toArray 0)) (H9.ne hlr)
  refine range_t fun rg u1 u2 u3 t hg => ?_
  have q3 : co < rg := hg _ (.tail _ (H9.sub _ (.head _)))
  have q4 : 379 < rg := hg _ (.tail _ (H9.sub _ (.tail _ (.tail _ (.head _)))))
  have q5 : @Ne Nat rg wl := H10.ne hg
  refine IterT.well ((H10.up (e := (rg, rangeObj (1 + m1) u1 u2 u3)) q5).less (rest' := (co, oO') :: (379, tabObj ps) :: (lr, listOf ([] : List Value).toArray 0) :: (rg, rangeObj (1 + m1) u1 u2 u3) :: (cc, oC') :: rest) (sub_cons (.tail _ (.tail _ (.head _))) (sub_cons (.tail _ (.tail _ (.tail _ (.tail _ (.head _))))) (sub_cons (.tail _ (.head _)) (sub_cons (.head _) (sub_cons (.tail _ (.tail _ (.tail _ (.head _)))) fun p hp => .tail _ (.tail _ (.tail _ (.tail _ (.tail _ hp)))))))))) fun a b ta tb hw => ?_
  have T0 : OT wl co lr ps ((cc, oC') :: rest) ((lr, listOf ([] : List Value).toArray 0) :: (rg, rangeObj (1 + m1) u1 u2 u3) :: (cc, oC') :: rest) [a0, a1, 3, a3, a4, 1 + m1] oO' tv8 [] 0 [] 0 :=
    ⟨fun e he => hw e (.tail _ (.tail _ he)), off_cons (Nat.ne_of_gt q1) (off_cons (Nat.ne_of_gt q3) (off_cons (Ne.symm y0) oc2)), off_cons (Nat.ne_of_gt q2) (off_cons (Nat.ne_of_gt q4) (off_cons (Ne.symm y1) hoff2)), hw _ (.head _), hw _ (.tail _ (.head _)), y2, by rw [hO']; simp, .nil, .head _, rfl, by simp, fun p hp => .tail _ (.tail _ hp)⟩
  refine iter_range_t (ix := 3) (N := (1 + m1).toNat) Cx.one_hold (OJ wl co nn ps (some (.int (1 + m1) _)) ((cc, oC') :: rest) [a0, a1, 3, a3, a4, 1 + m1]) (by kernel_rfl) (.tail _ (.tail _ (.tail _ (.tail _ (.head _))))) (by omega) (by omega) ⟨_, _, a, b, ta, tb, oO', tv8, lr, [], 0, [], _, rfl, rfl, T0⟩ ?_ ?_
  · intro i tv sl n I oI t hi hz1 hI
    refine hide _ fun hidP hidH => ?_
    obtain ⟨a, b, wa, wb, ta, tb, oo, tx, lr, vs, m, ks, rest', rfl, rfl, T⟩ := hz1
    refine hidH ?_
    clear hidH
    exact vc_go (f := 40) (rs := rs__law_octets_right_3) (ok.hold ‹_›) (by kernel_rfl) (by kernel_rfl) (oct_turn (ok.hold ‹_›) rfl hco hbs (show 6 < 1000 by decide) (by omega) T hI)
  intro sl n t hz2
  refine hide _ fun hidP hidH => ?_
  obtain ⟨a, b, wa, wb, ta, tb, oo, tx, lr, vs, m, ks, rest', rfl, rfl, T⟩ := hz2
  refine hidH ?_
  clear hidH
  have k1 : (1 + m1 : Int) = (ks.length : Int) := by have := T.hk; omega
  have k2 : 1 ≤ ks.length ∧ ks.length < 100 := by omega
  have hrb := read_back2 (q0 := a0) (q1 := a1) (q2 := 3) (q3 := a3) (q4 := a4) k1 T.ho
  have hB : KBa.In ([a0, a1, 3, a3, a4, 1 + m1] ++ ks.flatMap rowB) := in_app hbs fun k hk => by
    obtain ⟨r, hr, hk⟩ := List.mem_flatMap.mp hk
    exact (T.ho r hr).1 k hk
  have hl6 : (6 : Int) ≤ (([a0, a1, 3, a3, a4, 1 + m1] ++ ks.flatMap rowB).length : Int) := by rw [List.length_append]; simp only [List.length_cons, List.length_nil]; omega
  have hlB : ([a0, a1, 3, a3, a4, 1 + m1] ++ ks.flatMap rowB).length < 10000 := by rw [List.length_append, flat_rowB_len]; simp only [List.length_cons, List.length_nil]; omega
  have hd := T.hd
  generalize [a0, a1, 3, a3, a4, 1 + m1] ++ ks.flatMap rowB = B at hrb hB hl6 hlB hd
  have fit : B.length ≤ 1099511627776 := Nat.le_of_lt (Nat.lt_trans hlB (by decide))
  refine cell_t ok hcc (.tail _ (.tail _ (.tail _ (T.hs _ (.head _))))) hC' rfl (by decide) ?_
  refine cell_t ok hco (.tail _ (.head _)) hd rfl (by decide) (itemB_t hB fit (by decide) (Int.lt_of_lt_of_le (by decide) hl6) fun v0 t => ?_)
  refine cell_t ok hco (.tail _ (.head _)) hd rfl (by decide) (itemB_t hB fit (by decide) (Int.lt_of_lt_of_le (by decide) hl6) fun v1 t => mul_t (mul_r (by decide +kernel)) ?_)
  refine cell_t ok hco (.tail _ (.head _)) hd rfl (by decide) (itemB_t hB fit (by decide) (Int.lt_of_lt_of_le (by decide) hl6) fun v2 t => ?_)
  refine cell_t ok hco (.tail _ (.head _)) hd rfl (by decide) (itemB_t hB fit (by decide) (Int.lt_of_lt_of_le (by decide) hl6) fun v3 t => mul_t (mul_r (by decide +kernel)) ?_)
  refine cell_t ok hco (.tail _ (.head _)) hd rfl (by decide) (itemB_t hB fit (by decide) (Int.lt_of_lt_of_le (by decide) hl6) fun v4 t => ⟨Nat.le_of_ble_eq_true rfl, fun lf hlf => ?_⟩)
  have r1 : wl < lf := hlf _ (.head _)
  have r2 : 379 < lf := hlf _ (.tail _ (.tail _ (.head _)))
  have r3 : co < lf := hlf _ (.tail _ (.head _))
  refine lam_t ok (qual := ocQual) (P := 379) (ps := ps) (TT := rest) (post := (wl, listOf #[.int wa ta, .int wb tb] nn) :: (co, oo) :: (lf, _) :: rest') (clos := [(Str.ofString "octets", co), (Str.ofString "code", cc)])
    (sub_cons (.tail _ (.tail _ (.tail _ (.head _)))) (sub_cons (.tail _ (.head _)) (sub_cons (.tail _ (.tail _ (.head _))) (sub_cons (.head _) fun p hp => .tail _ (.tail _ (.tail _ (.tail _ hp))))))) (by rw [hcn]) hcd (by kernel_rfl) (off_cons hwt (off_cons (Ne.symm T.n2) (off_cons (Nat.ne_of_gt r2) T.o2))) (fun p hp => .tail _ (.tail _ (.tail _ (T.hs _ (.tail _ hp))))) ht rfl (by show closureFor _ (envX _ _ _ _ _ cx.cl) = _; rw [hcl, ← hcoE]; rfl) ?_
  intro f c' oc vs' tq ctv ps' pm t a1' a2' a3' a4' a6' a5'
  have hcw : @Ne Nat c' wl := a6'.elim (fun z => Nat.ne_of_gt (z _ (.head _))) fun z => hoff _ z
  refine CnT.tri (heardO_c w f c' cc co oc oC' oo vs' tq pm ctv cd tv1 _ B _ hB hlB (.head _) (.tail _ (.head _)) a1' a2' (.tail _ (.tail _ (.tail _ (.tail _ (.tail _ (.tail _ (T.hs _ (.head _)))))))) hC' (.tail _ (.tail _ (.tail _ (.tail _ (.head _))))) hd) ok okT rfl ?_
  intro v n' hv t
  have keep := or_keep hv
  have hFR : FrameRow n' (.ref lf) cd (B.getD 0 0) (frH B) (frW B) ks := ⟨lf, lr, _, _, _, _, _, vs, rfl, keep _ (.tail _ (.tail _ (.tail _ (.tail _ (.tail _ (.head _)))))), keep _ (.tail _ (.tail _ (.tail _ (.tail _ (.tail _ (.tail _ T.hl)))))), T.hr.mono fun e he => keep _ (.tail _ (.tail _ (.tail _ (.tail _ (.tail _ (.tail _ he))))))⟩
  have done : ∀ n'', (∀ e ∈ n', e ∈ n'') → ∃ n', (∀ p ∈ n', p ∈ n'') ∧ S (.bool true) n' := fun n'' h => oc_done (post := rest') (rest := rest) hr (fun e he => h e (keep e (sub_cons (.tail _ (.head _)) (sub_cons (.tail _ (.tail _ (.head _))) (sub_cons (.tail _ (.tail _ (.tail _ (.head _)))) fun e he => .tail _ (.tail _ (.tail _ (.tail _ (.tail _ (.tail _ he))))))) e he))) a3' a4' hcw T.o2 T.o0 (fun e he => T.hs _ (.tail _ he))
  have hok : FrameOk cd (B.getD 0 0) (frH B) (frW B) (frK B) ↔ LetsF cd (B.getD 0 0) (frH B) (frW B) ks := by rw [hrb.2]; exact (lets_iff k2.1 k2.2).symm
  refine lets_frame_t ok hFR (by omega) rfl fun b t hb => ⟨fun e => ?_, fun e => ⟨no_', fun _ => ?_⟩⟩
  · rcases hv with ⟨h1, h2, h3⟩ | ⟨h1, _⟩
    · refine hide _ fun hidP hidH => ?_
      obtain ⟨y, d, l, g1, g2, g3, g4, g5, t1, t2, t3, t4, t5, tc, tp, th, tw, m1, m2, vs2, rfl, hx, hd', hl', hcs'⟩ := h3
      refine hidH ?_
      clear hidH
      refine is_notnone_t ⟨fun _ => ?_, no_⟩
      refine row_of_t ok (ks := ks) (frameAt_cast ⟨y, d, l, g1, g2, g3, g4, g5, t1, t2, t3, t4, t5, tc, tp, th, tw, m1, m2, vs2, rfl, hx, hd', hl', hcs'⟩ rfl rfl rfl hrb.2) (by omega) rfl fun y2 n3 t g6 g7 => ?_
      exact eqF_t ok g6 (hFR.mono g7) (done _ g7)
    · exact absurd ⟨hrb.1, hok.mpr (hb.mp e)⟩ h1
  · rcases hv with ⟨h1, _, _⟩ | ⟨h1, rfl, _⟩
    · exact absurd (hb.mpr (hok.mp h1.2)) (by rw [e]; decide)
    · refine is_none_t ⟨fun _ => ?_, no_⟩
      refine lets_frame_t ok hFR (by omega) rfl fun b' t hb' => ?_
      have e' : b' = false := by
        cases b' with
        | false => rfl
        | true => exact absurd (hb.mpr (hb'.mp rfl)) (by rw [e]; decide)
      subst e'
      exact done _ sub_id
theorem read_number_c (w : World) (tp : Tok) (ns : List Int) (news : Led) (hin : KBa.In ns) (hl : ns.length < 10000) :
    Cn w 6 278 [.bytes (byteArr ns) tp] news (fun v n' => (∃ t, v = .int (ns.getD 0 0 * 256 + ns.getD 1 0) t) ∧ n' = news ∧ (ns.length : Int) = 2) (fun C => C = 44 ∧ ¬ (ns.length : Int) = 2) := by
  have hfill := fill_ w
  revert hfill
  k_fill
  intro _
  refine' Cn.of (binds := [(Str.ofString "payload", .bytes (byteArr ns) tp)]) (sl₀ := [some (.bytes (byteArr ns) tp)]) (z := 2) ?hf ?hc ?hb ?hl ?c2 ?c3 ?c4 ?c5 ?hs ?_
  walk_at "v_enter"
  intro cx S ok one hn' he hr t
  refine vc_go (f := 40) (rs := rs_read_number) ok (by kernel_rfl) (by kernel_rfl) ?_
  have fit : ns.length ≤ 1099511627776 := Nat.le_of_lt (Nat.lt_trans hl (by decide))
  refine lenB_t fit fun tv t => want_t ok rfl (fun e t => ?_) fun e => ⟨hn', he _ ⟨rfl, fun h => by rw [beq_eq_false_iff_ne] at e; exact e h⟩⟩
  have e2 := eq_of_beq e
  refine itemB_t hin fit (by decide) (by rw [e2]; decide) fun tv t => mul_t (mul_r (by decide +kernel)) (itemB_t hin fit (by decide) (by rw [e2]; decide) fun tv t => ?_)
  exact ⟨_, sub_id, hr _ _ ⟨⟨_, rfl⟩, rfl, e2⟩⟩
theorem read_interval_c (w : World) (tp : Tok) (ns : List Int) (news : Led) (hin : KBa.In ns) (hl : ns.length < 10000) :
    Cn w 8 285 [.bytes (byteArr ns) tp] news (fun v n' => (∃ t, v = .int (ns.getD 0 0 * 256 + ns.getD 1 0) t) ∧ n' = news ∧ (ns.length : Int) = 2) (fun C => C = 44 ∧ ¬ (ns.length : Int) = 2) := by
  have hfill := fill_ w
  revert hfill
  k_fill
  intro _
  refine' Cn.of (binds := [(Str.ofString "payload", .bytes (byteArr ns) tp)]) (sl₀ := [some (.bytes (byteArr ns) tp)]) (z := 1) ?hf ?hc ?hb ?hl ?c2 ?c3 ?c4 ?c5 ?hs ?_
  walk_at "v_enter"
  intro cx S ok one hn' he hr t
  refine vc_go (f := 40) (rs := rs_read_interval) ok (by kernel_rfl) (by kernel_rfl) ?_
  exact (read_number_c w tp ns news hin hl).tri ok rfl (fun v n' q t => ⟨n', sub_id, hr _ _ q⟩) fun C q => ⟨hn', he C q⟩
theorem write_interval_c (w : World) (n : Int) (tn : Tok) (news : Led) :
    Cn w 6 292 [.int n tn] news (fun v n' => (∃ t, v = .bytes (byteArr [n / 256, n % 256]) t) ∧ n' = news ∧ (0 ≤ n ∧ n ≤ 65535)) (fun C => C = 68 ∧ ¬ (0 ≤ n ∧ n ≤ 65535)) := by
  have hfill := fill_ w
  revert hfill
  k_fill
  intro _
  refine' Cn.of (binds := [(Str.ofString "interval", .int n tn)]) (sl₀ := [some (.int n tn)]) (z := 1) ?hf ?hc ?hb ?hl ?c2 ?c3 ?c4 ?c5 ?hs ?_
  walk_at "v_enter"
  intro cx S ok one hn' he hr t
  refine vc_go (f := 40) (rs := rs_write_interval) ok (by kernel_rfl) (by kernel_rfl) ?_
  exact (word_c w n tn news).tri ok rfl (fun v n' q t => ⟨n', sub_id, hr _ _ q⟩) fun C q => ⟨hn', he C q⟩
theorem read_lines_c (w : World) (tp : Tok) (ns : List Int) (news : Led) (hin : KBa.In ns) (hl : ns.length < 10000) :
    Cn w 8 299 [.bytes (byteArr ns) tp] news (fun v n' => (∃ t, v = .int (ns.getD 0 0 * 256 + ns.getD 1 0) t) ∧ n' = news ∧ ((ns.length : Int) = 2 ∧ 0 < ns.getD 0 0 * 256 + ns.getD 1 0)) (fun C => C = 44 ∧ ¬ ((ns.length : Int) = 2 ∧ 0 < ns.getD 0 0 * 256 + ns.getD 1 0)) := by
  have hfill := fill_ w
  revert hfill
  k_fill
  intro _
  refine' Cn.of (binds := [(Str.ofString "payload", .bytes (byteArr ns) tp)]) (sl₀ := [some (.bytes (byteArr ns) tp), none]) (z := 2) ?hf ?hc ?hb ?hl ?c2 ?c3 ?c4 ?c5 ?hs ?_
  walk_at "v_enter"
  intro cx S ok one hn' he hr t
  refine vc_go (f := 40) (rs := rs_read_lines) ok (by kernel_rfl) (by kernel_rfl) ?_
  refine (read_number_c w tp ns news hin hl).tri ok rfl ?_ fun C q => ⟨hn', he C ⟨q.1, fun h => q.2 h.1⟩⟩
  intro hz1 n' hz2 t
  refine hide _ fun hidP hidH => ?_
  obtain ⟨⟨tv, rfl⟩, en, e2⟩ := hz2
  refine hidH ?_
  clear hidH
  subst en
  refine fun t => want_t ok rfl (fun e t => ?_) fun e => ⟨hn', he _ ⟨rfl, fun h => absurd h.2 (of_decide_eq_false e)⟩⟩
  exact ⟨_, sub_id, hr _ _ ⟨⟨_, rfl⟩, rfl, e2, of_decide_eq_true e⟩⟩
theorem write_lines_c (w : World) (n : Int) (tn : Tok) (news : Led) :
    Cn w 8 306 [.int n tn] news (fun v n' => (∃ t, v = .bytes (byteArr [n / 256, n % 256]) t) ∧ n' = news ∧ (0 < n ∧ n ≤ 65535)) (fun C => (C = 44 ∧ ¬ 0 < n) ∨ (C = 68 ∧ 65535 < n)) := by
  have hfill := fill_ w
  revert hfill
  k_fill
  intro _
  refine' Cn.of (binds := [(Str.ofString "lines", .int n tn)]) (sl₀ := [some (.int n tn)]) (z := 2) ?hf ?hc ?hb ?hl ?c2 ?c3 ?c4 ?c5 ?hs ?_
  walk_at "v_enter"
  intro cx S ok one hn' he hr t
  refine vc_go (f := 40) (rs := rs_write_lines) ok (by kernel_rfl) (by kernel_rfl) ?_
  refine fun t => want_t ok rfl (fun e t => ?_) fun e => ⟨hn', he _ (.inl ⟨rfl, of_decide_eq_false e⟩)⟩
  have e1 := of_decide_eq_true e
  exact (word_c w n tn news).tri ok rfl (fun v n' q t => ⟨n', sub_id, hr _ _ ⟨q.1, q.2.1, e1, q.2.2.2⟩⟩) fun C q => ⟨hn', he C (.inr ⟨q.1, Int.not_le.mp fun h => q.2 ⟨Int.le_of_lt e1, h⟩⟩)⟩
/-- a contract that asks something of the base -/
noncomputable abbrev CnB (P : Heap → Prop) (w : World) (D : Nat) (f : Addr) (vs : List Value) (news : Led) (R : Value → Led → Prop) : Prop :=
  ∀ (loose : List Str) (mean : ExcName → Option Value) (mg mb : Str → Option Value) (dp un : Nat) (gd : Option (List Code)) (cn : Str) (cs : Scope) (a : Addr) (ccd : Value) (cl : List (Str × Addr)) (outer : List Env) (A₀ : Around) (base h₀ : Heap) (L : Addr) (m : Str → Option Value) (s : Shared) (Q E : Value → Shared → Prop),
    Below A₀ base outer h₀ → Fr h₀ L s.heap m → (K w.params).In h₀ → News h₀ L s.heap news → Top topProg loose mean mg mb h₀ → P base → cs.kind = .function → dp + D < 500 → un + 8 * D < 2000 →
    (∀ v news' h' tk', R v news' → Fr h₀ L h' m → News h₀ L h' news' → Q v { s with heap := h', toks := tk' }) → Fill w →
    wpAny (MM w) (ktrTop dp un gd cn cs L a ccd cl outer) (call (.ref f) vs) Q E s
theorem CnB.of {P : Heap → Prop} {w : World} {D : Nat} {f : Addr} {vs : List Value} {news : Led} {R : Value → Led → Prop} {name qual : Str} {params : Arguments} {body : List Stmt} {scope : Scope} {dV kV doc pm cdv ct oc : Value} {an od : Option Addr} {osl : Array (Option Value)} {binds : List (Str × Value)} {sl₀ : Sl}
    (hf : (K w.params).lookup f = some { cls := oc, dict := od, data := .func (fnOf name qual params body scope dV kV doc pm an cdv ct), slots := osl }) (hc : codeIn (K w.params) cdv qual = true)
    (hb : ∀ s, BindsTo s (fnOf name qual params body scope dV kV doc pm an cdv ct) ⟨vs, []⟩ binds) (hl : ∀ y ∈ binds, scope.names.lookup y.1 = some .local)
    (c2 : scope.isCoroutine = false) (c3 : scope.isGenerator = false) (c4 : scope.kind = .function) (c5 : ∀ x ∈ scope.names, x.2 ≠ .cell)
    {z : Nat} (hs : scope.names.map (fun p => binds.reverse.lookup p.1) = sl₀ ++ List.replicate z none)
    (run : ∀ (c : Cx w scope) (S : Value → Led → Prop), c.Ok D → c.One → P c.base → (∀ v n, R v n → S v n) → ∀ t, Tri c sl₀ news t (execs body c.env) (retK S)) : CnB P w (D + 1) f vs news R := by
  intro loose mean mg mb dp un gd cn cs a ccd cl outer A₀ base h₀ L m s Q E B F X' N T HP hk hdp hun hret hfl
  refine wpAny_call (code_def (K := K w.params) B F X' N T rfl rfl hk hf hc (Nat.lt_of_le_of_lt (Nat.le_of_lt_succ (Nat.lt_succ_of_lt (Nat.lt_of_le_of_lt (Nat.le_add_right dp (D + 1)) hdp))) (by decide)) (hb s) hl ?_ c2 c3 c4 c5)
  intro g L' h₁ FG F' N' B' X'' T'
  rw [menuOf_start hl hs] at F'
  let c : Cx w scope := { loose, mean, mg, mb, dp := dp + 1, un := un + 3, gd, cn := qual, a := f, ccd := cdv, cl := [], outer := envX cn cs L a ccd cl :: outer, A₀ := ktrTop dp un gd cn cs L a ccd cl outer, base, turn := fun b => b = g, L := L', g := s.gens, d := s.drawn, o := s.os, n₀ := news, ke := fun _ => False, E := fun e s' => wpAny (MM w) ((ktrTop dp un gd cn cs L a ccd cl outer).deeper (envOf qual scope L' f cdv)) (leaving (envOf qual scope L' f cdv) e) (fun _ s'' => E e s'') (fun e' s'' => E e' s'') s' }
  have ok : c.Ok D := ⟨fun b e => e ▸ B', fun b e => e ▸ X'', fun b e => e ▸ T', c4, by show dp + 1 + D < 500; omega, by show un + 3 + 8 * D < 2000; omega, hfl, fun v s' h => (er_no (fun _ h => h) h).elim, by show PassesOwn _ _ _ _; passes_own⟩
  have key := run c R ok (fun _ _ e e' => e.trans e'.symm) HP (fun _ _ h => h) (s.toks + binds.length) h₁ ⟨g, rfl, F', N'⟩
  refine wpAny_mono key ?_ fun _ _ e => e
  intro fl s' hz1
  refine hide _ fun hidP hidH => ?_
  obtain ⟨h', sl, n, t, rfl, ⟨b, eb, F'', N''⟩, n', hs', hr⟩ := hz1
  refine hidH ?_
  clear hidH
  obtain rfl : b = g := eb
  cases fl <;> exact leaveK_ F'' (fun p hp => N'' p (hs' p hp)) fun F3 N3 => hret _ _ _ _ hr F3 N3
noncomputable def RS.nx : RS → RS
  | .asg _ _ r => r
  | r => r
section
variable {w : World} {cs : Scope} {c : Cx w cs} {D : Nat} {sl : Sl} {n : Led} {t : Nat}
theorem CnB.tri {P : Heap → Prop} {D D' : Nat} {f : Addr} {vs : List Value} {R : Value → Led → Prop} (cn : CnB P w D f vs n R) (ok : c.Ok D') (hD : Nat.ble D D' = true) (hP : P c.base) {k : KV} (hR : ∀ v n', R v n' → ∀ t, k v sl n' t) : Tri c sl n t (call (.ref f) vs) k := by
  have hD := Nat.le_of_ble_eq_true hD
  intro h hz2
  refine hide _ fun hidP hidH => ?_
  obtain ⟨b, W, F, N⟩ := hz2
  refine hidH ?_
  clear hidH
  exact cn c.loose c.mean c.mg c.mb c.dp c.un c.gd c.cn cs c.a c.ccd c.cl c.outer c.A₀ c.base b c.L _ _ _ _ (ok.B b W) F (ok.X b W) N (ok.T b W) hP ok.hk (Nat.lt_of_le_of_lt (Nat.add_le_add_left hD _) ok.hd) (Nat.lt_of_le_of_lt (Nat.add_le_add_left (Nat.mul_le_mul_left 8 hD) _) ok.hu)
    (fun v n' h' tk' r F' N' => ⟨h', sl, n', tk', rfl, ⟨b, W, F', N'⟩, hR v n' r tk'⟩) ok.fl
theorem base_list (ok : c.Ok D) {l : Addr} {its : Array Value} (hl : c.base.IsList l its) {b h : Heap} (W : c.turn b) {m : Str → Option Value} (F : Fr b c.L h m) : h.IsList l its :=
  hl.at fun o e => F.keep _ _ ((ok.B b W).stays _ _ e)
theorem lenBase_t (ok : c.Ok D) {l : Addr} {vs : List Value} {k : KV} (hl : c.base.IsList l vs.toArray) (hz : vs.length < 1000) (h : ∀ tv t, k (.int (vs.length : Nat) tv) sl n t) : Tri c sl n t (call (.builtin "len") [.ref l]) k :=
  fun hp ⟨b, W, F, N⟩ => call_len_list (s := c.sh hp t) (base_list ok hl W F) (by rw [List.size_toArray]; omega) (by rw [List.size_toArray]; exact ⟨hp, sl, n, _, rfl, ⟨b, W, F, N⟩, h _ _⟩)
theorem itemBase_t (ok : c.Ok D) {value slice : PySem.Expr} {l : Addr} {vs : List Value} {ns : List Int} {i : Int} {u : Tok} {k : KV} (hl : c.base.IsList l vs.toArray) (hi : IntsAre vs ns) (h0 : 0 ≤ i) (h1 : i < ns.length) (hz : ns.length < 1000) (h : ∀ x tx t, k (.int x tx) sl n t)
    (hs : subscripted slice false (.ref l) (.int i u) = operate [.ref l, .int i u] (getItem (.ref l) (.int i u)) := by with_unfolding_all rfl) : Tri c sl n t (subscriptTail value slice (.ref l) (.int i u)) k := by
  have hk : i.toNat < ns.length := by omega
  obtain ⟨tx, hx⟩ := hi.get i.toNat ns[i.toNat] (by simp [hk])
  exact fun hp ⟨b, W, F, N⟩ => tail_any (base_list ok hl W F).typeIs slot_list_getitem.lookup (wpAny_getItem_list (s := c.sh hp t) (base_list ok hl W F) h0 (by omega) (by simpa using hx) ⟨hp, sl, n, t, rfl, ⟨b, W, F, N⟩, h _ _ _⟩) hs
theorem pow_t {a b : Int} {ta tb : Tok} {k : KV} (hn : 0 ≤ b) (hz : (Builtin.Int.intBits a : Int) * b ≤ 2 ^ 27) (h : ∀ tv t, k (.int (a ^ b.toNat) tv) sl n t) : Tri c sl n t (binaryOp .Pow (.int a ta) (.int b tb)) k :=
  fun hp H => pow_int (s := c.sh hp t) hn hz ⟨hp, sl, n, _, rfl, H, h _ _⟩
theorem well_tail {f0 : Option Value} {i x : Int} {ti tx : Tok} {kf : KF} (h : ∀ wl a b ta tb sl t, (∀ p ∈ n, p.1 < wl) → kf (.ret (.ref wl)) sl ((wl, listOf #[.int a ta, .int b tb] 0) :: n) t) : vcS c rs__law_well.nx [f0, some (.int i ti), some (.int x tx), none] n t kf := by
  have last : ∀ (y : Int) (ty : Tok) (t : Nat), vcS c rs__law_well.nx.nx [f0, some (.int i ti), some (.int x tx), some (.int y ty)] n t kf := by
    intro y ty t
    refine pow_t (by decide) (by decide +kernel) fun tv t => ?_
    have fin : ∀ (z : Int) (tz : Tok) (t : Nat), vcL c (.cons (.bin (.bin (.bin (.bin (.bin (.loc 3) .Mod (.int 999863)) .Mult (.int 277)) .Add (.bin (.int 107) .Mult (.loc 1))) .Add (.int 37)) .Mod (.int 65371)) .nil) [f0, some (.int i ti), some (.int x tx), some (.int y ty)] n t fun vs sl n t => (.int z tz :: vs).length ≤ 64 ∧ ∀ l, (∀ p ∈ n, p.1 < l) → kf (.ret (.ref l)) sl ((l, listOf (Value.int z tz :: vs).toArray 0) :: n) t := by
      intro z tz t
      refine mod_t (by decide) fun u1 t => mul_t (mul_r (by decide +kernel)) (mul_t (mul_l (by decide +kernel)) (mod_t (by decide) fun u2 t => ⟨Nat.le_of_ble_eq_true rfl, fun l hl => h l _ _ _ _ _ _ hl⟩))
    exact ⟨fun _ => fin _ _ _, fun _ => fin _ _ _⟩
  exact fun t => ⟨fun _ => last _ _ _, fun _ => last _ _ _⟩
end
theorem well_c (w : World) (sl : Addr) (vs : List Value) (ns : List Int) (i : Int) (ti : Tok) (news : Led) (hi : IntsAre vs ns) (hn : ns.length < 1000) (h0 : 0 ≤ i) :
    CnB (fun b => b.IsList sl vs.toArray) w 4 313 [.ref sl, .int i ti] news (fun v n' => ∃ wl a b ta tb, v = .ref wl ∧ n' = (wl, listOf #[.int a ta, .int b tb] 0) :: news ∧ ∀ p ∈ news, p.1 < wl) := by
  have hfill := fill_ w
  revert hfill
  k_fill
  intro _
  refine' CnB.of (binds := [(Str.ofString "script", .ref sl), (Str.ofString "turn", .int i ti)]) (sl₀ := [some (.ref sl), some (.int i ti), none, none]) (z := 1) ?hf ?hc ?hb ?hl ?c2 ?c3 ?c4 ?c5 ?hs ?_
  walk_at "v_enter"
  intro cx S ok one hP hr t
  have e := hi.length
  refine vc_go (f := 40) (rs := rs__law_well) ok (by kernel_rfl) (by kernel_rfl) ?_
  have fin : ∀ wl a b ta tb (sl : Sl) (t : Nat), (∀ p ∈ news, p.1 < wl) → retK S (.ret (.ref wl)) sl ((wl, listOf #[.int a ta, .int b tb] 0) :: news) t := fun wl a b ta tb sl t hl => ⟨_, sub_id, hr _ _ ⟨wl, a, b, ta, tb, rfl, rfl, hl⟩⟩
  refine lenBase_t ok hP (by omega) fun tv t => ⟨fun g => ?_, fun _ => ?_⟩
  · refine itemBase_t ok hP hi h0 (by have := of_decide_eq_true g; omega) hn fun x tx t => ?_
    exact well_tail (kf := retK S) fin
  · exact well_tail (kf := retK S) (t := t + 1 + 1) fin
noncomputable def IntsL (news : Led) (l : Addr) (ns : List Int) : Prop := ∃ (vs : List Value) (n : Nat), (l, listOf vs.toArray n) ∈ news ∧ IntsAre vs ns
theorem IntsL.mono {news news' : Led} {l : Addr} {ns : List Int} (h : IntsL news l ns) (hs : ∀ p ∈ news, p ∈ news') : IntsL news' l ns := by
  refine hide _ fun hidP hidH => ?_
  obtain ⟨vs, n, a, b⟩ := h
  refine hidH ?_
  clear hidH
  exact ⟨vs, n, hs _ a, b⟩
inductive ScanRow (news : Led) (v : Value) (I D A : List Int) (st en hi lo : Int) : Prop
  | mk (x li ld la : Addr) (t1 t2 t3 t4 : Tok) (z0 : v = .ref x) (z1 : (x, tup [.ref li, .ref ld, .ref la, .int st t1, .int en t2, .int hi t3, .int lo t4]) ∈ news) (z2 : IntsL news li I) (z3 : IntsL news ld D) (z4 : IntsL news la A) : ScanRow news v I D A st en hi lo
theorem ScanRow.mono {news news' : Led} {v : Value} {I D A : List Int} {st en hi lo : Int} (h : ScanRow news v I D A st en hi lo) (hs : ∀ p ∈ news, p ∈ news') : ScanRow news' v I D A st en hi lo := by
  refine hide _ fun hidP hidH => ?_
  obtain ⟨x, li, ld, la, t1, t2, t3, t4, e, a, b, c, d⟩ := h
  refine hidH ?_
  clear hidH
  exact ⟨x, li, ld, la, t1, t2, t3, t4, e, hs _ a, b.mono hs, c.mono hs, d.mono hs⟩
theorem sub_and {a : Addr × Obj} {l : Led} {P : Addr → Prop} (h : P a.1) (h' : ∀ p ∈ l, P p.1) : ∀ p ∈ a :: l, P p.1 := fun p hp => (List.mem_cons.mp hp).elim (fun e => e ▸ h) (h' p)
section
variable {w : World} {cs : Scope} {c : Cx w cs} {D : Nat} {sl : Sl} {n : Led} {t : Nat}
/-- a comprehension of numbers drawn from the well; the ledger beside it stays -/
theorem comp_well_g (one : c.One) {e : Env} {elt : PySem.Expr} {x : Str} {scope : Scope} {cl : List (Str × Addr)} {Fn : Heap → Shared → List Value → Led → Prop} {r wl : Addr} {a : Int} {t1 u1 v1 : Tok} {N nn : Nat} {rest : Led} (H : Well wl nn n rest) (hr : (r, rangeObj a t1 u1 v1) ∈ n) (ha : a = (N : Int)) (hN : N < 100000)
    (turn : ∀ I oI C oC Dl oD n' t, Well wl nn n' ((I, oI) :: (C, oC) :: (Dl, oD) :: rest) → Tri c.calm sl n' t (eval elt (compEnvC scope cl C e)) fun y sl' n'' _ => sl' = sl ∧ (∃ i t, y = .int i t) ∧ Well wl nn n'' ((I, oI) :: (C, oC) :: (Dl, oD) :: rest))
    (fin : ∀ b g t ys ns n', c.turn b → IntsAre ys ns → ns.length = N → Well wl nn n' rest → Fn b (c.sh g t) ys n') : CompG c e elt x scope cl sl Fn (.ref r) sl n t := by
  refine comp_range_g one (fun i ys n' => ∃ ns, IntsAre ys ns ∧ ns.length = i ∧ Well wl nn n' rest) hr ha hN ⟨[], .nil, rfl, H⟩ ?_ ?_
  · intro i tv I oI C oC Dl ys n' t hi hz1 hV off ne
    refine hide _ fun hidP hidH => ?_
    obtain ⟨ns, hy, hl, wa, wb, ta, tb, h1, h2⟩ := hz1
    refine hidH ?_
    clear hidH
    have q := off.mem _ (h1 _ (.head _))
    have H : Well wl nn ((I, oI) :: (C, oC) :: (Dl, LCg.lst ys) :: n') ((I, oI) :: (C, oC) :: (Dl, LCg.lst ys) :: rest) :=
      Well.up (Well.up (Well.up ⟨wa, wb, ta, tb, h1, h2⟩ (Ne.symm q.2.2)) (Ne.symm q.2.1)) (Ne.symm q.1)
    refine (turn I oI C oC Dl (LCg.lst ys) _ t H).mono ?_
    intro y sl' n2 t' hz2
    refine hide _ fun hidP hidH => ?_
    obtain ⟨e, ⟨z, tz, rfl⟩, wa', wb', ta', tb', h3, h4⟩ := hz2
    refine hidH ?_
    clear hidH
    refine ⟨e, (wl, listOf #[.int wa' ta', .int wb' tb'] nn) :: rest, sub_cons (h3 _ (.tail _ (.head _))) (sub_cons (h3 _ (.tail _ (.tail _ (.head _)))) (sub_cons (h3 _ (.tail _ (.tail _ (.tail _ (.head _))))) (sub_cons (h3 _ (.head _)) fun p hp => h3 p (.tail _ (.tail _ (.tail _ (.tail _ hp))))))),
      LCg.Off3.of (sub_and (P := fun z => z ≠ I ∧ z ≠ C ∧ z ≠ Dl) q fun p hp => off.mem p (h1 _ (.tail _ hp))), ns ++ [z], IntsAre.append hy (.cons _ _ .nil), by rw [List.length_append, hl]; rfl, wa', wb', ta', tb', sub_id, h2⟩
  · intro b g t ys n' W hz3
    refine hide _ fun hidP hidH => ?_
    obtain ⟨ns, hy, hl, H⟩ := hz3
    refine hidH ?_
    clear hidH
    exact fin b g t ys ns n' W hy hl H
end
section
variable {w : World} {cs : Scope} {c : Cx w cs} {D : Nat} {sl : Sl} {n : Led} {t : Nat}
theorem ccell_t {env : Env} {scope : Scope} {cl : List (Str × Addr)} {C a : Addr} {o : Obj} {x : Str} {pos : Pos} {v : Value} {k : KV} (hc : cl.lookup x = some a) (hm : (a, o) ∈ n) (hd : o.data = .cell (some v)) (hk : (compEnvC scope cl C env).scope.kind = .function) (hx : (compEnvC scope cl C env).kindOf x = some .cell ∨ (compEnvC scope cl C env).kindOf x = some .free) (hb : (x == ("__debug__" : Str)) = false) (hn : (x == ("__classdict__" : Str)) = false) (h : k v sl n t) :
    Tri c sl n t (eval (.Name x pos) (compEnvC scope cl C env)) k :=
  hx.elim (fun hx hp ⟨b, W, F, N⟩ => lcf_cell (s := c.sh hp t) N hc hm hd ⟨hp, sl, n, t, rfl, ⟨b, W, F, N⟩, h⟩ hk hx hb) (fun hx hp ⟨b, W, F, N⟩ => lcf_free (s := c.sh hp t) N hc hm hd ⟨hp, sl, n, t, rfl, ⟨b, W, F, N⟩, h⟩ hk hx hb hn)
theorem cint_t {e : Env} {i : Int} {m : Nat} {pos : Pos} {k : KV} (h : k (.int i t) sl n (t + 1)) : Tri c sl n t (eval (.Constant (.int i) m pos) e) k :=
  fun hp H => wpAny_Constant_int (s := c.sh hp t) ⟨hp, sl, n, t + 1, rfl, H, h⟩
/-- a number drawn in a comprehension -/
theorem cmost_t (ok : c.Ok D) (hD : Nat.ble 4 D = true) {env : Env} {scope : Scope} {cl : List (Str × Addr)} {C a wl : Addr} {nn : Nat} {o : Obj} {rest : Led} {x : Str} {p0 p1 p2 pos : Pos} {m : Nat} {top : Int} (H : Well wl nn n rest) (hc : cl.lookup x = some a) (hm : (a, o) ∈ rest) (hd : o.data = .cell (some (.ref wl))) (hk : (compEnvC scope cl C env).scope.kind = .function) (hx : (compEnvC scope cl C env).kindOf x = some .cell ∨ (compEnvC scope cl C env).kindOf x = some .free) (hb : (x == ("__debug__" : Str)) = false) (hn : (x == ("__classdict__" : Str)) = false) (hx0 : (compEnvC scope cl C env).kindOf (Str.ofString "_law_most") = some .globalImplicit) (hge : env.globals = mainGlobals) (ht : 0 ≤ top ∧ top < 999999) :
    Tri c sl n t (eval (.Call (.Name (Str.ofString "_law_most") p0) [.Name x p1, .Constant (.int top) m p2] [] pos) (compEnvC scope cl C env)) fun y sl' n'' _ => sl' = sl ∧ (∃ i t, y = .int i t) ∧ Well wl nn n'' rest := by
  refine ccall_t ok (v := .ref 334) (by kernel_rfl) hk hx0 (by decide) (by rfl) ?_ hge
  refine Tri.args_cons rfl (ccell_t hc (H.sub _ hm) hd hk hx hb hn (Tri.args_cons rfl (cint_t ?_)))
  refine fun h H' => PyProof.Rows.args_nil ⟨h, sl, _, _, rfl, H', ?_⟩
  exact most_t ok H ht hD fun n' p tv t H2 => ⟨rfl, ⟨_, _, rfl⟩, H2⟩
theorem cdraw_t (ok : c.Ok D) (hD : Nat.ble 2 D = true) {env : Env} {scope : Scope} {cl : List (Str × Addr)} {C a wl : Addr} {nn : Nat} {o : Obj} {rest : Led} {x : Str} {p0 p1 p2 pos : Pos} {m : Nat} {top : Int} {k : KV} (H : Well wl nn n rest) (hc : cl.lookup x = some a) (hm : (a, o) ∈ rest) (hd : o.data = .cell (some (.ref wl))) (hk : (compEnvC scope cl C env).scope.kind = .function) (hx : (compEnvC scope cl C env).kindOf x = some .cell ∨ (compEnvC scope cl C env).kindOf x = some .free) (hb : (x == ("__debug__" : Str)) = false) (hn : (x == ("__classdict__" : Str)) = false) (hx0 : (compEnvC scope cl C env).kindOf (Str.ofString "_law_draw") = some .globalImplicit) (hge : env.globals = mainGlobals) (ht : 0 < top ∧ top < 1000000) (h : ∀ n' p tv t, Well wl nn n' rest → 0 ≤ p ∧ p < top → k (.int p tv) sl n' t) :
    Tri c sl n t (eval (.Call (.Name (Str.ofString "_law_draw") p0) [.Name x p1, .Constant (.int top) m p2] [] pos) (compEnvC scope cl C env)) k := by
  refine ccall_t ok (v := .ref 320) (by kernel_rfl) hk hx0 (by decide) (by rfl) ?_ hge
  refine Tri.args_cons rfl (ccell_t hc (H.sub _ hm) hd hk hx hb hn (Tri.args_cons rfl (cint_t ?_)))
  exact fun h' H' => PyProof.Rows.args_nil ⟨h', sl, _, _, rfl, H', draw_t ok H ht hD h⟩
theorem add_k {a b : Int} {ta tb : Tok} {k : KV} (h : k (.int (a + b) t) sl n (t + 1)) : vcBin c .Add (.int a ta) (.int b tb) sl n t k := h
theorem addI_t {a b : Int} {ta tb : Tok} {k : KV} (h : k (.int (a + b) t) sl n (t + 1)) : Tri c sl n t (binaryOp .Add (.int a ta) (.int b tb)) k := vcBin_ok h
theorem itemV_t {value slice : PySem.Expr} {l : Addr} {vs : List Value} {nn j : Nat} {v : Value} {u : Tok} {k : KV} (hm : (l, listOf vs.toArray nn) ∈ n) (hv : vs[j]? = some v) (hz : vs.length < 1000) (h : ∀ t, k v sl n t)
    (hs : subscripted slice false (.ref l) (.int (j : Int) u) = operate [.ref l, .int (j : Int) u] (getItem (.ref l) (.int (j : Int) u)) := by with_unfolding_all rfl) : Tri c sl n t (subscriptTail value slice (.ref l) (.int (j : Int) u)) k :=
  fun hp ⟨b, W, F, N⟩ => tail_any (News.isList N hm).typeIs slot_list_getitem.lookup (wpAny_getItem_list (s := c.sh hp t) (News.isList N hm) (by omega) (by have := (List.getElem?_eq_some_iff.mp hv).1; omega) (by simpa using hv) ⟨hp, sl, n, t, rfl, ⟨b, W, F, N⟩, h _⟩) hs
noncomputable def Two (n : Led) (y : Value) : Prop := ∃ l ns, y = .ref l ∧ IntsL n l ns ∧ ns.length < 100
theorem Two.mono {n n' : Led} {y : Value} (h : Two n y) (hs : ∀ p ∈ n, p ∈ n') : Two n' y := by
  refine hide _ fun hidP hidH => ?_
  obtain ⟨l, ns, e, a, b⟩ := h
  refine hidH ?_
  clear hidH
  exact ⟨l, ns, e, a.mono hs, b⟩
/-- a comprehension of two lists of drawn numbers -/
theorem comp_two_g (one : c.One) {e : Env} {elt : PySem.Expr} {x : Str} {scope : Scope} {cl : List (Str × Addr)} {Fn : Heap → Shared → List Value → Led → Prop} {r wl : Addr} {t1 u1 v1 : Tok} {nn : Nat} {rest : Led} (H : Well wl nn n rest) (hr : (r, rangeObj 2 t1 u1 v1) ∈ n)
    (turn : ∀ I oI C oC Dl oD rest' n' t, (∀ p ∈ rest, p ∈ rest') → Well wl nn n' ((I, oI) :: (C, oC) :: (Dl, oD) :: rest') → Tri c.calm sl n' t (eval elt (compEnvC scope cl C e)) fun y sl' n'' _ => sl' = sl ∧ ∃ l vs ns, y = .ref l ∧ IntsAre vs ns ∧ ns.length < 100 ∧ Well wl nn n'' ((l, LCg.lst vs) :: (I, oI) :: (C, oC) :: (Dl, oD) :: rest') ∧ ∀ p ∈ (I, oI) :: (C, oC) :: (Dl, oD) :: rest', p.1 ≠ l)
    (fin : ∀ b g t l0 l1 ns0 ns1 rest' n', c.turn b → IntsL rest' l0 ns0 → IntsL rest' l1 ns1 → ns0.length < 100 → ns1.length < 100 → (∀ p ∈ rest, p ∈ rest') → Well wl nn n' rest' → Fn b (c.sh g t) [.ref l0, .ref l1] n') : CompG c e elt x scope cl sl Fn (.ref r) sl n t := by
  refine comp_range_g one (N := 2) (fun i ys n' => ∃ rest', (∀ p ∈ rest, p ∈ rest') ∧ Well wl nn n' rest' ∧ ys.length = i ∧ ∀ y ∈ ys, Two rest' y) hr rfl (by decide) ⟨rest, sub_id, H, rfl, fun _ h => nomatch h⟩ ?_ ?_
  · intro i tv I oI C oC Dl ys n' t hi hz1 hV off ne
    refine hide _ fun hidP hidH => ?_
    obtain ⟨rest', hs, ⟨wa, wb, ta, tb, h1, h2⟩, hl, hy⟩ := hz1
    refine hidH ?_
    clear hidH
    have q := off.mem _ (h1 _ (.head _))
    have H : Well wl nn ((I, oI) :: (C, oC) :: (Dl, LCg.lst ys) :: n') ((I, oI) :: (C, oC) :: (Dl, LCg.lst ys) :: rest') :=
      Well.up (Well.up (Well.up ⟨wa, wb, ta, tb, h1, h2⟩ (Ne.symm q.2.2)) (Ne.symm q.2.1)) (Ne.symm q.1)
    refine (turn I oI C oC Dl (LCg.lst ys) rest' _ t hs H).mono ?_
    intro y sl' n2 t' hz2
    refine hide _ fun hidP hidH => ?_
    obtain ⟨e, l, vs, ns, rfl, hv, hn, ⟨wa', wb', ta', tb', h3, h4⟩, hne⟩ := hz2
    refine hidH ?_
    clear hidH
    refine ⟨e, (wl, listOf #[.int wa' ta', .int wb' tb'] nn) :: (l, LCg.lst vs) :: rest', sub_cons (h3 _ (.tail _ (.tail _ (.head _)))) (sub_cons (h3 _ (.tail _ (.tail _ (.tail _ (.head _))))) (sub_cons (h3 _ (.tail _ (.tail _ (.tail _ (.tail _ (.head _)))))) (sub_cons (h3 _ (.head _)) (sub_cons (h3 _ (.tail _ (.head _))) fun p hp => h3 p (.tail _ (.tail _ (.tail _ (.tail _ (.tail _ hp))))))))),
      LCg.Off3.of (sub_and (P := fun z => z ≠ I ∧ z ≠ C ∧ z ≠ Dl) q (sub_and (P := fun z => z ≠ I ∧ z ≠ C ∧ z ≠ Dl) ⟨Ne.symm (hne _ (.head _)), Ne.symm (hne _ (.tail _ (.head _))), Ne.symm (hne _ (.tail _ (.tail _ (.head _))))⟩ fun p hp => off.mem p (h1 _ (.tail _ hp)))),
      (l, LCg.lst vs) :: rest', fun p hp => .tail _ (hs p hp), ⟨wa', wb', ta', tb', sub_id, off_cons (h4 _ (.head _)) h2⟩, by rw [List.length_append, hl]; rfl, fun y hy' => ?_⟩
    rcases List.mem_append.mp hy' with hy' | hy'
    · exact (hy y hy').mono fun p hp => .tail _ hp
    · rw [List.mem_singleton.mp hy']; exact ⟨l, ns, rfl, ⟨vs, vs.length, .head _, hv⟩, hn⟩
  · intro b g t ys n' W hz3
    refine hide _ fun hidP hidH => ?_
    obtain ⟨rest', hs, H, hl, hy⟩ := hz3
    refine hidH ?_
    clear hidH
    match ys, hl with
    | [y0, y1], _ =>
      refine hide _ fun hidP hidH => ?_
      obtain ⟨l0, ns0, rfl, a0, b0⟩ := hy y0 (.head _)
      refine hidH ?_
      clear hidH
      refine hide _ fun hidP hidH => ?_
      obtain ⟨l1, ns1, rfl, a1, b1⟩ := hy y1 (.tail _ (.head _))
      refine hidH ?_
      clear hidH
      exact fin b g t l0 l1 ns0 ns1 rest' n' W a0 a1 b0 b1 hs H
end
theorem getD7 (n : Nat) : -1 ≤ [(0 : Int), 0, 0, 0, 0, 1, -1].getD n 0 ∧ [(0 : Int), 0, 0, 0, 0, 1, -1].getD n 0 ≤ 1 := by
  have h : ∀ x ∈ [(0 : Int), 0, 0, 0, 0, 1, -1], -1 ≤ x ∧ x ≤ 1 := by decide
  rw [List.getD_eq_getElem?_getD]
  cases e : [(0 : Int), 0, 0, 0, 0, 1, -1][n]? with
  | none => exact ⟨by decide, by decide⟩
  | some x => exact h x (List.mem_of_getElem? e)
theorem Well.off1 {wl Dl : Addr} {nn : Nat} {n rest : Led} (H : Well wl nn n rest) (o : LCg.Off1 Dl n) : @Ne Nat Dl wl := by
  refine hide _ fun hidP hidH => ?_
  obtain ⟨a, b, ta, tb, h1, h2⟩ := H
  refine hidH ?_
  clear hidH
  exact Ne.symm (off1_mem o _ (h1 _ (.head _)))
theorem Well.off1s {wl Dl : Addr} {nn : Nat} {n rest : Led} (H : Well wl nn n rest) (o : LCg.Off1 Dl n) : ∀ p ∈ rest, p.1 ≠ Dl := fun p hp => off1_mem o p (H.sub p hp)
noncomputable def ScanPost (wl : Addr) (nn : Nat) (rest : Led) (v : Value) (n' : Led) : Prop := ∃ I D A st en hi lo a' b' ta' tb' rest', n' = (wl, listOf #[.int a' ta', .int b' tb'] nn) :: rest' ∧ ScanRow rest' v I D A st en hi lo ∧ 1 ≤ I.length ∧ I.length < 100 ∧ D.length < 100 ∧ A.length < 100 ∧ (∀ p ∈ rest', p.1 ≠ wl) ∧ ∀ p ∈ rest, p ∈ rest'
theorem scan_done {wl X li l0 l1 : Addr} {nn : Nat} {n rest rest' : Led} {ys : List Value} {ns ns0 ns1 : List Int} {st en hi lo : Int} {t1 t2 t3 t4 : Tok} {S : Value → Led → Prop} (hr : ∀ v n, ScanPost wl nn rest v n → S v n)
    (H : Well wl nn n ((X, tup [.ref li, .ref l0, .ref l1, .int st t1, .int en t2, .int hi t3, .int lo t4]) :: rest')) (hl : (li, LCg.lst ys) ∈ rest') (hy : IntsAre ys ns) (hn : 1 ≤ ns.length ∧ ns.length < 100) (h0 : IntsL rest' l0 ns0) (h1 : IntsL rest' l1 ns1) (b0 : ns0.length < 100) (b1 : ns1.length < 100) (hs : ∀ p ∈ rest, p ∈ rest') :
    ∃ n', (∀ p ∈ n', p ∈ n) ∧ S (.ref X) n' := by
  refine hide _ fun hidP hidH => ?_
  obtain ⟨a, b, ta, tb, q1, q2⟩ := H
  refine hidH ?_
  clear hidH
  exact ⟨_, q1, hr _ _ ⟨ns, ns0, ns1, st, en, hi, lo, a, b, ta, tb, _, rfl, ⟨X, li, l0, l1, t1, t2, t3, t4, rfl, .head _, ⟨ys, ys.length, .tail _ hl, hy⟩, h0.mono fun p hp => .tail _ hp, h1.mono fun p hp => .tail _ hp⟩, hn.1, hn.2, b0, b1, q2, fun p hp => .tail _ (hs p hp)⟩⟩
theorem scan_c (w : World) (wl : Addr) (wa wb : Int) (ta tb : Tok) (nn : Nat) (rest : Led) (hoff : ∀ p ∈ rest, p.1 ≠ wl) :
    Cn w 10 389 [.ref wl] ((wl, listOf #[.int wa ta, .int wb tb] nn) :: rest) (fun v n' => ∃ I D A st en hi lo a' b' ta' tb' rest', n' = (wl, listOf #[.int a' ta', .int b' tb'] nn) :: rest' ∧ ScanRow rest' v I D A st en hi lo ∧ 1 ≤ I.length ∧ I.length < 100 ∧ D.length < 100 ∧ A.length < 100 ∧ (∀ p ∈ rest', p.1 ≠ wl) ∧ ∀ p ∈ rest, p ∈ rest') (fun _ => False) := by
  have hfill := fill_ w
  revert hfill
  k_fill
  intro _
  refine' Cn.ofC1 (x := Str.ofString "well") (sl₀ := []) ?hf ?hc ?hb ?hs ?c2 ?c3 ?c4 ?hnd ?_
  case hf => k_is
  case hc => k_is
  case hb => exact fun s => BindsTo.of_eq rfl
  case hs => exact .inr ⟨rfl, 0, rfl⟩
  case c2 => exact rfl
  case c3 => exact rfl
  case c4 => exact rfl
  case hnd => decide +kernel
  intro cx S cells ok one hcl Y hlt hr t
  refine hide _ fun hidP hidH => ?_
  obtain ⟨oM, oW, rfl, hoM, hoW⟩ := CellsAre.two (n := Str.ofString "many") (n' := Str.ofString "well") (c := cx.L + 1 + 1) (c' := cx.L + 1) Y
  refine hidH ?_
  clear hidH
  have hcm : cx.cl.lookup (Str.ofString "many") = some (cx.L + 1 + 1) := by rw [hcl]; rfl
  have hcw : cx.cl.lookup (Str.ofString "well") = some (cx.L + 1) := by rw [hcl]; rfl
  have z0 : wl < cx.L := hlt _ (.head _)
  have z2 : ∀ e ∈ rest, e.1 < cx.L := fun e he => hlt e (.tail _ he)
  have y0 : @Ne Nat (cx.L + 1) (cx.L + 1 + 1) := Ne.symm (Nat.succ_ne_self _)
  have y3 : @Ne Nat wl (cx.L + 1) := Nat.ne_of_lt (Nat.lt_succ_of_lt z0)
  have y4 : @Ne Nat wl (cx.L + 1 + 1) := Nat.ne_of_lt (Nat.lt_succ_of_lt (Nat.lt_succ_of_lt z0))
  have oc2 : ∀ e ∈ rest, e.1 ≠ cx.L + 1 + 1 := fun e he => Nat.ne_of_lt (Nat.lt_succ_of_lt (Nat.lt_succ_of_lt (z2 e he)))
  generalize hcmE : cx.L + 1 + 1 = cm at *
  generalize hcwE : cx.L + 1 = cw at *
  have H0 : Well wl nn ([(cm, oM), (cw, oW)] ++ (wl, listOf #[.int wa ta, .int wb tb] nn) :: rest) ((cm, oM) :: (cw, oW) :: rest) :=
    ⟨wa, wb, ta, tb, sub_cons (.tail _ (.tail _ (.head _))) (sub_cons (.head _) (sub_cons (.tail _ (.head _)) fun p hp => .tail _ (.tail _ (.tail _ hp)))), off_cons (Ne.symm y4) (off_cons (Ne.symm y3) hoff)⟩
  refine vc_go (f := 40) (rs := rs__law_scan) ok (by kernel_rfl) (by kernel_rfl) ?_
  refine asgc_t ok (rv := .bin (.int 1) .Add (.call (.ref 320) (.cons (.raw _) (.cons (.int 5) .nil)))) (by with_unfolding_all rfl) rfl ?_
  refine cell_t ok hcw (H0.sub _ (.tail _ (.head _))) hoW rfl (by decide) ?_
  refine draw_t ok H0 (by decide) rfl fun n1 p1 tp1 t H1 g1 => ?_
  refine add_k (Well.asgc H1 hcm rfl hoM (off_cons y0 oc2) fun oM' n2 hM' H2 => ?_)
  refine asgComp_t ok one (i := 2) (re := .call (.type "range") (.cons (.raw _) .nil)) (cl := [(Str.ofString "well", cw)]) (by kernel_rfl) (by with_unfolding_all rfl) (by show closureFor _ (envX _ _ _ _ _ cx.cl) = _; rw [hcl, ← hcwE]; rfl) (by decide) rfl (by decide) rfl (fun _ => rfl) (by with_unfolding_all rfl) ?_
  refine cell_t ok hcm (H2.sub _ (.head _)) hM' rfl (by decide) ?_
  refine range_t fun rg u1 u2 u3 t hg => ?_
  refine comp_well_g one (N := (1 + p1).toNat) ((H2.up (e := (rg, rangeObj (1 + p1) u1 u2 u3)) (H2.ne hg)).less fun p hp => .tail _ hp) (.head _) (by omega) (by omega) (fun I oI C oC Dl oD n' t H => cmost_t ok.calm rfl H rfl (.tail _ (.tail _ (.tail _ (.tail _ (.head _))))) hoW rfl (by first | exact .inl rfl | exact .inr rfl) (by decide) (by decide) rfl rfl (by decide)) fun b g t ys ns n3 W hy hl H3 => finA (i := 2) (by kernel_rfl) W fun li t o1 => ?_
  have H4 := (H3.up (e := (li, LCg.lst ys)) (H3.off1 o1)).less (rest' := (cm, oM') :: (cw, oW) :: (li, LCg.lst ys) :: rest) (sub_cons (.tail _ (.head _)) (sub_cons (.tail _ (.tail _ (.head _))) (sub_cons (.head _) fun p hp => .tail _ (.tail _ (.tail _ hp)))))
  refine asgComp_t ok one (i := 3) (re := .call (.type "range") (.cons (.int 2) .nil)) (cl := [(Str.ofString "well", cw), (Str.ofString "many", cm)]) (by kernel_rfl) (by with_unfolding_all rfl) (by show closureFor _ (envX _ _ _ _ _ cx.cl) = _; rw [hcl, ← hcmE, ← hcwE]; rfl) (by decide) rfl (by decide) rfl (fun _ => rfl) (by with_unfolding_all rfl) ?_
  refine range_t fun rg2 u1 u2 u3 t hg2 => ?_
  refine comp_two_g one ((H4.up (e := (rg2, rangeObj 2 u1 u2 u3)) (H4.ne hg2)).less fun p hp => .tail _ hp) (.head _) (fun I oI C oC Dl oD rest' n' t hs H => ?_) (fun b g t l0 l1 ns0 ns1 rest' n' W h0 h1 b0 b1 hs H => finA (i := 3) (by kernel_rfl) W fun ls t o2 => ?_)
  · refine comp_in_t (c := cx.calm) one (cl := [(Str.ofString "well", cw)]) (by with_unfolding_all rfl) (by decide) rfl (by decide) rfl (fun _ => rfl) ?_
    refine ccallT_t ok.calm (i := "range") (by kernel_rfl) rfl rfl (by decide) (by rfl) (Tri.args_cons rfl (Tri.bin_ (ccell_t (o := oM') rfl (H.sub _ (.tail _ (.tail _ (.tail _ (hs _ (.head _)))))) hM' rfl (.inl rfl) (by decide) (by decide) ?_)))
    refine Tri.sub_ (Tri.list_ (Tri.args_cons rfl (cint_t (Tri.args_cons rfl (cint_t (Tri.args_cons rfl (cint_t (Tri.args_cons rfl (cint_t (Tri.args_cons rfl (cint_t (Tri.args_cons rfl (cint_t (Tri.args_cons rfl (Tri.un_ (cint_t (neg_t fun tv t h H' => PyProof.Rows.args_nil ⟨h, _, _, _, rfl, H', Nat.le_of_ble_eq_true rfl, fun l hl => ?_⟩)))))))))))))))))
    refine cdraw_t ok.calm rfl (H.up (e := (l, _)) (H.ne hl)) (o := oW) rfl (.tail _ (.tail _ (.tail _ (.tail _ (hs _ (.tail _ (.head _))))))) hoW rfl (.inl rfl) (by decide) (by decide) rfl rfl (by decide) fun n6 p6 tp6 t H6 g6 => ?_
    refine item_t (ns := [0, 0, 0, 0, 0, 1, -1]) (H6.sub _ (.head _)) (.cons _ _ (.cons _ _ (.cons _ _ (.cons _ _ (.cons _ _ (.cons _ _ (.cons _ _ .nil))))))) g6.1 (show p6 < (([0, 0, 0, 0, 0, 1, -1] : List Int).length : Int) from g6.2) (by decide) fun tv7 t => ?_
    have hd := getD7 p6.toNat
    generalize [0, 0, 0, 0, 0, 1, -1].getD p6.toNat (0 : Int) = d at hd ⊢
    refine addI_t (fun h H' => PyProof.Rows.args_nil ⟨h, _, _, _, rfl, H', ?_⟩)
    refine range_t fun rg3 u1 u2 u3 t hg3 => ?_
    refine comp_well_g (c := cx.calm) one (N := (1 + p1 + d).toNat) ((H6.up (e := (rg3, rangeObj (1 + p1 + d) u1 u2 u3)) (H6.ne hg3)).less fun p hp => .tail _ (.tail _ hp)) (.head _) (by omega) (by omega) (fun I2 oI2 C2 oC2 Dl2 oD2 n' t H => cmost_t ok.calm.calm rfl H rfl (.tail _ (.tail _ (.tail _ (.tail _ (.tail _ (.tail _ (hs _ (.tail _ (.head _)))))))) ) hoW rfl (.inl rfl) (by decide) (by decide) rfl rfl (by decide)) (fun b g t ys ns n8 W hy hl H8 => finE W fun Dl2 t o3 => ⟨rfl, Dl2, ys, ns, rfl, hy, by omega, H8.up (H8.off1 o3), H8.off1s o3⟩)
  have H9 := H.up (e := (ls, LCg.lst [.ref l0, .ref l1])) (H.off1 o2)
  have hw := H9.sub _ (.tail _ (hs _ (.tail _ (.head _))))
  refine itemV_t (j := 0) (.head _) rfl (Nat.le_of_ble_eq_true rfl) fun t => itemV_t (j := 1) (.head _) rfl (Nat.le_of_ble_eq_true rfl) fun t => ?_
  refine cell_t ok hcw (H9.sub _ (.tail _ (hs _ (.tail _ (.head _))))) hoW rfl (by decide) (most_t ok H9 (by decide) rfl fun n10 v10 t10 t H10 => ?_)
  refine cell_t ok hcw (H10.sub _ (.tail _ (hs _ (.tail _ (.head _))))) hoW rfl (by decide) (most_t ok H10 (by decide) rfl fun n11 v11 t11 t H11 => ?_)
  refine cell_t ok hcw (H11.sub _ (.tail _ (hs _ (.tail _ (.head _))))) hoW rfl (by decide) (most_t ok H11 (by decide) rfl fun n12 v12 t12 t H12 => ?_)
  refine cell_t ok hcw (H12.sub _ (.tail _ (hs _ (.tail _ (.head _))))) hoW rfl (by decide) (most_t ok H12 (by decide) rfl fun n13 v13 t13 t H13 => ⟨Nat.le_of_ble_eq_true rfl, fun X hX => ?_⟩)
  exact scan_done hr ((H13.up (e := (X, _)) (H13.ne hX)).less (sub_cons (.head _) fun p hp => .tail _ (.tail _ hp))) (hs _ (.tail _ (.tail _ (.head _)))) hy (by omega) h0 h1 b0 b1 fun p hp => hs p (.tail _ (.tail _ (.tail _ hp)))
theorem args_min4 (a b c d : Value) : argsOk "min" ⟨[a, b, c, d], []⟩ := by unfold argsOk; kernel_rfl
section
variable {prog : Program} {w : World} {A : Around} {E : Value → Shared → Prop} {s : Shared}
theorem call_min_four {a b c d : Value} {Q : Value → Shared → Prop}
    (h : wpAny (model prog w) A.in1 (pyIter (.ref s.heap.objs.size)) (fun it s₂ => ∃ I fp wr n P St bt, it = .ref I ∧ Walks prog w A.in1 I fp wr n P St ∧ St 0 s₂.heap ∧ (∀ b ∈ fp, b < s₂.heap.objs.size) ∧ 0 < n ∧ CmpOf prog w A.in1 .Lt P bt ∧
      ∀ v h' tk, P (argBest bt (n - 1)) v → (∀ b o, b ∉ wr → s₂.heap.get? b = some o → h'.get? b = some o) → Q v { s₂ with heap := h', toks := tk }) E
      { s with heap := s.heap.push { cls := .type "tuple", data := .seq #[a, b, c, d] } }) :
    wpAny (model prog w) A (call (.builtin "min") [a, b, c, d]) Q E s := by
  have hname : (toString "min" ++ toString ".loop" : String) = "min.loop" := by decide
  refine call_function_tree F.kind_min F.plain_min F.entry_min (args_min4 _ _ _ _) ?_
  show wpAny _ A.in1 (Builtin.Builtins.bindParams "min" ["key", "default"] 0 ⟨[], []⟩ >>= _) _ _ s
  refine wpAny_bind (wpAny_of_eq (show Builtin.Builtins.bindParams "min" ["key", "default"] 0 ⟨[], []⟩ = pure [none, none] from rfl) ?_)
  show wpAny _ A.in1 (newTuple [a, b, c, d] >>= _) _ _ s
  refine wpAny_bind (wpAny_newObj_type ?_)
  refine wpAny_bind (wpAny_mono h (fun it s₂ h₂ => ?_) fun _ _ e => e)
  refine hide _ fun hidP hidH => ?_
  obtain ⟨I, fp, wr, n, P, St, bt, rfl, W, hst, hfp, hn, hcmp, hQ⟩ := h₂
  refine hidH ?_
  clear hidH
  refine wpAny_bind (wpAny_newObj_type ?_)
  have hSf : s₂.heap.objs.size ∉ fp := fun hm => Nat.lt_irrefl _ (hfp _ hm)
  rw [hname]
  refine wpAny_pure ⟨plainId_quiet F.plain_min_loop _, codeAny_min_loop_first W bt hcmp s₂.heap.objs.size hSf hn (W.frame _ _ _ hst fun b _ o e => Heap.get?_push_of_some _ e) (Heap.get?_push_size _ rfl) fun v h' tk hP hk => ?_⟩
  exact hQ v h' tk hP fun b o hbw e => hk b o hbw (Nat.ne_of_lt (Heap.lt_size e)) (Heap.get?_push_of_some _ e)
theorem min_four {a b c d : Int} {t u v x : Tok} {Q : Value → Shared → Prop} (hh : A.handled = none)
    (h : ∀ m tm h' tk, (m = a ∨ m = b ∨ m = c ∨ m = d) → m ≤ a → m ≤ b → m ≤ c → m ≤ d → (∀ c o, s.heap.get? c = some o → h'.get? c = some o) → Q (.int m tm) { s with heap := h', toks := tk }) :
    wpAny (model prog w) A (call (.builtin "min") [.int a t, .int b u, .int c v, .int d x]) Q E s := by
  have hT : (s.heap.push { cls := .type "tuple", data := .seq #[.int a t, .int b u, .int c v, .int d x] }).IsTuple s.heap.objs.size (intItems #[(a, t), (b, u), (c, v), (d, x)]) := ⟨_, Heap.get?_push_size _ rfl, rfl, 0, by simp [intItems]⟩
  refine call_min_four (wpAny_pyIter_tuple hT ?_)
  have hsz : (s.heap.push { cls := .type "tuple", data := .seq #[.int a t, .int b u, .int c v, .int d x] }).objs.size = s.heap.objs.size + 1 := Heap.size_push ..
  refine ⟨_, [_, s.heap.objs.size], [_], _, _, _, _, rfl, Walks.tuple (A := A.in1) hh _ s.heap.objs.size (by rw [hsz]; exact Nat.ne_of_lt (Nat.lt_succ_self _)) (intItems #[(a, t), (b, u), (c, v), (d, x)]),
    ⟨⟨_, Heap.get?_push_size _ rfl, rfl, rfl⟩, hT.push _⟩, fun c hc => ?_, by simp [intItems], CmpOf.ints_lt (numAt #[(a, t), (b, u), (c, v), (d, x)]) (fun _ _ => intItems_at), fun y h' tk hP hk => ?_⟩
  · show c < ((s.heap.push _).push _).objs.size
    rw [Heap.size_push, hsz]
    rcases List.mem_cons.mp hc with rfl | hc
    · rw [hsz]; exact Nat.lt_succ_self _
    · rcases List.mem_cons.mp hc with rfl | hc
      · exact Nat.lt_succ_of_lt (Nat.lt_succ_self _)
      · cases hc
  · have hold : ∀ c o, s.heap.get? c = some o → h'.get? c = some o := fun c o e => by
      refine hk c o (fun hm => ?_) (Heap.get?_push_of_some _ (Heap.get?_push_of_some _ e))
      rcases List.mem_cons.mp hm with e1 | hm
      · have := Heap.lt_size e; rw [e1, hsz] at this; exact Nat.lt_irrefl _ (Nat.lt_of_succ_lt this)
      · cases hm
    have hsz2 : (intItems #[(a, t), (b, u), (c, v), (d, x)]).size - 1 = 3 := by simp [intItems]
    rw [hsz2] at hP
    obtain ⟨tm, rfl⟩ := intItems_at hP
    obtain ⟨h1, h2⟩ := argBest_lt (numAt #[(a, t), (b, u), (c, v), (d, x)]) 3
    have e0 : numAt #[(a, t), (b, u), (c, v), (d, x)] 0 = a := rfl
    have e1 : numAt #[(a, t), (b, u), (c, v), (d, x)] 1 = b := rfl
    have e2 : numAt #[(a, t), (b, u), (c, v), (d, x)] 2 = c := rfl
    have e3 : numAt #[(a, t), (b, u), (c, v), (d, x)] 3 = d := rfl
    have g0 := h2 0 (by omega)
    have g1 := h2 1 (by omega)
    have g2 := h2 2 (by omega)
    have g3 := h2 3 (by omega)
    rw [e0] at g0; rw [e1] at g1; rw [e2] at g2; rw [e3] at g3
    refine h _ tm h' tk ?_ g0 g1 g2 g3 hold
    generalize hj : argBest (fun i j => decide (numAt #[(a, t), (b, u), (c, v), (d, x)] i < numAt #[(a, t), (b, u), (c, v), (d, x)] j)) 3 = j at *
    rcases (by omega : j = 0 ∨ j = 1 ∨ j = 2 ∨ j = 3) with rfl | rfl | rfl | rfl
    · exact .inl e0
    · exact .inr (.inl e1)
    · exact .inr (.inr (.inl e2))
    · exact .inr (.inr (.inr e3))
theorem min_four_N {h₀ : Heap} {L : Addr} {mm : Str → Option Value} {news : List (Addr × Obj)} {a b c d : Int} {t u v x : Tok} {Q : Value → Shared → Prop} (hh : A.handled = none) (F : Fr h₀ L s.heap mm) (N : News h₀ L s.heap news)
    (h : ∀ m tm h' tk, (m = a ∨ m = b ∨ m = c ∨ m = d) ∧ m ≤ a ∧ m ≤ b ∧ m ≤ c ∧ m ≤ d → Fr h₀ L h' mm → News h₀ L h' news → Q (.int m tm) { s with heap := h', toks := tk }) :
    wpAny (model prog w) A (call (.builtin "min") [.int a t, .int b u, .int c v, .int d x]) Q E s :=
  min_four hh fun m tm h' tk a0 a1 a2 a3 a4 hk => h m tm h' tk ⟨a0, a1, a2, a3, a4⟩ ⟨F.ns.at' fun o e => hk L o e, fun b o e => hk b o (F.keep b o e), F.above⟩ fun p hp => ⟨hk _ _ (N p hp).1, (N p hp).2⟩
theorem max_two_N {h₀ : Heap} {L : Addr} {mm : Str → Option Value} {news : List (Addr × Obj)} {a b : Int} {t u : Tok} {Q : Value → Shared → Prop} (hh : A.handled = none) (F : Fr h₀ L s.heap mm) (N : News h₀ L s.heap news)
    (h : ∀ m tm h' tk, (m = a ∨ m = b) ∧ a ≤ m ∧ b ≤ m → Fr h₀ L h' mm → News h₀ L h' news → Q (.int m tm) { s with heap := h', toks := tk }) :
    wpAny (model prog w) A (call (.builtin "max") [.int a t, .int b u]) Q E s := by
  refine max_two_ints hh fun h' tk hk => ?_
  have F' : Fr h₀ L h' mm := ⟨F.ns.at' fun o e => hk L o e, fun b o e => hk b o (F.keep b o e), F.above⟩
  have N' : News h₀ L h' news := fun p hp => ⟨hk _ _ (N p hp).1, (N p hp).2⟩
  by_cases hb : b > a
  · rw [if_pos hb]; exact h b u h' tk ⟨.inr rfl, by omega, by omega⟩ F' N'
  · rw [if_neg hb]; exact h a t h' tk ⟨.inl rfl, by omega, by omega⟩ F' N'
end
section
variable {w : World} {cs : Scope} {c : Cx w cs} {D : Nat} {sl : Sl} {n : Led} {t : Nat}
/-- a comprehension with a test over numbers, which leaves the ledger alone -/
theorem comp_filter_t (ok : c.Ok D) (one : c.One) (p : Int → Bool) {ct iter : PySem.Expr} {x : Str} {px xp : Pos} {scope : Scope} {cl : List (Str × Addr)} {pos : Pos} {re : RE} {k : KV} (hcl : closureFor scope c.env = pure cl) (hnc : ∀ y ∈ scope.names, y.2 ≠ .cell) (hk : scope.kind = .function)
    (hl : ∀ y ∈ scope.names, y.2 = .local → scope.names.lookup y.1 = some .local) (hx : scope.names.lookup x = some .local) (hs : ∀ v, foldedSetIterable iter c.env v = pure v) (hi : tr cs 12 iter = re)
    (hk2 : ∀ C, (compEnvC scope cl C c.env).scope.kind = .function) (hx2 : ∀ C, (compEnvC scope cl C c.env).kindOf x = some .local) (hd : (x == ("__debug__" : Str)) = false)
    (turn : ∀ z tz C oC n' t, (C, oC) ∈ n' → CompVar oC x (.int z tz) → Tri c.calm sl n' t (isTrue ct (compEnvC scope cl C c.env) (eval ct (compEnvC scope cl C c.env))) fun b sl' n'' _ => sl' = sl ∧ b = p z ∧ ∀ q ∈ n', q ∈ n'')
    (h : vcE c re sl n t fun v sl' n' _ => sl' = sl ∧ ∃ l vs nn ns, v = .ref l ∧ (l, listOf vs.toArray nn) ∈ n' ∧ IntsAre vs ns ∧ ns.length < 1000 ∧ ∀ ys Dl t, IntsAre ys (ns.filter p) → LCg.Off1 Dl n' → k (.ref Dl) sl ((Dl, LCg.lst ys) :: n') t) :
    Tri c sl n t (eval (.ListComp (.Name x xp) [⟨.Name x px, iter, [ct], 0⟩] scope pos) c.env) k := by
  subst hi
  intro hp hz1
  refine hide _ fun hidP hidH => ?_
  obtain ⟨b, W, F, N⟩ := hz1
  refine hidH ?_
  clear hidH
  refine LCt.ListComp_T (s := c.sh hp t) F hcl hnc hk hl hx ((vc_ok ok 12 iter sl n t _ h).seq ?_ ⟨b, W, F, N⟩) hs
  intro v sl' n' t' hz2 h' hz3
  refine hide _ fun hidP hidH => ?_
  obtain ⟨rfl, l, vs, nn, ns, rfl, hm, hi, hz, fin⟩ := hz2
  obtain ⟨b', W', F', N'⟩ := hz3
  refine hidH ?_
  clear hidH
  obtain rfl := one b b' W W'
  have hlen : vs.length = ns.length := hi.length
  refine LCt.CompSrcT.ledger (s₁ := c.sh h' t') rfl F' N' hm (by rw [PySem.sizeLine_eq, List.size_toArray]; omega) fun g => ?_
  rw [List.size_toArray, hlen]
  have key : ∀ (j i : Nat) (ys : List Value), i + j = ns.length → IntsAre ys ((ns.take i).filter p) → LCt.CompRestT PySem.Challenge.rw_pf0239_01.prog w c.A b c.L (menuOf cs.names sl') c.env ct (.Name x xp) x scope cl (c.sh g t') (LCg.SrcAt b l vs.toArray) (fun i v => vs.toArray[i]? = some v) (LCg.FinE b c.L (menuOf cs.names sl') (c.sh g t') (Post c k)) j i ys n' := by
    intro j
    induction j with
    | zero =>
      intro i ys hij hy
      rw [show i = ns.length by omega, List.take_length] at hy
      exact LCt.CompRestT.zero (finE W fun Dl t o1 => fin ys Dl t hy o1)
    | succ j ih =>
      intro i ys hij hy
      refine LCt.CompRestT.succ ?_
      intro v I oI C oC Dl m₂ hh tk E' hv hC hxm F N off ne
      obtain ⟨tz, rfl⟩ := IntsAre.int_at hi i v (by simpa using hv)
      have hge : ns[i]? = some (ns.getD i 0) := by
        rw [List.getD_eq_getElem?_getD, List.getElem?_eq_getElem (by omega)]; rfl
      have htk : ns.take (i + 1) = ns.take i ++ [ns.getD i 0] := by rw [List.take_add_one, hge]; rfl
      refine wpAny_mono (turn (ns.getD i 0) tz C oC _ tk (.tail _ (.head _)) ⟨m₂, hC, hxm⟩ hh ⟨b, W, F, N⟩) ?_ fun _ _ e => e.elim
      intro ok s hz4
      refine hide _ fun hidP hidH => ?_
      obtain ⟨h2, sl2, n2, t2, rfl, ⟨b2, W2, F2, N2⟩, rfl, hb, hs2⟩ := hz4
      refine hidH ?_
      clear hidH
      obtain rfl := one b b2 W W2
      have src : LCg.SrcAt b l vs.toArray n' := .inr ⟨_, hm, rfl, _, rfl⟩
      cases ok with
      | true =>
        rw [if_pos rfl]
        refine wpAny_mono (cname_t (c := c.calm) (k := fun v' sl' n'' _ => v' = .int (ns.getD i 0) tz ∧ sl' = sl2 ∧ n'' = n2) (hs2 _ (.tail _ (.head _))) ⟨m₂, hC, hxm⟩ (hk2 C) (hx2 C) hd ⟨rfl, rfl, rfl⟩ h2 ⟨b, W, F2, N2⟩) ?_ fun _ _ e => e.elim
        intro y s hz5
        refine hide _ fun hidP hidH => ?_
        obtain ⟨h3, sl3, n3, t3, rfl, ⟨b3, W3, F3, N3⟩, rfl, rfl, rfl⟩ := hz5
        refine hidH ?_
        clear hidH
        obtain rfl := one b b3 W W3
        refine LCg.CompEnd.intro (s₁ := c.sh hh tk) F3 N3 n' hs2 off src (ih (i + 1) _ (by omega) ?_)
        rw [htk, List.filter_append, List.filter_cons_of_pos hb.symm]
        exact IntsAre.append hy (.cons _ tz .nil)
      | false =>
        rw [if_neg (by decide)]
        refine LCg.CompEnd.intro (s₁ := c.sh hh tk) F2 N2 n' hs2 off src (ih (i + 1) _ (by omega) ?_)
        rw [htk, List.filter_append, List.filter_cons_of_neg (by rw [← hb]; decide), List.filter_nil, List.append_nil]
        exact hy
  exact key ns.length 0 [] (by omega) (by simp only [List.take_zero, List.filter_nil]; exact .nil)
theorem neI_t (ok : c.Ok D) {a b : Addr} {xs ys : List Value} {ns ms : List Int} {na nb : Nat} {k : KV} (ha : (a, listOf xs.toArray na) ∈ n) (hb : (b, listOf ys.toArray nb) ∈ n) (hi : IntsAre xs ns) (hj : IntsAre ys ms) (h : k (.bool (!decide (ns = ms))) sl n t) : Tri c sl n t (compareOp .NotEq (.ref a) (.ref b)) k :=
  fun hp ⟨b, W, F, N⟩ => ke_ne_ints (s := c.sh hp t) (News.isList N ha) (News.isList N hb) hi hj (by have := ok.hu; have hc := cLine_is; simp only [cLine]; omega) ⟨hp, sl, n, t, rfl, ⟨b, W, F, N⟩, h⟩
theorem min4_t {a b d e : Int} {ta tb td te : Tok} {k : KV} (h : ∀ m tm t, (m = a ∨ m = b ∨ m = d ∨ m = e) ∧ m ≤ a ∧ m ≤ b ∧ m ≤ d ∧ m ≤ e → k (.int m tm) sl n t) : Tri c sl n t (call (.builtin "min") [.int a ta, .int b tb, .int d td, .int e te]) k :=
  fun hp ⟨b, W, F, N⟩ => min_four_N (s := c.sh hp t) rfl F N fun m tm h' tk hm F' N' => ⟨h', sl, n, tk, rfl, ⟨b, W, F', N'⟩, h m tm tk hm⟩
theorem max2_t {a b : Int} {ta tb : Tok} {k : KV} (h : ∀ m tm t, (m = a ∨ m = b) ∧ a ≤ m ∧ b ≤ m → k (.int m tm) sl n t) : Tri c sl n t (call (.builtin "max") [.int a ta, .int b tb]) k :=
  fun hp ⟨b, W, F, N⟩ => max_two_N (s := c.sh hp t) rfl F N fun m tm h' tk hm F' N' => ⟨h', sl, n, tk, rfl, ⟨b, W, F', N'⟩, h m tm tk hm⟩
end
theorem at2_ints {news : Led} {vs : List Value} {ns : List Int} (h : IntsAre vs ns) : At2 (fun (_ : Led) v (k : Int) => ∃ t, v = .int k t) news vs ns := by
  refine ⟨h.length, fun i v c a b => ?_⟩
  obtain ⟨t, rfl⟩ := IntsAre.int_at h i v a
  rw [List.getD_eq_getElem?_getD, b]
  exact ⟨t, rfl⟩
noncomputable def LetsS (I D A : List Int) (st en hi lo : Int) : Prop := (I.length : Int) ≤ 4 ∧ (D.length : Int) = I.length ∧ (A.length : Int) = I.length ∧ I.filter (fun k => !(decide (0 ≤ k) && decide (k < 256))) = [] ∧ (D ++ A).filter (fun k => !([0, 1, 2, 3].any fun x => x == k)) = [] ∧ (0 ≤ st ∧ 0 ≤ en ∧ 0 ≤ hi ∧ 0 ≤ lo) ∧ (st ≤ 63 ∧ en ≤ 63) ∧ (hi ≤ 15 ∧ lo ≤ 15) ∧ I.Nodup
section
variable {w : World} {cs : Scope} {c : Cx w cs} {D : Nat} {sl : Sl} {n : Led} {t : Nat}
theorem tcmp_t {env : Env} {l r : PySem.Expr} {op : CmpOp} {pos : Pos} {whole : Sem Value} {k : KB} (hm : behindInMarks op r = false) (h : Tri c sl n t (eval l env) fun a sl n t => Tri c sl n t (eval r env) fun b sl n t => Tri c sl n t (compareOp op a b) fun v sl n t => Tri c sl n t (truthy v) k) : Tri c sl n t (isTrue (.Compare l [op] [r] pos) env whole) k :=
  fun _ H => wpAny_isTrue_Compare1 (h.seq (fun _ _ _ _ h1 _ H1 => h1.seq (fun _ _ _ _ h2 _ H2 => h2.seq (fun _ _ _ _ h3 _ H3 => h3 _ H3) H2) H1) H) hm
theorem tcmp2_t {env : Env} {l r r' : PySem.Expr} {op op' : CmpOp} {pos : Pos} {whole : Sem Value} {k : KB} (hm : lastMarks [op, op'] [r, r'] = false) (h : Tri c sl n t (eval l env) fun a sl n t => Tri c sl n t (eval r env) fun b sl n t => Tri c sl n t (compareOp op a b) fun q sl n t => Tri c sl n t (truthy q) fun z sl n t =>
      Way z (Tri c sl n t (eval r' env) fun d sl n t => Tri c sl n t (compareOp op' b d) fun v sl n t => Tri c sl n t (truthy v) k) (k false sl n t)) : Tri c sl n t (isTrue (.Compare l [op, op'] [r, r'] pos) env whole) k := by
  intro hp H
  refine isTrue_chain (h.seq (fun a sl n t h1 _ H1 => test_link (h1.seq (fun b sl n t h2 _ H2 => h2.seq (fun q sl n t h3 _ H3 => h3.seq (fun z sl n t h4 _ H4 => ?_) H3) H2) H1)) H) hm
  cases z with
  | true => exact test_last ((h4.1 rfl).seq (fun d sl n t h5 _ H5 => h5.seq (fun v sl n t h6 _ H6 => h6 _ H6) H5) H4)
  | false => exact ⟨_, _, _, _, rfl, H4, h4.2 rfl⟩
theorem nameq_turn {scope : Scope} {cl : List (Str × Addr)} {C : Addr} {oC : Obj} {x : Str} {z : Int} {tz : Tok} {p1 p2 p3 p4 p5 : Pos} {m1 m2 : Nat} (hm : (C, oC) ∈ n) (hv : CompVar oC x (.int z tz)) (hk : (compEnvC scope cl C c.env).scope.kind = .function) (hx : (compEnvC scope cl C c.env).kindOf x = some .local) (hd : (x == ("__debug__" : Str)) = false) :
    Tri c sl n t (isTrue (.UnaryOp .Not (.Compare (.Constant (.int 0) m1 p1) [.LtE, .Lt] [.Name x p2, .Constant (.int 256) m2 p3] p4) p5) (compEnvC scope cl C c.env) (eval (.UnaryOp .Not (.Compare (.Constant (.int 0) m1 p1) [.LtE, .Lt] [.Name x p2, .Constant (.int 256) m2 p3] p4) p5) (compEnvC scope cl C c.env))) fun b sl' n' _ => sl' = sl ∧ b = !(decide (0 ≤ z) && decide (z < 256)) ∧ ∀ q ∈ n, q ∈ n' := by
  refine fun hp H => isTrue_not (Tri.seq (k := fun b sl' n' _ => sl' = sl ∧ b = (decide (0 ≤ z) && decide (z < 256)) ∧ n' = n) (tcmp2_t (by rfl) (cint_t (cname_t hm hv hk hx hd (cI_ok rfl (Tri.truthy_b ⟨fun e => cint_t (cI_ok rfl (Tri.truthy_b ?_)), fun e => ?_⟩))))) ?_ H)
  · exact ⟨rfl, by rw [e]; rfl, rfl⟩
  · exact ⟨rfl, by rw [e]; rfl, rfl⟩
  · rintro b sl' n' t' ⟨rfl, rfl, rfl⟩ h' H'
    exact ⟨h', _, _, t', rfl, H', rfl, rfl, sub_id⟩
theorem slotq_turn {scope : Scope} {cl : List (Str × Addr)} {C : Addr} {oC : Obj} {x : Str} {z : Int} {tz : Tok} {p1 p2 p3 p4 p5 p6 p7 : Pos} {m1 m2 m3 m4 m5 : Nat} (hm : (C, oC) ∈ n) (hv : CompVar oC x (.int z tz)) (hk : (compEnvC scope cl C c.env).scope.kind = .function) (hx : (compEnvC scope cl C c.env).kindOf x = some .local) (hd : (x == ("__debug__" : Str)) = false) :
    Tri c sl n t (isTrue (.Compare (.Name x p1) [.NotIn] [.Tuple [.Constant (.int 0) m1 p2, .Constant (.int 1) m2 p3, .Constant (.int 2) m3 p4, .Constant (.int 3) m4 p5] m5 p6] p7) (compEnvC scope cl C c.env) (eval (.Compare (.Name x p1) [.NotIn] [.Tuple [.Constant (.int 0) m1 p2, .Constant (.int 1) m2 p3, .Constant (.int 2) m3 p4, .Constant (.int 3) m4 p5] m5 p6] p7) (compEnvC scope cl C c.env))) fun b sl' n' _ => sl' = sl ∧ b = !([0, 1, 2, 3].any fun x => x == z) ∧ ∀ q ∈ n, q ∈ n' := by
  refine tcmp_t (by rfl) (cname_t hm hv hk hx hd (Tri.tup_ (Tri.args_cons rfl (cint_t (Tri.args_cons rfl (cint_t (Tri.args_cons rfl (cint_t (Tri.args_cons rfl (cint_t fun h H => PyProof.Rows.args_nil ⟨h, _, _, _, rfl, H, Nat.le_of_ble_eq_true rfl, fun l hl => ?_⟩))))))))))
  exact notinT_t (ns := [0, 1, 2, 3]) (.head _) (.cons _ _ (.cons _ _ (.cons _ _ (.cons _ _ .nil)))) (Tri.truthy_b ⟨rfl, rfl, fun q hq => .tail _ hq⟩)
end
theorem gt_no {a b : Int} (h : decide (b < a) = true) : ¬ a ≤ b := Int.not_le.mpr (of_decide_eq_true h)
theorem ne_no {a b : Int} (h : (a != b) = true) : ¬ a = b := by simpa using h
theorem ne_yes {a b : Int} (h : (a != b) = false) : a = b := by simpa using h
section
variable {w : World} {cs : Scope} {c : Cx w cs} {D : Nat} {sl : Sl} {n : Led} {t : Nat}
/-- a pair of a number and True -/
theorem pairI_turn {scope : Scope} {cl : List (Str × Addr)} {y : Str} {p1 p4 pos : Pos} {m m2 : Nat} {q : Int} {v : Value} {I C Dl : Addr} {oI oC oD : Obj} (hc : ∃ t, v = .int q t) (hv : CompVar oC y v) (off : LCg.Off3 I C Dl n)
    (hk : (compEnvC scope cl C c.env).scope.kind = .function) (hx : (compEnvC scope cl C c.env).kindOf y = some .local) (hd : (y == ("__debug__" : Str)) = false) :
    Tri c sl ((I, oI) :: (C, oC) :: (Dl, oD) :: n) t (eval (.Tuple [.Name y p1, .Constant (.bool true) m2 p4] m pos) (compEnvC scope cl C c.env))
      (CompTurn sl I C Dl oI oC oD fun y n'' => PairAt n'' y q ∧ ∀ p ∈ n, p ∈ n'') := by
  obtain ⟨tq, rfl⟩ := hc
  refine Tri.tup_ (Tri.args_cons rfl (cname_t (.tail _ (.head _)) hv hk hx hd ?_))
  refine Tri.args_cons rfl (fun hp H => wpAny_Constant_bool (s := c.sh hp _) ⟨hp, _, _, _, rfl, H, ?_⟩)
  refine fun h H => PyProof.Rows.args_nil ⟨h, sl, _, _, rfl, H, Nat.le_of_ble_eq_true rfl, fun X hX => ?_⟩
  exact turn_put off hX ⟨⟨X, _, rfl, .head _⟩, fun p hp => .tail _ hp⟩
end
theorem lets_scan_c (w : World) (x : Addr) (I D A : List Int) (st en hi lo : Int) (news : Led) (H : ScanRow news (.ref x) I D A st en hi lo) (bI : I.length < 100) (bD : D.length < 100) (bA : A.length < 100) :
    Cn w 8 394 [.ref x] news (fun v n' => ∃ b, v = .bool b ∧ (b = true ↔ LetsS I D A st en hi lo) ∧ n' = news) (fun _ => False) := by
  have hfill := fill_ w
  revert hfill
  k_fill
  intro _
  refine hide _ fun hidP hidH => ?_
  obtain ⟨x', li, ld, la, t1, t2, t3, t4, e, hx, ⟨vi, ni, hli, hii⟩, ⟨vd, nd, hld, hid⟩, ⟨va, na, hla, hia⟩⟩ := H
  refine hidH ?_
  clear hidH
  cases e
  refine' Cn.of (binds := [(Str.ofString "scan", .ref x)]) (sl₀ := [some (.ref x), none, none, none, none, none, none, none]) (z := 4) ?hf ?hc ?hb ?hl ?c2 ?c3 ?c4 ?c5 ?hs ?_
  walk_at "v_enter"
  intro cx S ok one hn' he hr t
  have e1 := hii.length
  have e2 := hid.length
  have e3 := hia.length
  have no : ∀ (n : Led), (∀ p ∈ news, p ∈ n) → ¬ LetsS I D A st en hi lo → ∃ n', (∀ p ∈ n', p ∈ n) ∧ S (.bool false) n' := fun n hs hno => ⟨news, hs, hr _ _ ⟨false, rfl, ⟨fun h => (nomatch h), fun h => absurd h hno⟩, rfl⟩⟩
  refine vc_go (f := 40) (rs := rs__law_lets_scan) ok (by kernel_rfl) (by kernel_rfl) ?_
  refine unpack_t ok (xs := [(Str.ofString "idents", _), (Str.ofString "dc_slots", _), (Str.ofString "ac_slots", _), (Str.ofString "start", _), (Str.ofString "end", _), (Str.ofString "high", _), (Str.ofString "low", _)]) (rv := .loc 0) (by kernel_rfl) rfl (by with_unfolding_all rfl) (by with_unfolding_all rfl) ?_
  refine ⟨x, _, rfl, hx, rfl, storeL_one (i := 1) (by kernel_rfl) (storeL_one (i := 2) (by kernel_rfl) (storeL_one (i := 3) (by kernel_rfl) (storeL_one (i := 4) (by kernel_rfl) (storeL_one (i := 5) (by kernel_rfl) (storeL_one (i := 6) (by kernel_rfl) (storeL_one (i := 7) (by kernel_rfl) ?_))))))⟩
  refine len_t hli (by omega) fun tv t => ⟨fun f1 => ⟨fun _ => no _ sub_id fun h => ?_, no_⟩, fun f1 => ?_⟩
  · exact gt_no f1 (e1 ▸ h.1)
  refine len_t hld (by omega) fun tv t => len_t hli (by omega) fun tv t => ⟨fun f2 => ⟨fun _ => no _ sub_id fun h => ?_, no_⟩, fun f2 => ?_⟩
  · exact ne_no f2 (e1 ▸ e2 ▸ h.2.1)
  refine len_t hla (by omega) fun tv t => len_t hli (by omega) fun tv t => ⟨fun f3 => no _ sub_id fun h => ?_, fun f3 => ?_⟩
  · exact ne_no f3 (e1 ▸ e3 ▸ h.2.2.1)
  refine comp_filter_t ok one (fun k => !(decide (0 ≤ k) && decide (k < 256))) (re := .loc 1) (by with_unfolding_all rfl) (by decide) rfl (by decide) rfl (fun _ => rfl) (by kernel_rfl) (fun _ => rfl) (fun _ => rfl) (by decide) (fun z tz C oC n' t hm hv => nameq_turn hm hv rfl rfl (by decide)) ⟨rfl, li, vi, ni, I, rfl, hli, hii, by omega, fun ys Dl t hy o1 => ⟨by decide, fun le hle => ?_⟩⟩
  refine neI_t ok (.tail _ (.head _)) (.head _) hy .nil ⟨fun f4 => ⟨fun _ => no _ (fun p hp => .tail _ (.tail _ hp)) fun h => ?_, no_⟩, fun f4 => ?_⟩
  · exact absurd h.2.2.2.1 (of_decide_eq_false (not_t f4))
  refine comp_filter_t ok one (fun k => !([0, 1, 2, 3].any fun x => x == k)) (re := .bin (.loc 2) .Add (.loc 3)) (by with_unfolding_all rfl) (by decide) rfl (by decide) rfl (fun _ => rfl) (by kernel_rfl) (fun _ => rfl) (fun _ => rfl) (by decide) (fun z tz C oC n' t hm hv => slotq_turn hm hv rfl rfl (by decide)) ?_
  refine addL_t (.tail _ (.tail _ hld)) (.tail _ (.tail _ hla)) hid hia (by omega) fun lda ws hlda hws => ⟨rfl, lda, ws, 0, D ++ A, rfl, .head _, hws, by rw [List.length_append]; omega, fun ys' Dl' t hy' o2 => ⟨by decide, fun le' hle' => ?_⟩⟩
  refine neI_t ok (.tail _ (.head _)) (.head _) hy' .nil ⟨fun f5 => no _ (fun p hp => .tail _ (.tail _ (.tail _ (.tail _ (.tail _ hp))))) fun h => ?_, fun f5 => ?_⟩
  · exact absurd h.2.2.2.2.1 (of_decide_eq_false (not_t f5))
  have up : ∀ p ∈ news, p ∈ (le', listOf ([] : List Value).toArray 0) :: (Dl', LCg.lst ys') :: (lda, listOf ws.toArray 0) :: (le, listOf ([] : List Value).toArray 0) :: (Dl, LCg.lst ys) :: news := fun p hp => .tail _ (.tail _ (.tail _ (.tail _ (.tail _ hp))))
  refine min4_t fun m tm t hm => ⟨fun f6 => ⟨fun _ => no _ up fun h => ?_, no_⟩, fun f6 => ?_⟩
  · have h6 := h.2.2.2.2.2.1
    have := of_decide_eq_false (not_t f6)
    omega
  refine max2_t fun m2 tm2 t hm2 => ⟨fun f7 => ⟨fun _ => no _ up fun h => ?_, no_⟩, fun f7 => ?_⟩
  · have h6 := h.2.2.2.2.2.2.1
    have := of_decide_eq_true f7
    omega
  refine max2_t fun m3 tm3 t hm3 => ⟨fun f8 => no _ up fun h => ?_, fun f8 => ?_⟩
  · have h6 := h.2.2.2.2.2.2.2.1
    have := of_decide_eq_true f8
    omega
  have f6' := of_decide_eq_true (not_f f6)
  have f7' := of_decide_eq_false f7
  have f8' := of_decide_eq_false f8
  refine comp_t ok one (re := .loc 1) (by with_unfolding_all rfl) (by decide) rfl (by decide) rfl (fun _ => rfl) (by kernel_rfl) ?_
  refine comp_grow_t one (R := fun (_ : Led) v (k : Int) => ∃ t, v = .int k t) (O := fun n v k => PairAt n v k) (ks := I) (at2_ints hii) (fun _ _ _ _ a _ => a) (fun _ _ _ _ a b => a.mono b) (up _ hli) (by omega) ?_ ?_
  · intro q v I oI C oC Dl ys n' t _ hR _ hv off _
    exact pairI_turn hR hv off rfl rfl (by decide)
  · intro ys n' Dl t hR hs o1
    refine dict_t ok (.head _) (At2.mono (fun _ _ _ _ a b => a.mono b) hR fun p hp => .tail _ hp) (by omega) fun Dd o kvs t a1 a2 a3 a4 a5 => ?_
    refine lenD_t (.head _) a2 a1 a3 fun tv t => len_t (.tail _ (.tail _ (hs _ (up _ hli)))) (by omega) fun tv t => ?_
    refine ⟨news, fun p hp => .tail _ (.tail _ (hs _ (up _ hp))), hr _ _ ⟨_, rfl, ?_, rfl⟩⟩
    rw [e1, beq_iff_eq, a4]
    exact ⟨fun h => ⟨Int.not_lt.mp (of_decide_eq_false f1 |> fun h => e1 ▸ h), e1 ▸ e2 ▸ ne_yes f2, e1 ▸ e3 ▸ ne_yes f3, of_decide_eq_true (not_f f4), of_decide_eq_true (not_f f5), by omega, by omega, by omega, h⟩, fun h => h.2.2.2.2.2.2.2.2⟩
theorem lets_scan_iff {I D A : List Int} {st en hi lo : Int} (h1 : 1 ≤ I.length) : LetsS I D A st en hi lo ↔ ScanOk I D A st en hi lo := by
  have e1 : I.filter (fun k => !(decide (0 ≤ k) && decide (k < 256))) = [] ↔ ∀ k ∈ I, 0 ≤ k ∧ k ≤ 255 := by
    rw [List.filter_eq_nil_iff]
    refine forall_congr' fun k => forall_congr' fun _ => ?_
    simp only [Bool.not_eq_true', Bool.and_eq_false_imp, decide_eq_true_eq, decide_eq_false_iff_not]
    omega
  have e2 : (D ++ A).filter (fun k => !([0, 1, 2, 3].any fun x => x == k)) = [] ↔ ∀ k ∈ D ++ A, 0 ≤ k ∧ k ≤ 3 := by
    rw [List.filter_eq_nil_iff]
    refine forall_congr' fun k => forall_congr' fun _ => ?_
    simp only [List.any_cons, List.any_nil, Bool.or_false, Bool.not_eq_true', Bool.or_eq_false_iff, beq_eq_false_iff_ne, ne_eq]
    omega
  unfold LetsS ScanOk
  rw [e1, e2]
  constructor
  · intro hz1
    refine hide _ fun hidP hidH => ?_
    obtain ⟨a, b, c, d, e, f, g, h, i⟩ := hz1
    refine hidH ?_
    clear hidH
    exact ⟨⟨h1, by omega⟩, ⟨by omega, by omega⟩, i, d, e, by omega, by omega⟩
  · intro hz2
    refine hide _ fun hidP hidH => ?_
    obtain ⟨⟨a, a'⟩, ⟨b, b'⟩, i, d, e, f, g⟩ := hz2
    refine hidH ?_
    clear hidH
    exact ⟨by omega, by omega, by omega, d, e, by omega, by omega, by omega, i⟩
theorem flat_len2 {G : Nat → List Int} (hG : ∀ i, (G i).length = 2) : ∀ n, ((List.range n).flatMap G).length = 2 * n
  | 0 => rfl
  | n + 1 => by rw [List.range_succ, List.flatMap_append, List.length_append, flat_len2 hG n]; simp [hG]; omega
theorem flat_get2 {G : Nat → List Int} (hG : ∀ i, (G i).length = 2) : ∀ (n i j : Nat), i < n → j < 2 → ((List.range n).flatMap G)[2 * i + j]? = (G i)[j]?
  | 0, i, j, h, _ => by omega
  | n + 1, i, j, h, hj => by
    rw [List.range_succ, List.flatMap_append]
    have hl := flat_len2 hG n
    by_cases e : i < n
    · rw [List.getElem?_append_left (by omega), flat_get2 hG n i j e hj]
    · have : i = n := by omega
      subst this
      rw [List.getElem?_append_right (by omega)]
      simp only [List.flatMap_cons, List.flatMap_nil, List.append_nil]
      congr 1; omega
theorem scan_back {I D A : List Int} {st en hi lo : Int} (h : ScanOk I D A st en hi lo) :
    payS (scanB I D A st en hi lo) ∧ scI (scanB I D A st en hi lo) = I ∧ scD (scanB I D A st en hi lo) = D ∧ scA (scanB I D A st en hi lo) = A ∧
      (scanB I D A st en hi lo).getD (1 + 2 * scK (scanB I D A st en hi lo)) 0 = st ∧ (scanB I D A st en hi lo).getD (2 + 2 * scK (scanB I D A st en hi lo)) 0 = en ∧
      (scanB I D A st en hi lo).getD (3 + 2 * scK (scanB I D A st en hi lo)) 0 / 16 = hi ∧ (scanB I D A st en hi lo).getD (3 + 2 * scK (scanB I D A st en hi lo)) 0 % 16 = lo := by
  refine hide _ fun hidP hidH => ?_
  obtain ⟨⟨a, a'⟩, ⟨b, b'⟩, i, d, e, f, g⟩ := h
  refine hidH ?_
  clear hidH
  have h0 : (scanB I D A st en hi lo).getD 0 0 = (I.length : Int) := rfl
  have hK : scK (scanB I D A st en hi lo) = I.length := by show ((scanB I D A st en hi lo).getD 0 0).toNat = _; rw [h0]; omega
  have hG : ∀ i, (slotB I D A i).length = 2 := fun _ => rfl
  have hfl := flat_len2 hG I.length
  have hlen : (scanB I D A st en hi lo).length = 4 + 2 * I.length := by
    unfold scanB
    rw [List.length_append, List.length_append, hfl]
    simp only [List.length_cons, List.length_nil]
    omega
  have hget : ∀ i j, i < I.length → j < 2 → (scanB I D A st en hi lo).getD (1 + 2 * i + j) 0 = (slotB I D A i).getD j 0 := by
    intro i j hi hj
    rw [List.getD_eq_getElem?_getD, List.getD_eq_getElem?_getD]
    unfold scanB
    rw [List.getElem?_append_left (by rw [List.length_append, hfl]; simp only [List.length_cons, List.length_nil]; omega), List.getElem?_append_right (by simp only [List.length_cons, List.length_nil]; omega),
      show 1 + 2 * i + j - [(I.length : Int)].length = 2 * i + j by simp only [List.length_cons, List.length_nil]; omega, flat_get2 hG _ _ _ hi hj]
  have hend : ∀ j, (scanB I D A st en hi lo).getD (1 + 2 * I.length + j) 0 = [st, en, hi * 16 + lo].getD j 0 := by
    intro j
    rw [List.getD_eq_getElem?_getD, List.getD_eq_getElem?_getD]
    unfold scanB
    have hl2 : ([(I.length : Int)] ++ (List.range I.length).flatMap (slotB I D A)).length = 1 + 2 * I.length := by rw [List.length_append, hfl]; rfl
    rw [List.getElem?_append_right (by omega), hl2]
    congr 2; omega
  have hslot : ∀ i, i < I.length → (slotB I D A i).getD 0 0 = I.getD i 0 ∧ (slotB I D A i).getD 1 0 = D.getD i 0 * 16 + A.getD i 0 := by
    intro i _
    have e : (0 + (i : Int)).toNat = i := by omega
    unfold slotB
    rw [e]
    exact ⟨rfl, rfl⟩
  have hDA : ∀ i, i < I.length → 0 ≤ A.getD i 0 ∧ A.getD i 0 ≤ 3 := by
    intro i hi
    have hm : A.getD i 0 ∈ A := by
      rw [List.getD_eq_getElem?_getD, List.getElem?_eq_getElem (by omega : i < A.length)]
      exact List.getElem_mem _
    exact e _ (List.mem_append_right _ hm)
  have ext : ∀ (f : Nat → Int) (l : List Int), l.length = I.length → (∀ i, i < I.length → f i = l.getD i 0) → (List.range I.length).map f = l := by
    intro f l hl hf
    apply List.ext_getElem
    · simp [hl]
    · intro i h1 h2
      rw [List.getElem_map, List.getElem_range, hf i (by omega), List.getD_eq_getElem?_getD, List.getElem?_eq_getElem h2]
      rfl
  refine ⟨⟨by rw [hlen]; omega, by rw [hlen, h0]; omega⟩, ?_, ?_, ?_, ?_, ?_, ?_, ?_⟩
  · unfold scI sI
    rw [hK]
    refine ext _ _ rfl fun i hi => ?_
    have := hget i 0 hi (by omega)
    rw [Nat.add_zero, (hslot i hi).1] at this
    exact this
  · unfold scD sD
    rw [hK]
    refine ext _ _ b fun i hi => ?_
    have := hget i 1 hi (by omega)
    rw [show 1 + 2 * i + 1 = 2 + 2 * i by omega, (hslot i hi).2] at this
    rw [this]
    have := hDA i hi
    omega
  · unfold scA sA
    rw [hK]
    refine ext _ _ b' fun i hi => ?_
    have := hget i 1 hi (by omega)
    rw [show 1 + 2 * i + 1 = 2 + 2 * i by omega, (hslot i hi).2] at this
    rw [this]
    have := hDA i hi
    omega
  · rw [hK]; exact hend 0
  · rw [hK, show 2 + 2 * I.length = 1 + 2 * I.length + 1 by omega]; exact hend 1
  · rw [hK, show 3 + 2 * I.length = 1 + 2 * I.length + 2 by omega, hend 2]
    show (hi * 16 + lo) / 16 = hi
    omega
  · rw [hK, show 3 + 2 * I.length = 1 + 2 * I.length + 2 by omega, hend 2]
    show (hi * 16 + lo) % 16 = lo
    omega
noncomputable def scanD (I D A : List Int) (st en hi lo : Int) : PyData := .tuple [.list (I.map .int), .list (D.map .int), .list (A.map .int), .int st, .int en, .int hi, .int lo]
theorem intsD_lay : ∀ ks : List Int, PyData.canLayAll0 (ks.map .int) = true
  | [] => rfl
  | r :: ks => by simp [PyData.canLayAll0, PyData.canLay0, intsD_lay ks]
theorem intsD_depth : ∀ ks : List Int, PyData.depthAll (ks.map .int) ≤ 1
  | [] => by simp [PyData.depthAll]
  | r :: ks => by
    have := intsD_depth ks
    simp only [List.map_cons, PyData.depthAll, PyData.depth]
    omega
theorem scanD_shaped (I D A : List Int) (st en hi lo : Int) : SeqAt.shaped (scanD I D A st en hi lo) = true := by
  have h1 := intsD_lay I
  have h2 := intsD_lay D
  have h3 := intsD_lay A
  have d1 := intsD_depth I
  have d2 := intsD_depth D
  have d3 := intsD_depth A
  unfold SeqAt.shaped scanD
  rw [Bool.and_eq_true]
  refine ⟨by simp [PyData.canLayAll0, PyData.canLay0, h1, h2, h3], decide_eq_true ?_⟩
  simp only [PyData.depth, PyData.depthAll]
  omega
theorem reads_ints {h : Heap} : ∀ (vs : List Value) (ks : List Int), IntsAre vs ks → ∃ as, ReadsAll h vs (ks.map .int) as
  | _, _, .nil => ⟨_, .nil⟩
  | _, _, .cons _ _ x => by
    obtain ⟨as, ra⟩ := reads_ints _ _ x
    exact ⟨_, .cons (.int _ _) ra⟩
theorem reads_scan {h₀ h : Heap} {L : Addr} {news : Led} (N : News h₀ L h news) {v : Value} {I D A : List Int} {st en hi lo : Int} (hf : ScanRow news v I D A st en hi lo) : ∃ as, Reads h v (scanD I D A st en hi lo) as := by
  refine hide _ fun hidP hidH => ?_
  obtain ⟨x, li, ld, la, t1, t2, t3, t4, rfl, hx, ⟨vi, ni, hli, hi1⟩, ⟨vd, nd, hld, hi2⟩, ⟨va, na, hla, hi3⟩⟩ := hf
  refine hidH ?_
  clear hidH
  obtain ⟨a1, r1⟩ := reads_ints (h := h) _ _ hi1
  obtain ⟨a2, r2⟩ := reads_ints (h := h) _ _ hi2
  obtain ⟨a3, r3⟩ := reads_ints (h := h) _ _ hi3
  exact ⟨_, reads_tuple_at (N _ hx).1 rfl rfl (.cons (reads_list_at (N _ hli).1 rfl rfl r1) (.cons (reads_list_at (N _ hld).1 rfl rfl r2) (.cons (reads_list_at (N _ hla).1 rfl rfl r3) (.cons (.int _ _) (.cons (.int _ _) (.cons (.int _ _) (.cons (.int _ _) .nil)))))))⟩
section
variable {w : World} {cs : Scope} {c : Cx w cs} {D : Nat} {sl : Sl} {n : Led} {t : Nat}
theorem eqS_t (ok : c.Ok D) {vx vy : Value} {I B A : List Int} {st en hi lo : Int} {k : KV} (hx : ScanRow n vx I B A st en hi lo) (hy : ScanRow n vy I B A st en hi lo) (h : k (.bool true) sl n t) : Tri c sl n t (compareOp .Eq vx vy) k := by
  intro hp hz1
  refine hide _ fun hidP hidH => ?_
  obtain ⟨b, W, F, N⟩ := hz1
  refine hidH ?_
  clear hidH
  obtain ⟨as, ra⟩ := reads_scan N hx
  obtain ⟨bs, rb⟩ := reads_scan N hy
  refine eq_dataH (s := c.sh hp t) ra rb (scanD_shaped ..) (scanD_shaped ..) (by have := ok.hu; have hc := cLine_is; simp only [cLine]; omega) ?_
  rw [SeqAt.eqv_refl _ (SeqAt.canLay_of_shaped (scanD_shaped ..))]
  exact ⟨hp, sl, n, t, rfl, ⟨b, W, F, N⟩, h⟩
end
noncomputable abbrev scQual : Str := Str.ofString "_law_scan_right" ++ Str.ofString ".<locals>." ++ Str.ofString "<lambda>"
/-- a cell that holds a value -/
noncomputable def HasCell (n : Led) (a : Addr) (v : Value) : Prop := ∃ o, (a, o) ∈ n ∧ o.data = .cell (some v)
theorem HasCell.mono {n n' : Led} {a : Addr} {v : Value} (h : HasCell n a v) (hs : ∀ p ∈ n, p ∈ n') : HasCell n' a v := by
  obtain ⟨o, a, b⟩ := h; exact ⟨o, hs _ a, b⟩
structure ScC (n : Led) (a1 a2 a3 a4 a5 a6 a7 li ld la : Addr) (st en hi lo : Int) (t1 t2 t3 t4 : Tok) : Prop where
  idents : HasCell n a1 (.ref li)
  dc : HasCell n a2 (.ref ld)
  ac : HasCell n a3 (.ref la)
  start : HasCell n a4 (.int st t1)
  end_ : HasCell n a5 (.int en t2)
  high : HasCell n a6 (.int hi t3)
  low : HasCell n a7 (.int lo t4)
theorem ScC.mono {n n' : Led} {a1 a2 a3 a4 a5 a6 a7 li ld la : Addr} {st en hi lo : Int} {t1 t2 t3 t4 : Tok} (h : ScC n a1 a2 a3 a4 a5 a6 a7 li ld la st en hi lo t1 t2 t3 t4) (hs : ∀ p ∈ n, p ∈ n') : ScC n' a1 a2 a3 a4 a5 a6 a7 li ld la st en hi lo t1 t2 t3 t4 :=
  ⟨h.1.mono hs, h.2.mono hs, h.3.mono hs, h.4.mono hs, h.5.mono hs, h.6.mono hs, h.7.mono hs⟩
section
variable {w : World} {cs : Scope} {c : Cx w cs} {D : Nat} {sl : Sl} {n : Led} {t : Nat}
theorem freeE_t {x : Str} {pos : Pos} {a : Addr} {v : Value} {k : KV} (ok : c.Ok D) (h : HasCell n a v) (hc : c.cl.lookup x = some a) (hx : cs.names.lookup x = some .free) (hb : (x == ("__debug__" : Str)) = false) (hn : (x == ("__classdict__" : Str)) = false) (hk : k v sl n t) : Tri c sl n t (eval (.Name x pos) c.env) k := by
  obtain ⟨o, h1, h2⟩ := h; exact free_t ok hc h1 h2 hx hb hn hk
theorem cellE_t {x : Str} {pos : Pos} {a : Addr} {v : Value} {k : KV} (ok : c.Ok D) (h : HasCell n a v) (hc : c.cl.lookup x = some a) (hx : cs.names.lookup x = some .cell) (hb : (x == ("__debug__" : Str)) = false) (hk : k v sl n t) : Tri c sl n t (eval (.Name x pos) c.env) k := by
  obtain ⟨o, h1, h2⟩ := h; exact cell_t ok hc h1 h2 hx hb hk
end
theorem lamS_c (w : World) (f c' a1 a2 a3 a4 a5 a6 a7 : Addr) (oc : Obj) (vs' : Array Value) (tq : Tok) (pm ctv : Value) (x : Addr) (C : Led) (li ld la : Addr) (t1 t2 t3 t4 : Tok) (I D A : List Int) (st en hi lo : Int) (news : Led) (H : ScC C a1 a2 a3 a4 a5 a6 a7 li ld la st en hi lo t1 t2 t3 t4) (hC : ∀ p ∈ C, p ∈ news) (hli : IntsL news li I) (hld : IntsL news ld D) (hla : IntsL news la A) (bI : I.length < 100) (bD : D.length < 100) (bA : A.length < 100)
    (hf : (f, kla_obj "<lambda>" scQual ({ posonlyargs := [], args := [], vararg := none, kwonlyargs := [], kw_defaults := [], kwarg := none, defaults := [] } : Arguments) (PySem.Expr.Call (PySem.Expr.Name (Str.ofString "write_scan") ⟨259, 30, 259, 40⟩) [(PySem.Expr.Call (PySem.Expr.Name (Str.ofString "ScanHead") ⟨259, 41, 259, 49⟩) [(PySem.Expr.Name (Str.ofString "idents") ⟨259, 50, 259, 56⟩), (PySem.Expr.Name (Str.ofString "dc_slots") ⟨259, 58, 259, 66⟩), (PySem.Expr.Name (Str.ofString "ac_slots") ⟨259, 68, 259, 76⟩), (PySem.Expr.Name (Str.ofString "start") ⟨259, 78, 259, 83⟩), (PySem.Expr.Name (Str.ofString "end") ⟨259, 85, 259, 88⟩), (PySem.Expr.Name (Str.ofString "high") ⟨259, 90, 259, 94⟩), (PySem.Expr.Name (Str.ofString "low") ⟨259, 96, 259, 99⟩)] [] ⟨259, 41, 259, 100⟩)] [] ⟨259, 30, 259, 101⟩) ({ kind := .function, names := [(Str.ofString "ac_slots", .free), (Str.ofString "dc_slots", .free), (Str.ofString "end", .free), (Str.ofString "high", .free), (Str.ofString "idents", .free), (Str.ofString "low", .free), (Str.ofString "start", .free), (Str.ofString "write_scan", .globalImplicit), (Str.ofString "ScanHead", .globalImplicit)], isGenerator := false, isCoroutine := false, more := [] } : Scope) [(Str.ofString "start", a4), (Str.ofString "low", a7), (Str.ofString "idents", a1), (Str.ofString "high", a6), (Str.ofString "end", a5), (Str.ofString "dc_slots", a2), (Str.ofString "ac_slots", a3)] pm c' ctv) ∈ news) (hoc : (c', oc) ∈ news) (ho1 : oc.data = .fields vs') (ho2 : vs'[1]? = some (.str scQual tq)) :
    Cn w 24 f [] news (fun v n' => (∃ t, v = .bytes (byteArr (scanB I D A st en hi lo)) t) ∧ (∀ p ∈ news, p ∈ n') ∧ ScanOk I D A st en hi lo) (fun C => C = 44 ∧ ¬ ScanOk I D A st en hi lo) := by
  refine Cn.ofL hf hoc ho1 ho2 rfl rfl rfl rfl (by decide) ?_
  intro cx S ok hcl hn' he hr t
  refine of_tr ok (re := .call (.ref 271) (.cons (.call (.ref 192) (.cons (.raw (.Name (Str.ofString "idents") ⟨259, 50, 259, 56⟩)) (.cons (.raw (.Name (Str.ofString "dc_slots") ⟨259, 58, 259, 66⟩)) (.cons (.raw (.Name (Str.ofString "ac_slots") ⟨259, 68, 259, 76⟩)) (.cons (.raw (.Name (Str.ofString "start") ⟨259, 78, 259, 83⟩)) (.cons (.raw (.Name (Str.ofString "end") ⟨259, 85, 259, 88⟩)) (.cons (.raw (.Name (Str.ofString "high") ⟨259, 90, 259, 94⟩)) (.cons (.raw (.Name (Str.ofString "low") ⟨259, 96, 259, 99⟩)) .nil)))))))) .nil)) (by kernel_rfl) ?_
  replace H := H.mono hC
  refine freeE_t ok H.idents (by rw [hcl]; rfl) rfl (by decide) (by decide) (freeE_t ok H.dc (by rw [hcl]; rfl) rfl (by decide) (by decide) (freeE_t ok H.ac (by rw [hcl]; rfl) rfl (by decide) (by decide) (freeE_t ok H.start (by rw [hcl]; rfl) rfl (by decide) (by decide) (freeE_t ok H.end_ (by rw [hcl]; rfl) rfl (by decide) (by decide) (freeE_t ok H.high (by rw [hcl]; rfl) rfl (by decide) (by decide) (freeE_t ok H.low (by rw [hcl]; rfl) rfl (by decide) (by decide) ?_))))))
  refine new_scan ok rfl fun x d h1 h2 h3 h4 h5 h6 h7 t1 t2 t3 t4 t5 t6 t7 t l1 l2 => ?_
  refine hide _ fun hidP hidH => ?_
  obtain ⟨vi, ni, hli, hii⟩ := hli
  refine hidH ?_
  clear hidH
  refine hide _ fun hidP hidH => ?_
  obtain ⟨vd, nd, hld, hid⟩ := hld
  refine hidH ?_
  clear hidH
  refine hide _ fun hidP hidH => ?_
  obtain ⟨va, na, hla, hia⟩ := hla
  refine hidH ?_
  clear hidH
  exact (write_scan_c w x d li ld la h1 h2 h3 h4 h5 h6 h7 t1 t2 t3 t4 t5 t6 t7 _ _ _ _ st en hi lo _ ni nd na vi vd va I D A _ (.tail _ (.head _)) (.head _) (.tail _ (.tail _ hli)) (.tail _ (.tail _ hld)) (.tail _ (.tail _ hla)) hii hid hia (by omega) (by omega) (by omega)).tri ok rfl (by rintro v n' ⟨a, rfl, b⟩ t; exact ⟨_, sub_id, hr _ _ ⟨a, fun p hp => .tail _ (.tail _ hp), b⟩⟩) (fun C q => ⟨fun p hp => .tail _ (.tail _ (hn' p hp)), he C q⟩)
theorem heardS_c (w : World) (f c' a1 a2 a3 a4 a5 a6 a7 : Addr) (oc : Obj) (vs' : Array Value) (tq : Tok) (pm ctv : Value) (x : Addr) (C : Led) (li ld la : Addr) (t1 t2 t3 t4 : Tok) (I D A : List Int) (st en hi lo : Int) (news : Led) (H : ScC C a1 a2 a3 a4 a5 a6 a7 li ld la st en hi lo t1 t2 t3 t4) (hC : ∀ p ∈ C, p ∈ news) (hli : IntsL news li I) (hld : IntsL news ld D) (hla : IntsL news la A) (bI : I.length < 100) (bD : D.length < 100) (bA : A.length < 100)
    (hf : (f, kla_obj "<lambda>" scQual ({ posonlyargs := [], args := [], vararg := none, kwonlyargs := [], kw_defaults := [], kwarg := none, defaults := [] } : Arguments) (PySem.Expr.Call (PySem.Expr.Name (Str.ofString "write_scan") ⟨259, 30, 259, 40⟩) [(PySem.Expr.Call (PySem.Expr.Name (Str.ofString "ScanHead") ⟨259, 41, 259, 49⟩) [(PySem.Expr.Name (Str.ofString "idents") ⟨259, 50, 259, 56⟩), (PySem.Expr.Name (Str.ofString "dc_slots") ⟨259, 58, 259, 66⟩), (PySem.Expr.Name (Str.ofString "ac_slots") ⟨259, 68, 259, 76⟩), (PySem.Expr.Name (Str.ofString "start") ⟨259, 78, 259, 83⟩), (PySem.Expr.Name (Str.ofString "end") ⟨259, 85, 259, 88⟩), (PySem.Expr.Name (Str.ofString "high") ⟨259, 90, 259, 94⟩), (PySem.Expr.Name (Str.ofString "low") ⟨259, 96, 259, 99⟩)] [] ⟨259, 41, 259, 100⟩)] [] ⟨259, 30, 259, 101⟩) ({ kind := .function, names := [(Str.ofString "ac_slots", .free), (Str.ofString "dc_slots", .free), (Str.ofString "end", .free), (Str.ofString "high", .free), (Str.ofString "idents", .free), (Str.ofString "low", .free), (Str.ofString "start", .free), (Str.ofString "write_scan", .globalImplicit), (Str.ofString "ScanHead", .globalImplicit)], isGenerator := false, isCoroutine := false, more := [] } : Scope) [(Str.ofString "start", a4), (Str.ofString "low", a7), (Str.ofString "idents", a1), (Str.ofString "high", a6), (Str.ofString "end", a5), (Str.ofString "dc_slots", a2), (Str.ofString "ac_slots", a3)] pm c' ctv) ∈ news) (hoc : (c', oc) ∈ news) (ho1 : oc.data = .fields vs') (ho2 : vs'[1]? = some (.str scQual tq)) :
    CnT w 28 341 [.ref f] news (fun v n' => (∀ p ∈ news, p ∈ n') ∧ ((ScanOk I D A st en hi lo ∧ ∃ t, v = .bytes (byteArr (scanB I D A st en hi lo)) t) ∨ (¬ ScanOk I D A st en hi lo ∧ v = .none))) := by
  refine CnT.mono (heard_c w 24 f _ _ _ _ news _ _ (fun C h => h.1) hf (lamS_c w f c' a1 a2 a3 a4 a5 a6 a7 oc vs' tq pm ctv x C li ld la t1 t2 t3 t4 I D A st en hi lo news H hC hli hld hla bI bD bA hf hoc ho1 ho2)) ?_
  rintro v n' (⟨hv, hn', hok⟩ | ⟨hv, hn', C, hC⟩)
  · exact ⟨hn', .inl ⟨hok, hv⟩⟩
  · exact ⟨hn' ▸ sub_id, .inr ⟨hC.2, hv⟩⟩
theorem ne_add {L : Nat} (i j : Nat) (h : Nat.beq i j = false) : @Ne Nat (L + i) (L + j) := fun e => by
  have := Nat.add_left_cancel e
  subst this
  simp at h
theorem updF_at {a : Addr} {o : Obj} {post : Led} : ∀ (pre : Led), (∀ p ∈ pre ++ post, p.1 ≠ a) → UpdF a o (pre ++ (a, o) :: post) fun o' => pre ++ (a, o') :: post
  | [], h => .head h
  | _ :: pre, h => .tail (h _ (.head _)) (updF_at pre fun p hp => h p (.tail _ hp))
section
variable {w : World} {cs : Scope} {c : Cx w cs} {D : Nat} {sl : Sl} {n : Led} {t : Nat}
theorem AsgC.at {x : Str} {v : Value} {a : Addr} {o : Obj} {v₀ : Option Value} {k : Led → Prop} (pre : Led) {post : Led} (hn : n = pre ++ (a, o) :: post) (hc : c.cl.lookup x = some a) (hx : cs.names.lookup x = some .cell) (hd : o.data = .cell v₀) (ho : ∀ p ∈ pre ++ post, p.1 ≠ a) (h : ∀ o', o'.data = .cell (some v) → k (pre ++ (a, o') :: post)) : AsgC c x v n k :=
  ⟨_, a, o, _, v₀, fun p hp => hn ▸ hp, hc, hx, updF_at pre ho, hd, h⟩
end
noncomputable abbrev srCs : Scope := { kind := .function, names := [(Str.ofString "scan", .local), (Str.ofString "told", .local), (Str.ofString "due", .local), (Str.ofString "at", .local), (Str.ofString "head", .local), (Str.ofString "ac_slots", .cell), (Str.ofString "dc_slots", .cell), (Str.ofString "end", .cell), (Str.ofString "high", .cell), (Str.ofString "idents", .cell), (Str.ofString "low", .cell), (Str.ofString "start", .cell), (Str.ofString "_law_heard", .globalImplicit), (Str.ofString "_law_lets_scan", .globalImplicit), (Str.ofString "bytes", .globalImplicit), (Str.ofString "len", .globalImplicit), (Str.ofString "range", .globalImplicit), (Str.ofString "read_scan", .globalImplicit)], isGenerator := false, isCoroutine := false }
noncomputable abbrev srCl (L : Addr) : List (Str × Addr) := [(Str.ofString "start", L + 7), (Str.ofString "low", L + 6), (Str.ofString "idents", L + 5), (Str.ofString "high", L + 4), (Str.ofString "end", L + 3), (Str.ofString "dc_slots", L + 2), (Str.ofString "ac_slots", L + 1)]
noncomputable abbrev SrC (C : Led) (L li ld la : Addr) (st en hi lo : Int) (t1 t2 t3 t4 : Tok) : Prop := ScC C (L + 5) (L + 2) (L + 1) (L + 7) (L + 3) (L + 4) (L + 6) li ld la st en hi lo t1 t2 t3 t4
theorem lt_add {L a : Nat} (k : Nat) (h : a < L) : @Ne Nat a (L + k) := Nat.ne_of_lt (Nat.lt_of_lt_of_le h (Nat.le_add_right _ _))
theorem sr_store {w : World} {c : Cx w srCs} {sl : Sl} {R : Led} {t : Nat} {k : Sl → Led → Nat → Prop} {o1 o2 o3 o4 o5 o6 o7 : Obj} {p1 p2 p3 p4 p5 p6 p7 : Pos} {li ld la : Addr} {st en hi lo : Int} {t1 t2 t3 t4 : Tok} (hcl : c.cl = srCl c.L)
    (d1 : o1.data = .cell none) (d2 : o2.data = .cell none) (d3 : o3.data = .cell none) (d4 : o4.data = .cell none) (d5 : o5.data = .cell none) (d6 : o6.data = .cell none) (d7 : o7.data = .cell none) (hR : ∀ p ∈ R, p.1 < c.L)
    (h : ∀ C, SrC C c.L li ld la st en hi lo t1 t2 t3 t4 → (∀ p ∈ C, c.L < p.1) → k sl (C ++ R) t) :
    StoreL c [(Str.ofString "idents", p1), (Str.ofString "dc_slots", p2), (Str.ofString "ac_slots", p3), (Str.ofString "start", p4), (Str.ofString "end", p5), (Str.ofString "high", p6), (Str.ofString "low", p7)] [.ref li, .ref ld, .ref la, .int st t1, .int en t2, .int hi t3, .int lo t4] sl ([(c.L + 7, o1), (c.L + 6, o2), (c.L + 5, o3), (c.L + 4, o4), (c.L + 3, o5), (c.L + 2, o6), (c.L + 1, o7)] ++ R) t k := by
  have r : ∀ k, ∀ p ∈ R, p.1 ≠ c.L + k := fun k p hp => lt_add k (hR p hp)
  refine storeL_cell rfl (AsgC.at [(_, o1), (_, o2)] rfl (by rw [hcl]; rfl) rfl d3 (off_cons (ne_add 7 5 rfl) (off_cons (ne_add 6 5 rfl) (off_cons (ne_add 4 5 rfl) (off_cons (ne_add 3 5 rfl) (off_cons (ne_add 2 5 rfl) (off_cons (ne_add 1 5 rfl) (r 5))))))) fun q3 e3 => ?_)
  refine storeL_cell rfl (AsgC.at [(_, o1), (_, o2), (_, q3), (_, o4), (_, o5)] rfl (by rw [hcl]; rfl) rfl d6 (off_cons (ne_add 7 2 rfl) (off_cons (ne_add 6 2 rfl) (off_cons (ne_add 5 2 rfl) (off_cons (ne_add 4 2 rfl) (off_cons (ne_add 3 2 rfl) (off_cons (ne_add 1 2 rfl) (r 2))))))) fun q6 e6 => ?_)
  refine storeL_cell rfl (AsgC.at [(_, o1), (_, o2), (_, q3), (_, o4), (_, o5), (_, q6)] rfl (by rw [hcl]; rfl) rfl d7 (off_cons (ne_add 7 1 rfl) (off_cons (ne_add 6 1 rfl) (off_cons (ne_add 5 1 rfl) (off_cons (ne_add 4 1 rfl) (off_cons (ne_add 3 1 rfl) (off_cons (ne_add 2 1 rfl) (r 1))))))) fun q7 e7 => ?_)
  refine storeL_cell rfl (AsgC.at [] rfl (by rw [hcl]; rfl) rfl d1 (off_cons (ne_add 6 7 rfl) (off_cons (ne_add 5 7 rfl) (off_cons (ne_add 4 7 rfl) (off_cons (ne_add 3 7 rfl) (off_cons (ne_add 2 7 rfl) (off_cons (ne_add 1 7 rfl) (r 7))))))) fun q1 e1 => ?_)
  refine storeL_cell rfl (AsgC.at [(_, q1), (_, o2), (_, q3), (_, o4)] rfl (by rw [hcl]; rfl) rfl d5 (off_cons (ne_add 7 3 rfl) (off_cons (ne_add 6 3 rfl) (off_cons (ne_add 5 3 rfl) (off_cons (ne_add 4 3 rfl) (off_cons (ne_add 2 3 rfl) (off_cons (ne_add 1 3 rfl) (r 3))))))) fun q5 e5 => ?_)
  refine storeL_cell rfl (AsgC.at [(_, q1), (_, o2), (_, q3)] rfl (by rw [hcl]; rfl) rfl d4 (off_cons (ne_add 7 4 rfl) (off_cons (ne_add 6 4 rfl) (off_cons (ne_add 5 4 rfl) (off_cons (ne_add 3 4 rfl) (off_cons (ne_add 2 4 rfl) (off_cons (ne_add 1 4 rfl) (r 4))))))) fun q4 e4 => ?_)
  refine storeL_cell rfl (AsgC.at [(_, q1)] rfl (by rw [hcl]; rfl) rfl d2 (off_cons (ne_add 7 6 rfl) (off_cons (ne_add 5 6 rfl) (off_cons (ne_add 4 6 rfl) (off_cons (ne_add 3 6 rfl) (off_cons (ne_add 2 6 rfl) (off_cons (ne_add 1 6 rfl) (r 6))))))) fun q2 e2 => ?_)
  refine h [(c.L + 7, q1), (c.L + 6, q2), (c.L + 5, q3), (c.L + 4, q4), (c.L + 3, q5), (c.L + 2, q6), (c.L + 1, q7)] ⟨⟨q3, .tail _ (.tail _ (.head _)), e3⟩, ⟨q6, .tail _ (.tail _ (.tail _ (.tail _ (.tail _ (.head _))))), e6⟩, ⟨q7, .tail _ (.tail _ (.tail _ (.tail _ (.tail _ (.tail _ (.head _)))))), e7⟩, ⟨q1, .head _, e1⟩, ⟨q5, .tail _ (.tail _ (.tail _ (.tail _ (.head _)))), e5⟩, ⟨q4, .tail _ (.tail _ (.tail _ (.head _))), e4⟩, ⟨q2, .tail _ (.head _), e2⟩⟩ ?_
  have z : ∀ k, c.L < c.L + (k + 1) := fun k => Nat.lt_add_of_pos_right (Nat.succ_pos k)
  exact sub_and (P := fun a => c.L < a) (z 6) (sub_and (P := fun a => c.L < a) (z 5) (sub_and (P := fun a => c.L < a) (z 4) (sub_and (P := fun a => c.L < a) (z 3) (sub_and (P := fun a => c.L < a) (z 2) (sub_and (P := fun a => c.L < a) (z 1) (sub_and (P := fun a => c.L < a) (z 0) fun _ h => nomatch h))))))
theorem sr_turn {w : World} {c : Cx w srCs} {D : Nat} {n : Led} {t : Nat} {kf : KF} {li ld la I : Addr} {t1 t2 t3 t4 tb tv : Tok} {st en hi lo : Int} {i : Nat} {is ds as b : List Int} {oI : Obj} {J : Sl → Led → Prop} {f0 f1 f4 : Option Value} (ok : c.Ok D) (hcl : c.cl = srCl c.L) (H : SrC n c.L li ld la st en hi lo t1 t2 t3 t4) (hli : IntsL n li is) (hld : IntsL n ld ds) (hla : IntsL n la as)
    (q : ScanOk is ds as st en hi lo) (hi' : i < is.length) (hb : b.length < 1000000) (hI : ∀ p ∈ n, p.1 ≠ I) (h : ∀ tw, J [f0, f1, some (.bytes (byteArr (b ++ slotB is ds as i)) tw), some (.int (0 + (i : Int)) tv), f4] n) :
    vcS c rs__law_scan_right_4 [f0, f1, some (.bytes (byteArr b) tb), some (.int (0 + (i : Int)) tv), f4] ((I, oI) :: n) t (turnK J I oI kf) := by
  refine hide _ fun hidP hidH => ?_
  obtain ⟨vi, ni, hli, hii⟩ := hli
  refine hidH ?_
  clear hidH
  refine hide _ fun hidP hidH => ?_
  obtain ⟨vd, nd, hld, hid⟩ := hld
  refine hidH ?_
  clear hidH
  refine hide _ fun hidP hidH => ?_
  obtain ⟨va, na, hla, hia⟩ := hla
  refine hidH ?_
  clear hidH
  have z0 : (0 : Int) ≤ 0 + (i : Int) := by omega
  have z1 : (0 : Int) + (i : Int) < is.length := by omega
  have z2 : (0 : Int) + (i : Int) < ds.length := by rw [q.2.1.1]; exact z1
  have z3 : (0 : Int) + (i : Int) < as.length := by rw [q.2.1.2]; exact z1
  have k1 : is.length < 2 ^ 62 := Nat.lt_of_le_of_lt q.1.2 (by decide)
  have k2 : ds.length < 2 ^ 62 := by rw [q.2.1.1]; exact k1
  have k3 : as.length < 2 ^ 62 := by rw [q.2.1.2]; exact k1
  have e : [is.getD (0 + (i : Int)).toNat 0, 16 * ds.getD (0 + (i : Int)).toNat 0 + as.getD (0 + (i : Int)).toNat 0] = slotB is ds as i := by unfold slotB; rw [Int.mul_comm]
  have H' := H.mono (sub_up sub_id : ∀ p ∈ n, p ∈ (I, oI) :: n)
  refine cellE_t ok H'.idents (by rw [hcl]; rfl) rfl (by decide) (item_t (.tail _ hli) hii z0 z1 k1 fun tv2 t => ?_)
  refine cellE_t ok H'.dc (by rw [hcl]; rfl) rfl (by decide) (item_t (.tail _ hld) hid z0 z2 k2 fun tv3 t => mul_t (mul_l (by decide +kernel)) ?_)
  refine cellE_t ok H'.ac (by rw [hcl]; rfl) rfl (by decide) (item_t (.tail _ hla) hia z0 z3 k3 fun tv4 t => ⟨Nat.le_of_ble_eq_true rfl, fun l hl => ?_⟩)
  refine bytes_t (.head _) (.cons _ _ (.cons _ _ .nil)) (e ▸ slotB_in q hi') (Nat.le_of_ble_eq_true rfl) fun tv5 t => addB_t ?_ fun tv6 t => ?_
  · show b.length + 2 ≤ 16777216
    omega
  · rw [e]
    exact ⟨.tail _ (.head _), n, sub_up (sub_up sub_id), hI, h tv6⟩
section
variable {w : World} {cs : Scope} {c : Cx w cs} {D : Nat} {sl : Sl} {n : Led} {t : Nat}
theorem lets_scan_t (ok : c.Ok D) {x : Addr} {I B A : List Int} {st en hi lo : Int} {k : KV} (H : ScanRow n (.ref x) I B A st en hi lo) (bI : I.length < 100) (bD : B.length < 100) (bA : A.length < 100) (hD : Nat.ble 8 D = true) (h : ∀ b t, (b = true ↔ LetsS I B A st en hi lo) → k (.bool b) sl n t) : Tri c sl n t (call (.ref 394) [.ref x]) k :=
  (lets_scan_c w x I B A st en hi lo n H bI bD bA).tri ok hD (by rintro _ _ ⟨b, rfl, q, rfl⟩ t; exact h b t q) fun _ z => z.elim
end
theorem scanAt_cast {n : Led} {v : Value} {I D A I' D' A' : List Int} {a b c d a' b' c' d' : Int} (H : ScanAt n v I' D' A' a' b' c' d') (e1 : I' = I) (e2 : D' = D) (e3 : A' = A) (e4 : a' = a) (e5 : b' = b) (e6 : c' = c) (e7 : d' = d) : ScanAt n v I D A a b c d := by
  subst e1 e2 e3 e4 e5 e6 e7; exact H
theorem scanOk_cast {I D A I' D' A' : List Int} {a b c d a' b' c' d' : Int} (H : ScanOk I D A a b c d) (e1 : I' = I) (e2 : D' = D) (e3 : A' = A) (e4 : a' = a) (e5 : b' = b) (e6 : c' = c) (e7 : d' = d) : ScanOk I' D' A' a' b' c' d' := by
  subst e1 e2 e3 e4 e5 e6 e7; exact H
theorem scanB_eq {is ds as : List Int} {st en hi lo : Int} {n : Nat} (h : n = is.length) : [((n : Nat) : Int)] ++ (List.range is.length).flatMap (slotB is ds as) ++ [st, en, 16 * hi + lo] = scanB is ds as st en hi lo := by
  subst h; unfold scanB; rw [Int.mul_comm]
theorem scanB_in {is ds as : List Int} {st en hi lo : Int} (q : ScanOk is ds as st en hi lo) : KBa.In (scanB is ds as st en hi lo) ∧ (scanB is ds as st en hi lo).length < 10000 := by
  refine ⟨in_app (in_app (in_cons (n4_in q.1) in_nil) fun k hk => ?_) (tail_in q.2.2.2.2.2.1 q.2.2.2.2.2.2), ?_⟩
  · obtain ⟨i, h1, h2⟩ := List.mem_flatMap.mp hk
    exact slotB_in q (List.mem_range.mp h1) k h2
  · have := flat_slot_len (is := is) (ds := ds) (as := as) is.length
    have := q.1.2
    unfold scanB
    simp only [List.length_append, List.length_cons, List.length_nil]
    omega
noncomputable def SRPost (news : Led) (v : Value) (n' : Led) : Prop := v = .bool true ∧ ∃ ps' news', n' = (396, tabObj ps') :: news' ∧ (∀ p ∈ news', p.1 ≠ 396) ∧ Tab 259 22 scQual ps' news' ∧ ∀ p ∈ news, p ∈ news'
theorem sr_done {n post news : Led} {ps' : Array Value} {c' : Addr} {oc : Obj} {S : Value → Led → Prop} (hr : ∀ v n, SRPost news v n → S v n) (hn : ∀ p ∈ (c', oc) :: (396, tabObj ps') :: post, p ∈ n) (ht : Tab 259 22 scQual ps' [(c', oc)]) (hc : @Ne Nat c' 396) (ho : ∀ p ∈ post, p.1 ≠ 396) (hs : ∀ p ∈ news, p ∈ post) :
    ∃ n', (∀ p ∈ n', p ∈ n) ∧ S (.bool true) n' :=
  ⟨(396, tabObj ps') :: (c', oc) :: post, sub_cons (hn _ (.tail _ (.head _))) (sub_cons (hn _ (.head _)) fun p hp => hn _ (.tail _ (.tail _ hp))), hr _ _ ⟨rfl, ps', _, rfl, off_cons hc ho, ht.mono fun p hp => (List.mem_singleton.mp hp) ▸ .head _, fun p hp => .tail _ (hs p hp)⟩⟩
theorem scan_right_c (w : World) (x : Addr) (I D A : List Int) (st en hi lo : Int) (ps : Array Value) (news : Led) (H : ScanRow news (.ref x) I D A st en hi lo) (b1 : 1 ≤ I.length) (bI : I.length < 100) (bD : D.length < 100) (bA : A.length < 100)
    (hoff : ∀ p ∈ news, p.1 ≠ 396) (ht : Tab 259 22 scQual ps news) :
    CnT w 44 401 [.ref x] ((396, tabObj ps) :: news) (fun v n' => v = .bool true ∧ ∃ ps' news', n' = (396, tabObj ps') :: news' ∧ (∀ p ∈ news', p.1 ≠ 396) ∧ Tab 259 22 scQual ps' news' ∧ ∀ p ∈ news, p ∈ news') := by
  have hfill := fill_ w
  revert hfill
  k_fill
  intro _
  refine' CnT.of1 (x := Str.ofString "scan") (sl₀ := [some (.ref x), none, none, none, none]) ?hf ?hc ?hb ?hs ?c2 ?c3 ?c4 ?hnd ?_
  case hf => k_is
  case hc => k_is
  case hb => exact fun s => BindsTo.of_eq rfl
  case hs => exact .inl ⟨rfl, 0, 5, by kernel_rfl, rfl⟩
  case c2 => exact rfl
  case c3 => exact rfl
  case c4 => exact rfl
  case hnd => decide +kernel
  intro cx S cells ok okT hcn hcd hcl Y hlt hr t
  refine hide _ fun hidP hidH => ?_
  obtain ⟨o1, o2, o3, o4, o5, o6, o7, rfl, d1, d2, d3, d4, d5, d6, d7⟩ := kc_seven Y
  refine hidH ?_
  clear hidH
  have H0 := H
  refine hide _ fun hidP hidH => ?_
  obtain ⟨x', li, ld, la, t1, t2, t3, t4, e, hx, hI, hD, hA⟩ := H
  refine hidH ?_
  clear hidH
  cases e
  have hcl' : cx.cl = srCl cx.L := hcl
  refine vc_go (f := 40) (rs := rs__law_scan_right) ok (by kernel_rfl) (by kernel_rfl) ?_
  refine unpack_t ok (xs := [(Str.ofString "idents", _), (Str.ofString "dc_slots", _), (Str.ofString "ac_slots", _), (Str.ofString "start", _), (Str.ofString "end", _), (Str.ofString "high", _), (Str.ofString "low", _)]) (rv := .loc 0) (by kernel_rfl) rfl (by with_unfolding_all rfl) (by with_unfolding_all rfl) ?_
  refine ⟨x, _, rfl, List.mem_append_right _ (.tail _ hx), rfl, sr_store hcl' d1 d2 d3 d4 d5 d6 d7 hlt fun C HC hL => ?_⟩
  clear d1 d2 d3 d4 d5 d6 d7 Y
  have h396 : ∀ p ∈ C ++ news, p.1 ≠ 396 := fun p hp => (List.mem_append.mp hp).elim (fun h => Nat.ne_of_gt (Nat.lt_trans (hlt _ (.head _)) (hL p h))) (hoff p)
  refine lam_t ok (qual := scQual) (P := 396) (ps := ps) (TT := news) (post := C ++ news) (clos := srCl cx.L) (sub_cons (List.mem_append_right _ (.head _)) fun p hp => (List.mem_append.mp hp).elim (List.mem_append_left _) fun h => List.mem_append_right _ (.tail _ h)) (by rw [hcn]) hcd (by kernel_rfl) h396 (fun p hp => List.mem_append_right _ hp) ht rfl (by show closureFor _ (envX _ _ _ _ _ cx.cl) = _; rw [hcl]; rfl) ?_
  intro f c' oc vs' tq ctv ps' pm t a1 a2 a3 a4 _ a5
  have up : ∀ p ∈ news, p ∈ (c', oc) :: (396, tabObj ps') :: (C ++ news) := fun p hp => .tail _ (.tail _ (List.mem_append_right _ hp))
  refine CnT.tri (heardS_c w f c' (cx.L + 5) (cx.L + 2) (cx.L + 1) (cx.L + 7) (cx.L + 3) (cx.L + 4) (cx.L + 6) oc vs' tq pm ctv x C li ld la t1 t2 t3 t4 I D A st en hi lo _ HC (fun p hp => .tail _ (.tail _ (.tail _ (List.mem_append_left _ hp)))) (hI.mono fun p hp => .tail _ (up p hp)) (hD.mono fun p hp => .tail _ (up p hp)) (hA.mono fun p hp => .tail _ (up p hp)) bI bD bA (.head _) (.tail _ (.head _)) a1 a2) ok okT rfl ?_
  rintro v n' ⟨hs, hv⟩ t
  have hsub : ∀ p ∈ (c', oc) :: (396, tabObj ps') :: (C ++ news), p ∈ n' := fun p hp => hs p (.tail _ hp)
  have hnews : ∀ p ∈ news, p ∈ n' := fun p hp => hsub p (up p hp)
  have done : ∀ n'', (∀ e ∈ n', e ∈ n'') → ∃ n', (∀ p ∈ n', p ∈ n'') ∧ S (.bool true) n' := fun n'' h => sr_done (post := C ++ news) (news := news) hr (fun e he => h e (hsub e he)) a3 a4 h396 fun e he => List.mem_append_right _ he
  replace HC := HC.mono fun p hp => hsub p (.tail _ (.tail _ (List.mem_append_left _ hp)))
  have hB := lets_scan_iff (D := D) (A := A) (st := st) (en := en) (hi := hi) (lo := lo) b1
  refine lets_scan_t ok (H0.mono hnews) bI bD bA rfl fun b t hb => ⟨fun e => ?_, fun e => ?_⟩
  · rcases hv with ⟨hok, tv, rfl⟩ | ⟨hno, rfl⟩
    · exact absurd (hb.mpr (hB.mpr hok)) (by rw [not_t e]; decide)
    · exact is_none_t (done _ sub_id)
  rcases hv with ⟨hok, tv, rfl⟩ | ⟨hno, rfl⟩
  rotate_left
  · exact absurd (hB.mp (hb.mp (not_f e))) hno
  refine hide _ fun hidP hidH => ?_
  obtain ⟨vi, ni, hli, hii⟩ := id hI
  refine hidH ?_
  clear hidH
  have e1 := hii.length
  refine cellE_t ok HC.idents (by rw [hcl']; rfl) rfl (by decide) (len_t (hnews _ hli) (by omega) fun tv2 t => ⟨Nat.le_of_ble_eq_true rfl, fun lb hlb => ?_⟩)
  refine bytes_t (.head _) (.cons _ _ .nil) (in_cons (n4_in (e1.symm ▸ hok.1)) in_nil) (Nat.le_of_ble_eq_true rfl) fun tv3 t => ?_
  refine Tri.held fun b hb => for_t (ok.hold hb) Cx.one_hold (ix := 3) (re := .call (.type "range") (.cons (.call (.builtin "len") (.cons (.raw _) .nil)) .nil)) (by kernel_rfl) (by with_unfolding_all rfl) (fun _ => rfl) ?_
  refine cellE_t (ok.hold hb) (HC.mono (sub_up sub_id)).idents (by rw [hcl']; rfl) rfl (by decide) (len_t (.tail _ (hnews _ hli)) (by omega) fun tv4 t => range_t fun rg u1 u2 u3 t hg => ?_)
  refine iter_range_t (ix := 3) (N := I.length) Cx.one_hold (fun i sl n => ∃ a tb, sl = [some (.ref x), some (.bytes (byteArr (scanB I D A st en hi lo)) tv), some (.bytes (byteArr ([((vi.length : Nat) : Int)] ++ (List.range i).flatMap (slotB I D A))) tb), a, none] ∧ n = (rg, rangeObj ((vi.length : Nat) : Int) u1 u2 u3) :: (lb, listOf [Value.int ((vi.length : Nat) : Int) tv2].toArray 0) :: n') (by kernel_rfl) (.head _) (by omega) (by omega) ⟨none, tv3, rfl, rfl⟩ ?_ ?_
  · intro i tvi sl n Ia oI t hi hz1 hIa
    refine hide _ fun hidP hidH => ?_
    obtain ⟨a, tb, rfl, rfl⟩ := hz1
    refine hidH ?_
    clear hidH
    refine vc_go (f := 40) (rs := rs__law_scan_right_4) (ok.hold ‹_›) (by kernel_rfl) (by kernel_rfl) ?_
    refine sr_turn (ok.hold ‹_›) hcl' (HC.mono (sub_up (sub_up sub_id))) (hI.mono fun p hp => .tail _ (.tail _ (hnews p hp))) (hD.mono fun p hp => .tail _ (.tail _ (hnews p hp))) (hA.mono fun p hp => .tail _ (.tail _ (hnews p hp))) hok hi ?_ hIa fun tw => ⟨_, tw, by rw [flat_range_succ, ← List.append_assoc], rfl⟩
    rw [List.length_append, flat_slot_len]
    show 1 + 2 * i < 1000000
    omega
  intro sl n t hz2
  refine hide _ fun hidP hidH => ?_
  obtain ⟨a, tb, rfl, rfl⟩ := hz2
  refine hidH ?_
  clear hidH
  have HC2 := HC.mono (sub_up (sub_up sub_id) : ∀ p ∈ n', p ∈ (rg, rangeObj ((vi.length : Nat) : Int) u1 u2 u3) :: (lb, listOf [Value.int ((vi.length : Nat) : Int) tv2].toArray 0) :: n')
  refine cellE_t ok HC2.start (by rw [hcl']; rfl) rfl (by decide) (cellE_t ok HC2.end_ (by rw [hcl']; rfl) rfl (by decide) (cellE_t ok HC2.high (by rw [hcl']; rfl) rfl (by decide) (mul_t (mul_l (by decide +kernel)) (cellE_t ok HC2.low (by rw [hcl']; rfl) rfl (by decide) ⟨Nat.le_of_ble_eq_true rfl, fun l2 g3 => ?_⟩))))
  have htl := tail_in hok.2.2.2.2.2.1 hok.2.2.2.2.2.2
  rw [Int.mul_comm] at htl
  refine bytes_t (.head _) (.cons _ _ (.cons _ _ (.cons _ _ .nil))) htl (Nat.le_of_ble_eq_true rfl) fun tv5 t => addB_t ?_ fun tv6 t => ?_
  · rw [List.length_append, flat_slot_len]
    show 1 + 2 * I.length + 3 ≤ 16777216
    omega
  obtain ⟨hin, hlB⟩ := scanB_in hok
  refine hide _ fun hidP hidH => ?_
  obtain ⟨y1, y2, y3, y4, y5, y6, y7, y8⟩ := scan_back hok
  refine hidH ?_
  clear hidH
  rw [scanB_eq e1]
  refine (read_scan_c w tv6 (scanB I D A st en hi lo) _ hin hlB).tri ok rfl ?_ (fun C z => absurd ⟨y1, scanOk_cast hok y2 y3 y4 y5 y6 y7 y8⟩ z.2)
  rintro v2 n2 ⟨_, g2, g3⟩ t
  refine hide _ fun hidP hidH => ?_
  obtain ⟨y, d, mi, md, ma, h1, h2, h3, h4, h5, h6, h7, u1, u2, u3, u4, u5, u6, u7, ts, te, th, tl, m, m1, m2, m3, wi, wd, wa, rfl, hy, hd, hmi, hmd, hma, j1, j2, j3⟩ := scanAt_cast g3 y2 y3 y4 y5 y6 y7 y8
  refine hidH ?_
  clear hidH
  have HS : ScanD n2 y d mi md ma h1 h2 h3 h4 h5 h6 h7 u1 u2 u3 u4 u5 u6 u7 ts te th tl st en hi lo m := ⟨hy, hd⟩
  refine eqB_t hin hin ⟨fun _ => ?_, fun e => absurd rfl (of_decide_eq_false e)⟩
  refine attrK (sa_idents HS) (attrK (sa_dc HS) (attrK (sa_ac HS) (attrK (sa_start HS) (attrK (sa_end HS) (attrK (sa_high HS) (attrK (sa_low HS) ⟨Nat.le_of_ble_eq_true rfl, fun X hX => ?_⟩))))))
  exact eqS_t ok ⟨X, mi, md, ma, _, _, _, _, rfl, .head _, ⟨wi, m1, .tail _ hmi, j1⟩, ⟨wd, m2, .tail _ hmd, j2⟩, ⟨wa, m3, .tail _ hma, j3⟩⟩ (H0.mono fun p hp => .tail _ (g2 _ (.tail _ (.tail _ (.tail _ (hnews p hp)))))) (done _ fun e he => .tail _ (g2 _ (.tail _ (.tail _ (.tail _ he)))))
section
variable {prog : Program} {w : World} {A₀ : Around} {s' : Shared} {base G g g₀ B : Heap} {outer : List Env} {L a e t C : Addr} {m : Str → Option Value} {name : Str} {scope : Scope} {cd : Value} {cl : List (Str × Addr)} {vs : List Value} {news : List (Addr × Obj)} {KF : Frag} {p : Program} {loose : List Str} {mean : ExcName → Option Value} {mg mb : Str → Option Value}
  {x : Str} {np pos : Pos} {b₀ : Stmt} {suite : List Stmt} {rest : List ExceptHandler} {Q : Flow → Shared → Prop} {E : Value → Shared → Prop}
/-- except X: in a frame that has cells -/
theorem caught_C (R : RaisedS base G (envX name scope L a cd cl :: outer) e (.ref C) t vs news s'.heap) (F : Fr g L G m) (K : Below A₀ base outer g) (hsm : G.UpToSlots s'.heap) (XB : KF.In base) (TB : Top p loose mean mg mb base)
    (D : KtsDicts (frs outer) g) (T0 : KtsTurn (frs outer) g₀ g) (ex : nsIn KF mainGlobals x = some (some (.ref C))) (q : ktsIn KF C "BaseException" = true)
    (k : ∀ h' g', KtsTurn (frs outer) g₀ g' → Fr g' L h' m → News g' L h' news → Below A₀ base outer g' → KF.In g' → Top p loose mean mg mb g' → KtsDicts (frs outer) g' →
      wpAny (model prog w) ((A₀.deeper (envX name scope L a cd cl)).mark (some (.ref e))) (execs (b₀ :: suite) (envX name scope L a cd cl)) Q E { s' with heap := h' })
    (hk : scope.kind = .function) (hx : (envX name scope L a cd cl).kindOf x = some .globalImplicit) (hd : (x == ("__debug__" : Str)) = false)
    (hE : PassesOwnAt (model prog w) ((A₀.deeper (envX name scope L a cd cl)).mark (some (.ref e))) (A₀.deeper (envX name scope L a cd cl)) (envX name scope L a cd cl) E) :
    wpAny (model prog w) (A₀.deeper (envX name scope L a cd cl)) (noteFrame (.ref e) (envX name scope L a cd cl))
      (fun _ s₂ => wpAny (model prog w) (A₀.deeper (envX name scope L a cd cl)) (setFlight (.ref e) none) (fun _ s₃ =>
        wpAny (model prog w) (A₀.deeper (envX name scope L a cd cl)) (handleBy (.ref e) (envX name scope L a cd cl) (.ExceptHandler (some (.Name x np)) none (b₀ :: suite) pos :: rest)) Q E s₃) E s₂) E s' := by
  refine hide _ fun hidP hidH => ?_
  obtain ⟨⟨B, hB, hG, hl, hfl, _⟩, _⟩ := R
  refine hidH ?_
  clear hidH
  have hL : B.get? L = none := by
    refine hide _ fun hidP hidH => ?_
    obtain ⟨_, ⟨L', _, hf, hn, _⟩, _⟩ := hfl.2.2.1
    refine hidH ?_
    clear hidH
    cases hf
    exact hn
  have ground : ∀ {h : Heap}, B.StaysIn h → G.UpToSlots h → ∃ g', KtsTurn (frs outer) g g' ∧ Fr g' L h m ∧ Below A₀ base outer g' := fun hb hs => kts_ground (name := name) (scope := scope) (a := a) (cd := cd) K F hG hb hs
  refine wpAny_looks_onW (Around.frames_deeper K.stack) rfl hfl fun h1 held1 up1 => wpAny_landsW held1 fun h2 held2 up2 => ?_
  have up := up1.trans up2
  refine hide _ fun hidP hidH => ?_
  obtain ⟨g2, _, F2, K2⟩ := ground held2.1 (hsm.trans up)
  refine hidH ?_
  clear hidH
  obtain ⟨ob, hob, hobc⟩ := held2.there
  refine hide _ fun hidP hidH => ?_
  obtain ⟨_, _, _, _, _, _, _, _, _, _, _, _, _, _, _, _, _, hC, hbase, _⟩ := kts_cls (XB.keeps K2.stays) q
  refine hidH ?_
  clear hidH
  refine wpAny_handleBy_cons (codeAny_handlers_test (nameX_K F2 (XB.keeps K2.stays) (topRead_of (TB.keeps K2.stays)) ex ?_ hk hx hd)) (by intro z; cases z)
  refine wpAny_excMatches_sub_self (F2.keep _ _ hC) hob hobc hbase (codeAny_handlers_suite (lands_againW held2 fun h3 fl3 up3 => ?_))
  refine hide _ fun hidP hidH => ?_
  obtain ⟨g3, T3, F3, K3⟩ := ground fl3.1 ((hsm.trans up).trans up3)
  refine hidH ?_
  clear hidH
  refine wpAny_passesOwnAt hE (k h3 g3 (T0.trans T3) F3 (fun z hz => ⟨fl3.1 _ _ (hl z hz).1, fun y => ?_, T3.none_ _ (kts_none F.keep (hl z hz).2.1)⟩) K3 (XB.keeps K3.stays) (TB.keeps K3.stays) (D.turn T3))
  have := (hl z hz).1
  rw [y, hL] at this
  cases this
end
noncomputable abbrev rmQual : Str := Str.ofString "_law_rims_right" ++ Str.ofString ".<locals>." ++ Str.ofString "<lambda>"
noncomputable def S6 (qual : Str) (ps : Array Value) (news : List (Addr × Obj)) : Prop :=
  ∃ c1 o1 v1 t1 c2 o2 v2 t2, ps = #[rawInt 277, rawInt 0, .ref c1, rawInt 278, rawInt 0, .ref c2] ∧ (c1, o1) ∈ news ∧ o1.data = .fields v1 ∧ v1[1]? = some (.str qual t1) ∧ (c2, o2) ∈ news ∧ o2.data = .fields v2 ∧ v2[1]? = some (.str qual t2)
/-- the table of the two lambdas: nothing, or both -/
noncomputable def S0 (qual : Str) (ps : Array Value) (news : List (Addr × Obj)) : Prop := ps = #[] ∨ S6 qual ps news
noncomputable def S3 (qual : Str) (ps : Array Value) (news : List (Addr × Obj)) : Prop :=
  (∃ c1 o1 v1 t1, ps = #[rawInt 277, rawInt 0, .ref c1] ∧ (c1, o1) ∈ news ∧ o1.data = .fields v1 ∧ v1[1]? = some (.str qual t1)) ∨ S6 qual ps news
theorem S6.mono {qual : Str} {ps : Array Value} {news news' : List (Addr × Obj)} (h : S6 qual ps news) (hs : ∀ p ∈ news, p ∈ news') : S6 qual ps news' := by
  refine hide _ fun hidP hidH => ?_
  obtain ⟨c1, o1, v1, t1, c2, o2, v2, t2, e, a, b, c, d, f, g⟩ := h
  refine hidH ?_
  clear hidH
  exact ⟨c1, o1, v1, t1, c2, o2, v2, t2, e, hs _ a, b, c, hs _ d, f, g⟩
theorem S0.mono {qual : Str} {ps : Array Value} {news news' : List (Addr × Obj)} (h : S0 qual ps news) (hs : ∀ p ∈ news, p ∈ news') : S0 qual ps news' :=
  h.imp id fun h => h.mono hs
theorem S3.mono {qual : Str} {ps : Array Value} {news news' : List (Addr × Obj)} (h : S3 qual ps news) (hs : ∀ p ∈ news, p ∈ news') : S3 qual ps news' := by
  rcases h with ⟨c1, o1, v1, t1, e, a, b, c⟩ | h
  · exact .inl ⟨c1, o1, v1, t1, e, hs _ a, b, c⟩
  · exact .inr (h.mono hs)
section
variable {M : Model} {A : Around} {E : Value → Shared → Prop} {s : Shared} {h₀ : Heap} {L a c P : Addr} {m mg mb : Str → Option Value} {cn : Str} {cs : Scope} {ccd : Value} {cl : List (Str × Addr)} {pre post TT : List (Addr × Obj)}
  {p : Program} {loose : List Str} {mean : ExcName → Option Value} {params : Arguments} {body : PySem.Expr} {scope : Scope} {ps : Array Value} {clos : List (Str × Addr)}
theorem lamA_eval {Q : Value → Shared → Prop} {el ec : Nat} (F : Fr h₀ L s.heap m) (N : News h₀ L s.heap (pre ++ (P, tabObj ps) :: post)) (T : Top p loose mean mg mb h₀) (C : CodeHd h₀ c P) (hcd : ccd = .ref c) (hkP : ∀ p ∈ pre ++ post, p.1 ≠ P)
    (hTT : ∀ p ∈ TT, p ∈ pre ++ post) (ht : S0 ((cn ++ ".<locals>." ++ "<lambda>" : Str)) ps TT) (hdef : defaultsOf params (envX cn cs L a ccd cl) = ([], []))
    (hcl : closureFor scope (envX cn cs L a ccd cl) = pure clos)
    (h : ∀ f c' oc vs t ctv ps' h' tk, Fr h₀ L h' m →
      News h₀ L h' ((f, kla_obj "<lambda>" (cn ++ ".<locals>." ++ "<lambda>" : Str) params body scope clos ((mg "__name__").getD .none) c' ctv) :: (c', oc) :: (P, tabObj ps') :: (pre ++ post)) →
      oc.data = .fields vs → vs[1]? = some (.str (cn ++ ".<locals>." ++ "<lambda>" : Str) t) → S3 (cn ++ ".<locals>." ++ "<lambda>" : Str) ps' ((c', oc) :: TT) → @Ne Nat c' P → (∀ q ∈ (c', oc) :: (P, tabObj ps') :: (pre ++ post), q.1 < f) → Q (.ref f) { s with heap := h', toks := tk }) :
    wpAny M A (eval (.Lambda params body scope ⟨277, 0, el, ec⟩) (envX cn cs L a ccd cl)) Q E s := by
  refine kla_eval hdef ?_
  have hmP := N (P, tabObj ps) (List.mem_append_right _ (.head _))
  have Nk : News h₀ L s.heap (pre ++ post) := fun p hp => N p ((List.mem_append.mp hp).elim (fun h => List.mem_append_left _ h) fun h => List.mem_append_right _ (.tail _ h))
  have N2 : News h₀ L s.heap ((P, tabObj ps) :: (pre ++ post)) := fun p hp => (List.mem_cons.mp hp).elim (fun e => e ▸ hmP) fun hp => Nk p hp
  rcases ht with rfl | ⟨c1, o1, v1, t1, c2, o2, v2, t2, rfl, m1, d1, w1, m2, d2, w2⟩
  · refine kla_nest (ps := #[]) (g := fun o => (P, o) :: (pre ++ post)) F N2 T C hcd ?_ (by simp [TriplesOk, rawInt]) (by simp [codeAmong, rawInt]) hcl ?_
    · exact .head hkP
    · intro f c' oc vs t ctv h' tk F' N' hd hv l1 l2
      have hcP : P < c' := l1 _ (.head _)
      refine h f c' oc vs t ctv _ h' tk F' N' hd hv (.inl ⟨c', oc, vs, t, rfl, .head _, hd, hv⟩) (Nat.ne_of_gt hcP) ?_
      intro q hq
      rcases List.mem_cons.mp hq with rfl | hq
      · exact l2
      · rcases List.mem_cons.mp hq with rfl | hq
        · exact Nat.lt_trans hcP l2
        · exact Nat.lt_trans (l1 q (.tail _ hq)) l2
  · have hc := hTT _ m1
    refine kla_hit (c' := c1) F N2 T C hcd (.head _) (by simp [TriplesOk, rawInt]) (by simp [codeAmong, rawInt]) hcl ?_
    intro f ctv h' tk F' N' l1
    refine h f c1 o1 v1 t1 ctv _ h' tk F' (fun p hp => ?_) d1 w1 (.inr ⟨c1, o1, v1, t1, c2, o2, v2, t2, rfl, .head _, d1, w1, .tail _ m2, d2, w2⟩) (hkP _ hc) ?_
    · rcases List.mem_cons.mp hp with rfl | hp
      · exact N' _ (.head _)
      · rcases List.mem_cons.mp hp with rfl | hp
        · exact N' _ (.tail _ (.tail _ hc))
        · exact N' _ (.tail _ hp)
    · intro q hq
      rcases List.mem_cons.mp hq with rfl | hq
      · exact l1 _ (.tail _ hc)
      · exact l1 _ hq
theorem lamB_eval {Q : Value → Shared → Prop} {el ec : Nat} (F : Fr h₀ L s.heap m) (N : News h₀ L s.heap (pre ++ (P, tabObj ps) :: post)) (T : Top p loose mean mg mb h₀) (C : CodeHd h₀ c P) (hcd : ccd = .ref c) (hkP : ∀ p ∈ pre ++ post, p.1 ≠ P)
    (hTT : ∀ p ∈ TT, p ∈ pre ++ post) (ht : S3 ((cn ++ ".<locals>." ++ "<lambda>" : Str)) ps TT) (hdef : defaultsOf params (envX cn cs L a ccd cl) = ([], []))
    (hcl : closureFor scope (envX cn cs L a ccd cl) = pure clos)
    (h : ∀ f c' oc vs t ctv ps' h' tk, Fr h₀ L h' m →
      News h₀ L h' ((f, kla_obj "<lambda>" (cn ++ ".<locals>." ++ "<lambda>" : Str) params body scope clos ((mg "__name__").getD .none) c' ctv) :: (c', oc) :: (P, tabObj ps') :: (pre ++ post)) →
      oc.data = .fields vs → vs[1]? = some (.str (cn ++ ".<locals>." ++ "<lambda>" : Str) t) → S6 (cn ++ ".<locals>." ++ "<lambda>" : Str) ps' ((c', oc) :: TT) → @Ne Nat c' P → (∀ q ∈ (c', oc) :: (P, tabObj ps') :: (pre ++ post), q.1 < f) → Q (.ref f) { s with heap := h', toks := tk }) :
    wpAny M A (eval (.Lambda params body scope ⟨278, 0, el, ec⟩) (envX cn cs L a ccd cl)) Q E s := by
  refine kla_eval hdef ?_
  have hmP := N (P, tabObj ps) (List.mem_append_right _ (.head _))
  have Nk : News h₀ L s.heap (pre ++ post) := fun p hp => N p ((List.mem_append.mp hp).elim (fun h => List.mem_append_left _ h) fun h => List.mem_append_right _ (.tail _ h))
  have N2 : News h₀ L s.heap ((P, tabObj ps) :: (pre ++ post)) := fun p hp => (List.mem_cons.mp hp).elim (fun e => e ▸ hmP) fun hp => Nk p hp
  rcases ht with ⟨c1, o1, v1, t1, rfl, m1, d1, w1⟩ | ⟨c1, o1, v1, t1, c2, o2, v2, t2, rfl, m1, d1, w1, m2, d2, w2⟩
  · refine kla_nest (ps := #[rawInt 277, rawInt 0, .ref c1]) (g := fun o => (P, o) :: (pre ++ post)) F N2 T C hcd ?_ (by simp [TriplesOk, rawInt]) (by simp [codeAmong, rawInt]) hcl ?_
    · exact .head hkP
    · intro f c' oc vs t ctv h' tk F' N' hd hv l1 l2
      have hcP : P < c' := l1 _ (.head _)
      refine h f c' oc vs t ctv _ h' tk F' N' hd hv ⟨c1, o1, v1, t1, c', oc, vs, t, rfl, .tail _ m1, d1, w1, .head _, hd, hv⟩ (Nat.ne_of_gt hcP) ?_
      intro q hq
      rcases List.mem_cons.mp hq with rfl | hq
      · exact l2
      · rcases List.mem_cons.mp hq with rfl | hq
        · exact Nat.lt_trans hcP l2
        · exact Nat.lt_trans (l1 q (.tail _ hq)) l2
  · have hc := hTT _ m2
    refine kla_hit (c' := c2) F N2 T C hcd (.head _) (by simp [TriplesOk, rawInt]) (by simp [codeAmong, rawInt]) hcl ?_
    intro f ctv h' tk F' N' l1
    refine h f c2 o2 v2 t2 ctv _ h' tk F' (fun p hp => ?_) d2 w2 ⟨c1, o1, v1, t1, c2, o2, v2, t2, rfl, .tail _ m1, d1, w1, .head _, d2, w2⟩ (hkP _ hc) ?_
    · rcases List.mem_cons.mp hp with rfl | hp
      · exact N' _ (.head _)
      · rcases List.mem_cons.mp hp with rfl | hp
        · exact N' _ (.tail _ (.tail _ hc))
        · exact N' _ (.tail _ hp)
    · intro q hq
      rcases List.mem_cons.mp hq with rfl | hq
      · exact l1 _ (.tail _ hc)
      · exact l1 _ hq
end
theorem lamA_c (w : World) (f c' : Addr) (oc : Obj) (vs' : Array Value) (tq : Tok) (pm ctv : Value) (news : List (Addr × Obj))
    (hf : (f, kla_obj "<lambda>" rmQual ({ posonlyargs := [], args := [], vararg := none, kwonlyargs := [], kw_defaults := [], kwarg := none, defaults := [] } : Arguments) (PySem.Expr.Call (PySem.Expr.Name (Str.ofString "write_lines") ⟨277, 8, 277, 19⟩) [(PySem.Expr.Constant (PySem.Const.int 0) 0 ⟨277, 20, 277, 21⟩)] [] ⟨277, 8, 277, 22⟩) ({ kind := .function, names := [(Str.ofString "write_lines", .globalImplicit)], isGenerator := false, isCoroutine := false, more := [] } : Scope) [] pm c' ctv) ∈ news) (hoc : (c', oc) ∈ news) (ho1 : oc.data = .fields vs') (ho2 : vs'[1]? = some (.str rmQual tq)) :
    Cn w 12 f [] news (fun _ _ => False) (fun C => C = 44) := by
  refine Cn.ofL hf hoc ho1 ho2 rfl rfl rfl rfl (by decide) ?_
  intro cx S ok hcl hn' he hr t
  refine of_tr ok (re := .call (.ref 306) (.cons (.int 0) .nil)) (by kernel_rfl) ?_
  exact (write_lines_c w 0 _ news).tri ok rfl (fun v n' q t => absurd q.2.2.1 (by decide)) (fun C q => ⟨hn', he C (q.elim (fun h => h.1) fun h => absurd h.2 (by decide))⟩)
theorem lamB_c (w : World) (f c' co : Addr) (oc oco : Obj) (vs' : Array Value) (tq tp : Tok) (pm ctv : Value) (ns : List Int) (news : List (Addr × Obj)) (hin : KBa.In ns) (hl : ns.length < 10000) (hz : ¬ ((ns.length : Int) = 2 ∧ 0 < ns.getD 0 0 * 256 + ns.getD 1 0))
    (hf : (f, kla_obj "<lambda>" rmQual ({ posonlyargs := [], args := [], vararg := none, kwonlyargs := [], kw_defaults := [], kwarg := none, defaults := [] } : Arguments) (PySem.Expr.Call (PySem.Expr.Name (Str.ofString "read_lines") ⟨278, 8, 278, 18⟩) [(PySem.Expr.Name (Str.ofString "octets") ⟨278, 19, 278, 25⟩)] [] ⟨278, 8, 278, 26⟩) ({ kind := .function, names := [(Str.ofString "octets", .free), (Str.ofString "read_lines", .globalImplicit)], isGenerator := false, isCoroutine := false, more := [] } : Scope) [(Str.ofString "octets", co)] pm c' ctv) ∈ news) (hoc : (c', oc) ∈ news) (ho1 : oc.data = .fields vs') (ho2 : vs'[1]? = some (.str rmQual tq))
    (hc2 : (co, oco) ∈ news) (hv2 : oco.data = .cell (some (.bytes (byteArr ns) tp))) :
    Cn w 12 f [] news (fun _ _ => False) (fun C => C = 44) := by
  refine Cn.ofL hf hoc ho1 ho2 rfl rfl rfl rfl (by decide) ?_
  intro cx S ok hcl hn' he hr t
  refine of_tr ok (re := .call (.ref 299) (.cons (.raw (.Name (Str.ofString "octets") ⟨278, 19, 278, 25⟩)) .nil)) (by kernel_rfl) ?_
  refine free_t ok (a := co) (by rw [hcl]; rfl) hc2 hv2 rfl (by decide) (by decide) ?_
  exact (read_lines_c w tp ns news hin hl).tri ok rfl (fun v n' q t => absurd q.2.2 hz) (fun C q => ⟨hn', he C q.1⟩)
theorem heardA_c (w : World) (f c' : Addr) (oc : Obj) (vs' : Array Value) (tq : Tok) (pm ctv : Value) (news : List (Addr × Obj))
    (hf : (f, kla_obj "<lambda>" rmQual ({ posonlyargs := [], args := [], vararg := none, kwonlyargs := [], kw_defaults := [], kwarg := none, defaults := [] } : Arguments) (PySem.Expr.Call (PySem.Expr.Name (Str.ofString "write_lines") ⟨277, 8, 277, 19⟩) [(PySem.Expr.Constant (PySem.Const.int 0) 0 ⟨277, 20, 277, 21⟩)] [] ⟨277, 8, 277, 22⟩) ({ kind := .function, names := [(Str.ofString "write_lines", .globalImplicit)], isGenerator := false, isCoroutine := false, more := [] } : Scope) [] pm c' ctv) ∈ news) (hoc : (c', oc) ∈ news) (ho1 : oc.data = .fields vs') (ho2 : vs'[1]? = some (.str rmQual tq)) :
    CnT w 16 341 [.ref f] news (fun v n' => v = .none ∧ n' = news) := by
  refine CnT.mono (heard_c w 12 f _ _ _ _ news _ _ (fun C h => h) hf (lamA_c w f c' oc vs' tq pm ctv news hf hoc ho1 ho2)) ?_
  rintro v n' (h | ⟨hv, hn', _⟩)
  · exact h.elim
  · exact ⟨hv, hn'⟩
theorem heardB_c (w : World) (f c' co : Addr) (oc oco : Obj) (vs' : Array Value) (tq tp : Tok) (pm ctv : Value) (ns : List Int) (news : List (Addr × Obj)) (hin : KBa.In ns) (hl : ns.length < 10000) (hz : ¬ ((ns.length : Int) = 2 ∧ 0 < ns.getD 0 0 * 256 + ns.getD 1 0))
    (hf : (f, kla_obj "<lambda>" rmQual ({ posonlyargs := [], args := [], vararg := none, kwonlyargs := [], kw_defaults := [], kwarg := none, defaults := [] } : Arguments) (PySem.Expr.Call (PySem.Expr.Name (Str.ofString "read_lines") ⟨278, 8, 278, 18⟩) [(PySem.Expr.Name (Str.ofString "octets") ⟨278, 19, 278, 25⟩)] [] ⟨278, 8, 278, 26⟩) ({ kind := .function, names := [(Str.ofString "octets", .free), (Str.ofString "read_lines", .globalImplicit)], isGenerator := false, isCoroutine := false, more := [] } : Scope) [(Str.ofString "octets", co)] pm c' ctv) ∈ news) (hoc : (c', oc) ∈ news) (ho1 : oc.data = .fields vs') (ho2 : vs'[1]? = some (.str rmQual tq))
    (hc2 : (co, oco) ∈ news) (hv2 : oco.data = .cell (some (.bytes (byteArr ns) tp))) :
    CnT w 16 341 [.ref f] news (fun v n' => v = .none ∧ n' = news) := by
  refine CnT.mono (heard_c w 12 f _ _ _ _ news _ _ (fun C h => h) hf (lamB_c w f c' co oc oco vs' tq tp pm ctv ns news hin hl hz hf hoc ho1 ho2 hc2 hv2)) ?_
  rintro v n' (h | ⟨hv, hn', _⟩)
  · exact h.elim
  · exact ⟨hv, hn'⟩
section
variable {w : World} {cs : Scope} {c : Cx w cs} {D : Nat} {sl : Sl} {n : Led} {t : Nat}
theorem lamA_t {params : Arguments} {body : PySem.Expr} {scope : Scope} {el ec : Nat} {clos : List (Str × Addr)} {P cadr : Addr} {ps : Array Value} {TT post : Led} {qual : Str} {k : KV} (ok : c.Ok D) (hs : ∀ p ∈ (P, tabObj ps) :: post, p ∈ n) (hq : (c.cn ++ ".<locals>." ++ "<lambda>" : Str) = qual) (hcd : c.ccd = .ref cadr) (hC : codeHdIn (K w.params) cadr P = true) (hP : ∀ p ∈ post, p.1 ≠ P) (hTT : ∀ p ∈ TT, p ∈ post) (ht : S0 qual ps TT)
    (hdef : defaultsOf params c.env = ([], [])) (hcl : closureFor scope c.env = pure clos)
    (h : ∀ f c' oc vs tq ctv ps' pm t, oc.data = .fields vs → vs[1]? = some (.str qual tq) → S3 qual ps' ((c', oc) :: TT) → @Ne Nat c' P → (∀ q ∈ (c', oc) :: (P, tabObj ps') :: post, q.1 < f) → k (.ref f) sl ((f, kla_obj "<lambda>" qual params body scope clos pm c' ctv) :: (c', oc) :: (P, tabObj ps') :: post) t) : Tri c sl n t (eval (.Lambda params body scope ⟨277, 0, el, ec⟩) c.env) k := by
  subst hq
  intro hp hz1
  refine hide _ fun hidP hidH => ?_
  obtain ⟨b, W, F, N⟩ := hz1
  refine hidH ?_
  clear hidH
  exact lamA_eval (s := c.sh hp t) (pre := []) (TT := TT) F (fun p hq => N p (hs p hq)) (ok.T b W) (codeHd_of_K (ok.X b W) hC) hcd hP hTT ht hdef hcl fun f c' oc vs tq ctv ps' h' tk F' N' a1 a2 a3 a4 a5 => ⟨h', sl, _, tk, rfl, ⟨b, W, F', N'⟩, h f c' oc vs tq ctv ps' _ tk a1 a2 a3 a4 a5⟩
theorem lamB_t {params : Arguments} {body : PySem.Expr} {scope : Scope} {el ec : Nat} {clos : List (Str × Addr)} {P cadr : Addr} {ps : Array Value} {TT post : Led} {qual : Str} {k : KV} (ok : c.Ok D) (hs : ∀ p ∈ (P, tabObj ps) :: post, p ∈ n) (hq : (c.cn ++ ".<locals>." ++ "<lambda>" : Str) = qual) (hcd : c.ccd = .ref cadr) (hC : codeHdIn (K w.params) cadr P = true) (hP : ∀ p ∈ post, p.1 ≠ P) (hTT : ∀ p ∈ TT, p ∈ post) (ht : S3 qual ps TT)
    (hdef : defaultsOf params c.env = ([], [])) (hcl : closureFor scope c.env = pure clos)
    (h : ∀ f c' oc vs tq ctv ps' pm t, oc.data = .fields vs → vs[1]? = some (.str qual tq) → S6 qual ps' ((c', oc) :: TT) → @Ne Nat c' P → (∀ q ∈ (c', oc) :: (P, tabObj ps') :: post, q.1 < f) → k (.ref f) sl ((f, kla_obj "<lambda>" qual params body scope clos pm c' ctv) :: (c', oc) :: (P, tabObj ps') :: post) t) : Tri c sl n t (eval (.Lambda params body scope ⟨278, 0, el, ec⟩) c.env) k := by
  subst hq
  intro hp hz2
  refine hide _ fun hidP hidH => ?_
  obtain ⟨b, W, F, N⟩ := hz2
  refine hidH ?_
  clear hidH
  exact lamB_eval (s := c.sh hp t) (pre := []) (TT := TT) F (fun p hq => N p (hs p hq)) (ok.T b W) (codeHd_of_K (ok.X b W) hC) hcd hP hTT ht hdef hcl fun f c' oc vs tq ctv ps' h' tk F' N' a1 a2 a3 a4 a5 => ⟨h', sl, _, tk, rfl, ⟨b, W, F', N'⟩, h f c' oc vs tq ctv ps' _ tk a1 a2 a3 a4 a5⟩
/-- try: name = function(name); except CLASS -/
theorem try_call_t (ok : c.Ok D) (okT : c.OkT) {D0 : Nat} {f : Addr} {v0 : Value} {R : Value → Led → Prop} {X : Addr → Prop} (cn : Cn w D0 f [v0] n R X) (hD : Nat.ble D0 D = true) {C : Addr} (hX : ∀ C', X C' → C' = C) {fn x y x0 : Str} {yp p0 p1 np cp apos hpos pos : Pos} {i : Nat} {b₀ : Stmt} {suite : List Stmt} {kf : KF}
    (hv : tr cs 12 (.Call (.Name fn p1) [.Name x0 p0] [] cp) = .call (.ref f) (.cons (.loc i) .nil)) (hi : getAt sl i = some v0) (ex : nsIn (K w.params) mainGlobals x = some (some (.ref C))) (q : ktsIn (K w.params) C "BaseException" = true) (hx : globIn cs x = true)
    (hR : ∀ v n' t, R v n' → AsgC c y v n' fun n'' => kf .next sl n'' t)
    (hB : ∀ e b' h' t', X C → c.turn b' → Fr b' c.L h' (menuOf cs.names sl) → News b' c.L h' n → wpAny (MM w) (c.A.mark (some (.ref e))) (execs (b₀ :: suite) c.env) (Post c kf) c.E (c.sh h' t')) :
    Tri c sl n t (exec (.Try [.Assign [.Name y yp] (.Call (.Name fn p1) [.Name x0 p0] [] cp) apos] [.ExceptHandler (some (.Name x np)) none (b₀ :: suite) hpos] [] [] pos) c.env) kf := by
  intro hp hz3
  refine hide _ fun hidP hidH => ?_
  obtain ⟨b, W, F, N⟩ := hz3
  refine hidH ?_
  clear hidH
  refine wpAny_Try_except ?_
  generalize hE : (fun (e : Value) (s₁ : Shared) => wpAny (MM w) c.A (noteFrame e c.env) (fun _ s₂ => wpAny (MM w) c.A (setFlight e none) (fun _ s₃ => wpAny (MM w) c.A (handleBy e c.env [.ExceptHandler (some (.Name x np)) none (b₀ :: suite) hpos]) (Post c kf) c.E s₃) c.E s₂) c.E s₁) = E'
  let c' : Cx w cs := { c with E := E', ke := fun _ => False }
  have ok' : c'.Ok D := ⟨ok.B, ok.X, ok.T, ok.hk, ok.hd, ok.hu, ok.fl, fun v s h => (er_no (fun _ h => h) h).elim, by show PassesOwn (MM w) c.A c.env E'; rw [← hE]; exact PassesOwn.looking⟩
  obtain ⟨a1, a2, a3⟩ := globIn_of (cn := c.cn) (L := c.L) (a := c.a) (ccd := c.ccd) (cl := c.cl) hx
  have key : Tri c' sl n t (execs [.Assign [.Name y yp] (.Call (.Name fn p1) [.Name x0 p0] [] cp) apos] c'.env) fun fl sl n t => fl = .next ∧ kf .next sl n t := by
    refine Tri.cons_ (asgc_t ok' hv rfl ?_)
    show vcE c' (.loc i) sl n t fun v sl n t => Tri c' sl n t (call (.ref f) [v]) _
    show match getAt sl i with | some v => Tri c' sl n t (call (.ref f) [v]) _ | none => False
    rw [hi]
    intro h hz4
    refine hide _ fun hidP hidH => ?_
    obtain ⟨b, W, F, N⟩ := hz4
    refine hidH ?_
    clear hidH
    have hd := ok.hd
    have hu := ok.hu
    have hD := Nat.le_of_ble_eq_true hD
    refine cn c.loose c.mean c.mg c.mb c.dp c.un c.gd c.cn cs c.a c.ccd c.cl c.outer c.A₀ c.base b c.L _ (c.sh h t) _ _ (ok.B b W) F (ok.X b W) N (ok.T b W) ok.hk (by omega) (by omega) (fun v n' h' tk' r F' N' => ⟨h', sl, n', tk', rfl, ⟨b, W, F', N'⟩, ?_⟩) (fun C' e t vs' h' tk' g₂ x' F' R' U' => ?_) ok.fl
    · refine hide _ fun hidP hidH => ?_
      obtain ⟨n₀, a, o, g, v₀, r1, r2, r3, r4, r5, r6⟩ := hR v n' tk' r
      refine hidH ?_
      clear hidH
      exact ⟨n₀, a, o, g, v₀, r1, r2, r3, r4, r5, fun o' e => fun hp H => wpAny_execs_nil ⟨hp, _, _, _, rfl, H, rfl, r6 o' e⟩⟩
    · obtain rfl := hX C' x'
      show E' _ _
      rw [← hE]
      have h := caught_C (s' := c.sh h' tk') (pos := hpos) (rest := []) (np := np) (E := c.E) (Q := Post c kf) R' F' (ok.B b W) U' okT.XB okT.TB (okT.D b W) .refl ex q (b₀ := b₀) (suite := suite) (fun h2 g' T2 F2 N2 B2 X2 T3 D2 => by rw [← okT.A]; exact hB e g' h2 tk' x' (okT.step b g' W T2 B2 X2 T3 D2) F2 N2) a3 a1 a2 (by rw [← okT.A]; exact okT.ownM e)
      rw [← okT.A] at h
      exact h
  have := key hp ⟨b, W, F, N⟩
  refine wpAny_mono this ?_ fun _ _ e => e
  intro fl s hz5
  refine hide _ fun hidP hidH => ?_
  obtain ⟨h', sl', n', t', rfl, H', rfl, hk⟩ := hz5
  refine hidH ?_
  clear hidH
  obtain ⟨b, x, y, z⟩ := H'
  exact wpAny_execs_nil ⟨h', sl', n', t', rfl, ⟨b, x, y, z⟩, hk⟩
end
theorem rims_no {w : World} {A : Around} {env : Env} {Q : Flow → Shared → Prop} {E : Value → Shared → Prop} {s : Shared} {n : Int} {tn : Tok} {x : Str} {p1 p2 p3 p4 p5 p6 : Pos} {m1 m2 : Nat} (hn : ¬ (0 ≤ n ∧ n ≤ 65535)) (hx : ∀ {Q' : Value → Shared → Prop} t, Q' (.int n tn) { s with toks := t } → wpAny (MM w) A (eval (.Name x p2) env) Q' E { s with toks := t }) (h : ∀ t, Q (.ret (.bool true)) { s with toks := t }) :
    wpAny (MM w) A (execs [.Return (some (.UnaryOp .Not (.Compare (.Constant (.int 0) m1 p1) [.LtE, .Lt] [.Name x p2, .Constant (.int 65536) m2 p3] p4) p5)) p6] env) Q E s := by
  refine wpAny_execs_cons (wpAny_Return_some (wpAny_UnaryOp (Compare_chain (wpAny_Constant_int (chain_link (hx _ (le_int (wpAny_truthy_bool ?_))))) rfl)))
  have fin : ∀ (b : Bool) (t : Nat), b = false → wpAny (MM w) A (unaryOp .Not (.bool b)) (fun v s' => Q (.ret v) s') E { s with toks := t } := fun b t e => by
    subst e; exact not_value (wpAny_truthy_bool (h t))
  by_cases h0 : 0 ≤ n
  · rw [if_pos (decide_eq_true h0)]
    exact chain_last (wpAny_Constant_int (lt_int (fin _ _ (decide_eq_false fun h1 => hn ⟨h0, Int.lt_add_one_iff.mp h1⟩))))
  · rw [if_neg (by simpa using h0)]
    exact fin _ _ (decide_eq_false h0)
theorem rm_done {n post news : Led} {ps' : Array Value} {S : Value → Led → Prop} (hr : ∀ v n, (v = .bool true ∧ ∃ ps' news', n = (403, tabObj ps') :: news' ∧ (∀ p ∈ news', p.1 ≠ 403) ∧ S0 rmQual ps' news' ∧ ∀ p ∈ news, p ∈ news') → S v n) (hn : ∀ p ∈ (403, tabObj ps') :: post, p ∈ n) (ht : S0 rmQual ps' post) (ho : ∀ p ∈ post, p.1 ≠ 403) (hs : ∀ p ∈ news, p ∈ post) :
    ∃ n', (∀ p ∈ n', p ∈ n) ∧ S (.bool true) n' := ⟨_, hn, hr _ _ ⟨rfl, ps', post, rfl, ho, ht, hs⟩⟩
theorem rims_right_c (w : World) (n : Int) (tn : Tok) (ps : Array Value) (news : Led) (hoff : ∀ p ∈ news, p.1 ≠ 403) (ht : S0 rmQual ps news) :
    CnT w 40 408 [.int n tn] ((403, tabObj ps) :: news) (fun v n' => v = .bool true ∧ ∃ ps' news', n' = (403, tabObj ps') :: news' ∧ (∀ p ∈ news', p.1 ≠ 403) ∧ S0 rmQual ps' news' ∧ ∀ p ∈ news, p ∈ news') := by
  have hfill := fill_ w
  revert hfill
  k_fill
  intro _
  refine' CnT.of1 (x := Str.ofString "number") (sl₀ := [some (.int n tn)]) ?hf ?hc ?hb ?hs ?c2 ?c3 ?c4 ?hnd ?_
  case hf => k_is
  case hc => k_is
  case hb => exact fun s => BindsTo.of_eq rfl
  case hs => exact .inl ⟨rfl, 0, 1, by kernel_rfl, rfl⟩
  case c2 => exact rfl
  case c3 => exact rfl
  case c4 => exact rfl
  case hnd => decide +kernel
  intro cx S cells ok okT hcn hcd hcl Y hlt hr t
  obtain ⟨oA, rfl, hoA⟩ := CellsAre.one Y
  have hco : cx.cl.lookup (Str.ofString "octets") = some (cx.L + 1) := by rw [hcl]; rfl
  have a403 : @Ne Nat 403 (cx.L + 1) := lt_add 1 (hlt _ (.head _))
  have oc : ∀ p ∈ news, p.1 ≠ cx.L + 1 := fun p hp => lt_add 1 (hlt _ (.tail _ hp))
  refine vc_go (f := 40) (rs := rs__law_rims_right) ok (by kernel_rfl) (by kernel_rfl) ?_
  refine try_call_t ok okT (write_interval_c w n tn _) rfl (C := 68) (fun C' h => h.1) (i := 0) (by kernel_rfl) rfl (by kernel_rfl) (by kernel_rfl) (by kernel_rfl) ?_ ?_
  rotate_left
  · intro e b' h' t' hx W F N
    refine rims_no (s := cx.sh h' t') hx.2 (fun t hq => nameX_L (s := cx.sh h' t) F rfl hq ok.hk rfl (by decide)) fun t => ⟨h', _, _, t, rfl, ⟨b', W, F, N⟩, ?_⟩
    exact rm_done hr (fun p hp => .tail _ hp) ht hoff sub_id
  intro v n' t hz1
  refine hide _ fun hidP hidH => ?_
  obtain ⟨⟨tv, rfl⟩, rfl, hb⟩ := hz1
  refine hidH ?_
  clear hidH
  refine AsgC.head (r := (403, tabObj ps) :: news) sub_id hco rfl hoA (off_cons a403 oc) fun oB hB => ?_
  have hin : KBa.In [n / 256, n % 256] := in_cons (by omega) (in_cons (by omega) in_nil)
  have eg : n / 256 * 256 + n % 256 = n := by omega
  have i2 : ∀ {u v : Int} {t1 t2 : Tok}, IntsAre [.int u t1, .int v t2] [u, v] := fun {u v t1 t2} => .cons _ _ (.cons _ _ .nil)
  refine cell_t ok hco (.head _) hB rfl (by decide) (div_t (by decide) fun tv2 t => mod_t (by decide) fun tv3 t => ⟨Nat.le_of_ble_eq_true rfl, fun l1 h1 => ?_⟩)
  refine bytes_t (ns := [n / 256, n % 256]) (.head _) i2 hin (Nat.le_of_ble_eq_true rfl) fun tv4 t => neB_t hin hin ⟨fun e => absurd rfl (of_decide_eq_true e), fun _ => ?_⟩
  refine cell_t ok hco (.tail _ (.head _)) hB rfl (by decide) ?_
  refine (read_interval_c w tv [n / 256, n % 256] _ hin (show 2 < 10000 by decide)).tri ok rfl ?_ fun C z => absurd rfl z.2
  intro v n' hz2 t
  refine hide _ fun hidP hidH => ?_
  obtain ⟨⟨tv5, rfl⟩, en, _⟩ := hz2
  refine hidH ?_
  clear hidH
  subst en
  refine ⟨fun e => absurd eg (ne_no e), fun _ t => ⟨fun e0 => ?_, fun e0 => ?_⟩⟩
  · have e0 := eq_of_beq e0
    refine lamA_t ok (qual := rmQual) (P := 403) (ps := ps) (TT := news) (post := (cx.L + 1, oB) :: news) (clos := []) (sub_cons (.tail _ (.tail _ (.head _))) (sub_cons (.tail _ (.head _)) fun p hp => .tail _ (.tail _ (.tail _ hp)))) (by rw [hcn]) hcd (by kernel_rfl) (off_cons (Ne.symm a403) hoff) (fun p hp => .tail _ hp) ht rfl rfl ?_
    intro f c' oc' vs' tq ctv ps' pm t a1 a2 a3 a4 _
    refine CnT.tri (heardA_c w f c' oc' vs' tq pm ctv _ (.head _) (.tail _ (.head _)) a1 a2) ok okT rfl ?_
    rintro v n' ⟨rfl, en⟩ t
    subst en
    refine is_none_t ⟨fun _ => ?_, no_⟩
    refine lamB_t ok (qual := rmQual) (P := 403) (ps := ps') (TT := (c', oc') :: news) (post := (c', oc') :: (cx.L + 1, oB) :: news) (clos := [(Str.ofString "octets", cx.L + 1)]) (sub_cons (.tail _ (.tail _ (.head _))) (sub_cons (.tail _ (.head _)) fun p hp => .tail _ (.tail _ (.tail _ hp)))) (by rw [hcn]) hcd (by kernel_rfl) (off_cons a4 (off_cons (Ne.symm a403) hoff)) (sub_cons (.head _) fun p hp => .tail _ (.tail _ hp)) a3 rfl (by show closureFor _ (envX _ _ _ _ _ cx.cl) = _; rw [hcl]; rfl) ?_
    intro f2 c2 oc2 vs2 tq2 ctv2 ps2 pm2 t b1 b2 b3 b4 _
    refine CnT.tri (heardB_c w f2 c2 (cx.L + 1) oc2 oB vs2 tq2 tv pm2 ctv2 [n / 256, n % 256] _ hin (show 2 < 10000 by decide) (fun h => absurd (eg ▸ h.2 : 0 < n) (by rw [e0]; decide)) (.head _) (.tail _ (.head _)) b1 b2 (.tail _ (.tail _ (.tail _ (.tail _ (.head _))))) hB) ok okT rfl ?_
    rintro v n' ⟨rfl, en⟩ t
    subst en
    refine is_none_t (rm_done hr (ps' := ps2) (post := (c2, oc2) :: (c', oc') :: news) (sub_cons (.tail _ (.tail _ (.head _))) (sub_cons (.tail _ (.head _)) (sub_cons (.tail _ (.tail _ (.tail _ (.head _)))) fun p hp => .tail _ (.tail _ (.tail _ (.tail _ (.tail _ hp))))))) (.inr b3) (off_cons b4 (off_cons a4 hoff)) fun p hp => .tail _ (.tail _ hp))
  · have e0 : ¬ n = 0 := by simpa using e0
    refine (write_lines_c w n tn _).tri ok rfl ?_ fun C z => absurd z (by omega)
    intro v n' hz3 t
    refine hide _ fun hidP hidH => ?_
    obtain ⟨⟨tv6, rfl⟩, en, hb6⟩ := hz3
    refine hidH ?_
    clear hidH
    subst en
    refine cell_t ok hco (.tail _ (.head _)) hB rfl (by decide) (eqB_t hin hin ⟨fun _ => ?_, fun e => absurd rfl (of_decide_eq_false e)⟩)
    refine cell_t ok hco (.tail _ (.head _)) hB rfl (by decide) ?_
    refine (read_lines_c w tv [n / 256, n % 256] _ hin (show 2 < 10000 by decide)).tri ok rfl ?_ fun C z => absurd ⟨rfl, (eg.symm ▸ hb6.1 : 0 < n / 256 * 256 + n % 256)⟩ z.2
    intro v n' hz4 t
    refine hide _ fun hidP hidH => ?_
    obtain ⟨⟨tv7, rfl⟩, en, _⟩ := hz4
    refine hidH ?_
    clear hidH
    subst en
    have e7 : (n / 256 * 256 + n % 256 == n) = true := beq_iff_eq.mpr eg
    show ∃ n', _ ∧ S (.bool (n / 256 * 256 + n % 256 == n)) n'
    rw [e7]
    exact rm_done hr (fun p hp => .tail _ (.tail _ hp)) ht hoff sub_id
noncomputable def Uq (n : Led) : Prop := ∀ a o o', (a, o) ∈ n → (a, o') ∈ n → o = o'
theorem Uq.ne {n : Led} (U : Uq n) {a b : Addr} {o o' : Obj} (h : (a, o) ∈ n) (h' : (b, o') ∈ n) (hne : o ≠ o') : a ≠ b := fun e => hne (U _ _ _ h (e ▸ h'))
/-- an object that is no code -/
noncomputable def NoCode (o : Obj) : Prop := ∀ vs x t, o.data = .fields vs → vs[1]? ≠ some (.str x t)
noncomputable def clean (a : Addr) (n : Led) : Led := n.filter fun p => p.1 != a
theorem clean_mem {a : Addr} {n : Led} {p : Addr × Obj} (h : p ∈ n) (h2 : p.1 ≠ a) : p ∈ clean a n := List.mem_filter.mpr ⟨h, by simpa using h2⟩
theorem clean_num {a b : Addr} {o : Obj} {n : Led} (h : (b, o) ∈ n) (h2 : Nat.beq b a = false) : (b, o) ∈ clean a n := clean_mem h (Nat.ne_of_beq_eq_false h2)
theorem clean_off {a : Addr} {n : Led} : ∀ p ∈ clean a n, p.1 ≠ a := fun p h => by simpa using (List.mem_filter.mp h).2
theorem clean_sub {a : Addr} {n : Led} : ∀ p ∈ clean a n, p ∈ n := fun p h => (List.mem_filter.mp h).1
section
variable {n : Led} {a : Addr} {o : Obj}
theorem code_clean (U : Uq n) (ha : (a, o) ∈ n) (ho : NoCode o) {c : Addr} {oc : Obj} {vs : Array Value} {x : Str} {t : Tok} (hc : (c, oc) ∈ n) (hd : oc.data = .fields vs) (hv : vs[1]? = some (.str x t)) : (c, oc) ∈ clean a n :=
  clean_mem hc (U.ne hc ha fun e => ho _ _ _ (e ▸ hd) hv)
theorem Tab.clean (U : Uq n) (ha : (a, o) ∈ n) (ho : NoCode o) {l c : Nat} {q : Str} {ps : Array Value} (T : Tab l c q ps n) : Tab l c q ps (Mine.clean a n) := by
  rcases T with h | ⟨c', oc, vs, t, e, b, d, f⟩
  · exact .inl h
  · exact .inr ⟨c', oc, vs, t, e, code_clean U ha ho b d f, d, f⟩
theorem S0.clean (U : Uq n) (ha : (a, o) ∈ n) (ho : NoCode o) {q : Str} {ps : Array Value} (T : S0 q ps n) : S0 q ps (Mine.clean a n) := by
  rcases T with h | ⟨c1, o1, v1, t1, c2, o2, v2, t2, e, b, d, f, g, i, j⟩
  · exact .inl h
  · exact .inr ⟨c1, o1, v1, t1, c2, o2, v2, t2, e, code_clean U ha ho b d f, d, f, code_clean U ha ho g i j, i, j⟩
end
theorem Tab.no {l c : Nat} {q : Str} {ps : Array Value} {n : Led} (T : Tab l c q ps n) : NoCode (tabObj ps) := by
  rintro vs x t e
  cases e
  rcases T with rfl | ⟨c', oc, vs, t, rfl, _⟩
  · exact fun h => nomatch h
  · exact fun h => nomatch h
theorem S0.no {q : Str} {ps : Array Value} {n : Led} (T : S0 q ps n) : NoCode (tabObj ps) := by
  rintro vs x t e
  cases e
  rcases T with rfl | ⟨c1, o1, v1, t1, c2, o2, v2, t2, rfl, _⟩
  · exact fun h => nomatch h
  · exact fun h => nomatch h
/-- the law's ledger: the four tables, the codes that they name -/
structure LS4 (n : Led) (p0 p1 p2 p3 : Array Value) : Prop where
  m0 : (374, tabObj p0) ∈ n
  m1 : (379, tabObj p1) ∈ n
  m2 : (396, tabObj p2) ∈ n
  m3 : (403, tabObj p3) ∈ n
  a : Tab 226 22 frQual p0 n
  b : Tab 241 22 ocQual p1 n
  c : Tab 259 22 scQual p2 n
  d : S0 rmQual p3 n
noncomputable def LS (n : Led) : Prop := ∃ p0 p1 p2 p3, LS4 n p0 p1 p2 p3
theorem LS.mono {n n' : Led} (h : LS n) (hs : ∀ p ∈ n, p ∈ n') : LS n' := by
  refine hide _ fun hidP hidH => ?_
  obtain ⟨p0, p1, p2, p3, H⟩ := h
  refine hidH ?_
  clear hidH
  exact ⟨p0, p1, p2, p3, hs _ H.m0, hs _ H.m1, hs _ H.m2, hs _ H.m3, H.a.mono hs, H.b.mono hs, H.c.mono hs, H.d.mono hs⟩
theorem tab_ne {n : Led} (U : Uq n) {a b : Addr} {o : Obj} {ps : Array Value} (ha : (a, o) ∈ n) (hc : o.cls ≠ .none) (hb : (b, tabObj ps) ∈ n) : a ≠ b := U.ne ha hb fun e => hc (e ▸ rfl)
theorem LS.clean {n : Led} {a : Addr} {o : Obj} (h : LS n) (U : Uq n) (ha : (a, o) ∈ n) (ho : NoCode o) (hc : o.cls ≠ .none) : LS (Mine.clean a n) := by
  refine hide _ fun hidP hidH => ?_
  obtain ⟨p0, p1, p2, p3, H⟩ := h
  refine hidH ?_
  clear hidH
  exact ⟨p0, p1, p2, p3, clean_mem H.m0 (Ne.symm (tab_ne U ha hc H.m0)), clean_mem H.m1 (Ne.symm (tab_ne U ha hc H.m1)), clean_mem H.m2 (Ne.symm (tab_ne U ha hc H.m2)), clean_mem H.m3 (Ne.symm (tab_ne U ha hc H.m3)), H.a.clean U ha ho, H.b.clean U ha ho, H.c.clean U ha ho, H.d.clean U ha ho⟩
theorem noCode_seq {o : Obj} (h : ∀ vs, o.data ≠ .fields vs) : NoCode o := fun _ _ _ e => absurd e (h _)
/-- what stays -/
noncomputable def Stay (n n' : Led) : Prop := ∀ q ∈ n, q.2.cls ≠ .none → q ∈ n'
noncomputable def StayB (wl : Addr) (n n' : Led) : Prop := ∀ q ∈ n, q.1 ≠ wl → q.2.cls ≠ .none → q ∈ n'
theorem RowsAt.stay {n n' : Led} {vs : List Value} {ks : List (Int × Int × Int × Int)} (h : RowsAt n vs ks) (hs : Stay n n') : RowsAt n' vs ks := by
  refine ⟨h.1, fun i v c a b => ?_⟩
  refine hide _ fun hidP hidH => ?_
  obtain ⟨r, t1, t2, t3, t4, e, hm⟩ := h.2 i v c a b
  refine hidH ?_
  clear hidH
  exact ⟨r, t1, t2, t3, t4, e, hs _ hm (fun z => nomatch z)⟩
theorem FrameRow.stay {n n' : Led} {v : Value} {c p hh ww : Int} {ks : List (Int × Int × Int × Int)} (h : FrameRow n v c p hh ww ks) (hs : Stay n n') : FrameRow n' v c p hh ww ks := by
  refine hide _ fun hidP hidH => ?_
  obtain ⟨x, l, tc, tp, th, tw, nn, vs, e, a, b, r⟩ := h
  refine hidH ?_
  clear hidH
  exact ⟨x, l, tc, tp, th, tw, nn, vs, e, hs _ a (fun z => nomatch z), hs _ b (fun z => nomatch z), r.stay hs⟩
theorem IntsL.stay {n n' : Led} {l : Addr} {ns : List Int} (h : IntsL n l ns) (hs : Stay n n') : IntsL n' l ns := by
  refine hide _ fun hidP hidH => ?_
  obtain ⟨vs, m, a, b⟩ := h
  refine hidH ?_
  clear hidH
  exact ⟨vs, m, hs _ a (fun z => nomatch z), b⟩
theorem ScanRow.stay {n n' : Led} {v : Value} {I D A : List Int} {st en hi lo : Int} (h : ScanRow n v I D A st en hi lo) (hs : Stay n n') : ScanRow n' v I D A st en hi lo := by
  refine hide _ fun hidP hidH => ?_
  obtain ⟨x, li, ld, la, t1, t2, t3, t4, e, a, b, c, d⟩ := h
  refine hidH ?_
  clear hidH
  exact ⟨x, li, ld, la, t1, t2, t3, t4, e, hs _ a (fun z => nomatch z), b.stay hs, c.stay hs, d.stay hs⟩
noncomputable def HasWell (n : Led) (wl : Addr) : Prop := ∃ a b ta tb, (wl, listOf #[.int a ta, .int b tb] 0) ∈ n
section
variable {w : World} {cs : Scope} {c : Cx w cs} {D : Nat} {sl : Sl} {n : Led} {t : Nat}
theorem Tri.uq {α : Type} {x : Sem α} {k : α → Sl → Led → Nat → Prop} (h : Uq n → Tri c sl n t x fun v sl n t => Uq n → k v sl n t) : Tri c sl n t x k := by
  have uq : ∀ {n h}, At c sl n h → Uq n := fun ⟨b, W, F, N⟩ a o o' h1 h2 => Option.some.inj ((N _ h1).1.symm.trans (N _ h2).1)
  have uq2 : ∀ {sl n h}, At c sl n h → Uq n := fun ⟨b, W, F, N⟩ a o o' h1 h2 => Option.some.inj ((N _ h1).1.symm.trans (N _ h2).1)
  intro hp H
  exact (h (uq H)).seq (fun v sl' n' t' hk h' H' => ⟨h', sl', n', t', rfl, H', hk (uq2 H')⟩) H
/-- the frame of the top -/
structure Cx.OkO (c : Cx w cs) : Prop where
  o : c.outer = []
  XB : (K w.params).In c.base
  TB : Top topProg c.loose c.mean c.mg c.mb c.base
theorem turn_keep {h₀ h₀' : Heap} (t : KtsTurn (frs []) h₀ h₀') : ∀ b o, h₀.get? b = some o → h₀'.get? b = some o := fun b o e => t.other b o e (fun z => nomatch z)
theorem turn_fr {h₀ h₀' h : Heap} {L : Addr} {m : Str → Option Value} (t : KtsTurn (frs []) h₀ h₀') (F : Fr h₀' L h m) : Fr h₀ L h m :=
  ⟨F.ns, fun b o e => F.keep b o (turn_keep t b o e), by have := F.above; rw [t.size] at this; exact this⟩
theorem turn_news {h₀ h₀' h : Heap} {L : Addr} {n : Led} (t : KtsTurn (frs []) h₀ h₀') (N : News h₀' L h n) : News h₀ L h n := fun p hp => ⟨(N p hp).1, (N p hp).2.1, by
  cases q : h₀.get? p.1 with
  | none => rfl
  | some o => have := turn_keep t _ _ q; rw [(N p hp).2.2] at this; cases this⟩
theorem CnT.tri0 {D D' : Nat} {f : Addr} {vs : List Value} {R : Value → Led → Prop} (cn : CnT w D f vs n R) (ok : c.Ok D') (oT : c.OkO) (hD : Nat.ble D D' = true) {k : KV} (hR : ∀ v n', R v n' → ∀ t, k v sl n' t) : Tri c sl n t (call (.ref f) vs) k := by
  have hD := Nat.le_of_ble_eq_true hD
  intro h hz1
  refine hide _ fun hidP hidH => ?_
  obtain ⟨b, W, F, N⟩ := hz1
  refine hidH ?_
  clear hidH
  exact cn c.loose c.mean c.mg c.mb c.dp c.un c.gd c.cn cs c.a c.ccd c.cl c.outer c.A₀ c.base b c.L _ _ _ _ (ok.B b W) F (ok.X b W) N (ok.T b W) oT.XB oT.TB (by rw [oT.o]; exact fun b hb => nomatch hb) ok.hk (Nat.lt_of_le_of_lt (Nat.add_le_add_left hD _) ok.hd) (Nat.lt_of_le_of_lt (Nat.add_le_add_left (Nat.mul_le_mul_left 8 hD) _) ok.hu)
    (fun v n' h' tk' b' r T F' N' _ _ _ _ => ⟨h', sl, n', tk', rfl, ⟨b, W, turn_fr (oT.o ▸ T) F', turn_news (oT.o ▸ T) N'⟩, hR v n' r tk'⟩) ok.fl
theorem stay_clean {n : Led} (U : Uq n) {b : Addr} {ps : Array Value} (hb : (b, tabObj ps) ∈ n) : Stay n (Mine.clean b n) := fun _ hq hc => clean_mem hq (tab_ne U hq hc hb)
theorem sub_clean {n : Led} {a : Addr} {o : Obj} (ha : (a, o) ∈ n) : ∀ p ∈ (a, o) :: Mine.clean a n, p ∈ n := sub_cons ha clean_sub
theorem st_frame (ok : c.Ok D) (oT : c.OkO) (hD : Nat.ble 40 D = true) (H : LS n) {v : Value} {a p hh ww : Int} {ks : List (Int × Int × Int × Int)} {k : KV} (hr : FrameRow n v a p hh ww ks) (hn1 : 1 ≤ ks.length) (hn2 : ks.length < 100)
    (ret : ∀ n' t, Uq n' → LS n' → Stay n n' → k (.bool true) sl n' t) : Tri c sl n t (call (.ref 377) [v]) k := by
  refine hide _ fun hidP hidH => ?_
  obtain ⟨p0, p1, p2, p3, H⟩ := H
  refine hidH ?_
  clear hidH
  refine Tri.uq fun U => ?_
  have s1 := stay_clean U H.m0
  refine hide _ fun hidP hidH => ?_
  obtain ⟨x, l, tc, tp, th, tw, nn, vs, rfl, hx, hl, hR⟩ := hr.stay s1
  refine hidH ?_
  clear hidH
  refine Tri.drop (sub_clean H.m0) (CnT.tri0 (frame_right_c w x l tc tp th tw nn vs a p hh ww ks p0 _ hx hl hR hn1 hn2 clean_off (H.a.clean U H.m0 H.a.no)) ok oT hD ?_)
  intro hz2 hz3 hz4 t U'
  refine hide _ fun hidP hidH => ?_
  obtain ⟨rfl, ps', news', rfl, _, ht, hs⟩ := hz4
  refine hidH ?_
  clear hidH
  have up : ∀ q ∈ Mine.clean 374 n, q ∈ (374, tabObj ps') :: news' := fun q hq => .tail _ (hs q hq)
  exact ret _ t U' ⟨ps', p1, p2, p3, .head _, up _ (clean_num H.m1 rfl), up _ (clean_num H.m2 rfl), up _ (clean_num H.m3 rfl), ht.mono fun q hq => .tail _ hq, (H.b.clean U H.m0 H.a.no).mono up, (H.c.clean U H.m0 H.a.no).mono up, (H.d.clean U H.m0 H.a.no).mono up⟩ fun q hq hc => up _ (s1 q hq hc)
theorem st_scan (ok : c.Ok D) (oT : c.OkO) (hD : Nat.ble 44 D = true) (H : LS n) {v : Value} {I B A : List Int} {st en hi lo : Int} {k : KV} (hr : ScanRow n v I B A st en hi lo) (b1 : 1 ≤ I.length) (bI : I.length < 100) (bD : B.length < 100) (bA : A.length < 100)
    (ret : ∀ n' t, Uq n' → LS n' → Stay n n' → k (.bool true) sl n' t) : Tri c sl n t (call (.ref 401) [v]) k := by
  refine hide _ fun hidP hidH => ?_
  obtain ⟨p0, p1, p2, p3, H⟩ := H
  refine hidH ?_
  clear hidH
  refine Tri.uq fun U => ?_
  have s1 := stay_clean U H.m2
  have hr' := hr.stay s1
  refine hide _ fun hidP hidH => ?_
  obtain ⟨x, _, _, _, _, _, _, _, rfl, _⟩ := hr
  refine hidH ?_
  clear hidH
  refine Tri.drop (sub_clean H.m2) (CnT.tri0 (scan_right_c w x I B A st en hi lo p2 _ hr' b1 bI bD bA clean_off (H.c.clean U H.m2 H.c.no)) ok oT hD ?_)
  intro hz5 hz6 hz7 t U'
  refine hide _ fun hidP hidH => ?_
  obtain ⟨rfl, ps', news', rfl, _, ht, hs⟩ := hz7
  refine hidH ?_
  clear hidH
  have up : ∀ q ∈ Mine.clean 396 n, q ∈ (396, tabObj ps') :: news' := fun q hq => .tail _ (hs q hq)
  exact ret _ t U' ⟨p0, p1, ps', p3, up _ (clean_num H.m0 rfl), up _ (clean_num H.m1 rfl), .head _, up _ (clean_num H.m3 rfl), (H.a.clean U H.m2 H.c.no).mono up, (H.b.clean U H.m2 H.c.no).mono up, ht.mono fun q hq => .tail _ hq, (H.d.clean U H.m2 H.c.no).mono up⟩ fun q hq hc => up _ (s1 q hq hc)
theorem st_rims (ok : c.Ok D) (oT : c.OkO) (hD : Nat.ble 40 D = true) (H : LS n) {x : Int} {tx : Tok} {k : KV}
    (ret : ∀ n' t, Uq n' → LS n' → Stay n n' → k (.bool true) sl n' t) : Tri c sl n t (call (.ref 408) [.int x tx]) k := by
  refine hide _ fun hidP hidH => ?_
  obtain ⟨p0, p1, p2, p3, H⟩ := H
  refine hidH ?_
  clear hidH
  refine Tri.uq fun U => ?_
  have s1 := stay_clean U H.m3
  refine Tri.drop (sub_clean H.m3) (CnT.tri0 (rims_right_c w x tx p3 _ clean_off (H.d.clean U H.m3 H.d.no)) ok oT hD ?_)
  intro hz8 hz9 hz10 t U'
  refine hide _ fun hidP hidH => ?_
  obtain ⟨rfl, ps', news', rfl, _, ht, hs⟩ := hz10
  refine hidH ?_
  clear hidH
  have up : ∀ q ∈ Mine.clean 403 n, q ∈ (403, tabObj ps') :: news' := fun q hq => .tail _ (hs q hq)
  exact ret _ t U' ⟨p0, p1, p2, ps', up _ (clean_num H.m0 rfl), up _ (clean_num H.m1 rfl), up _ (clean_num H.m2 rfl), .head _, (H.a.clean U H.m3 H.d.no).mono up, (H.b.clean U H.m3 H.d.no).mono up, (H.c.clean U H.m3 H.d.no).mono up, ht.mono fun q hq => .tail _ hq⟩ fun q hq hc => up _ (s1 q hq hc)
/-- the well stands apart -/
theorem LS.apart (H : LS n) (U : Uq n) {wl : Addr} {a b : Int} {ta tb : Tok} {m : Nat} (h : (wl, listOf #[.int a ta, .int b tb] m) ∈ n) : LS (Mine.clean wl n) :=
  H.clean U h (noCode_seq fun _ z => nomatch z) fun z => nomatch z
theorem st_octets (ok : c.Ok D) (oT : c.OkO) (hD : Nat.ble 44 D = true) (H : LS n) {wl : Addr} {k : KV} (hw : HasWell n wl)
    (ret : ∀ n' t, Uq n' → LS n' → HasWell n' wl → StayB wl n n' → k (.bool true) sl n' t) : Tri c sl n t (call (.ref 384) [.ref wl]) k := by
  refine hide _ fun hidP hidH => ?_
  obtain ⟨a, b, ta, tb, hw⟩ := hw
  refine hidH ?_
  clear hidH
  refine Tri.uq fun U => ?_
  refine hide _ fun hidP hidH => ?_
  obtain ⟨p0, p1, p2, p3, H⟩ := H.apart U hw
  refine hidH ?_
  clear hidH
  have h1 := clean_sub _ H.m1
  have U2 : Uq (Mine.clean wl n) := fun a o o' h h' => U a o o' (clean_sub _ h) (clean_sub _ h')
  have hne : wl ≠ 379 := tab_ne U hw (fun z => nomatch z) h1
  refine Tri.drop (sub_cons h1 (sub_cons hw fun p hp => clean_sub _ (clean_sub _ hp))) (CnT.tri0 (octets_right_c w wl a b ta tb 0 p1 (Mine.clean 379 (Mine.clean wl n)) (fun p hp => clean_off p (clean_sub _ hp)) clean_off hne (H.b.clean U2 H.m1 H.b.no)) ok oT hD ?_)
  intro hz11 hz12 hz13 t U'
  refine hide _ fun hidP hidH => ?_
  obtain ⟨rfl, ps', a', b', ta', tb', rest', rfl, _, _, ht, hs⟩ := hz13
  refine hidH ?_
  clear hidH
  have up : ∀ q ∈ Mine.clean 379 (Mine.clean wl n), q ∈ (379, tabObj ps') :: (wl, listOf #[.int a' ta', .int b' tb'] 0) :: rest' := fun q hq => .tail _ (.tail _ (hs q hq))
  exact ret _ t U' ⟨p0, ps', p2, p3, up _ (clean_num H.m0 rfl), .head _, up _ (clean_num H.m2 rfl), up _ (clean_num H.m3 rfl), (H.a.clean U2 H.m1 H.b.no).mono up, ht.mono fun q hq => .tail _ (.tail _ hq), (H.c.clean U2 H.m1 H.b.no).mono up, (H.d.clean U2 H.m1 H.b.no).mono up⟩ ⟨a', b', ta', tb', .tail _ (.head _)⟩ fun q hq hne hc => up _ (clean_mem (clean_mem hq hne) (tab_ne U hq hc h1))
theorem st_draw (ok : c.Ok D) (hD : Nat.ble 8 D = true) (H : LS n) {wl : Addr} {k : KV} (hw : HasWell n wl)
    (ret : ∀ v a p hh ww ks n' t, FrameRow n' v a p hh ww ks → 1 ≤ ks.length → ks.length < 100 → LS n' → HasWell n' wl → StayB wl n n' → k v sl n' t) : Tri c sl n t (call (.ref 362) [.ref wl]) k := by
  refine hide _ fun hidP hidH => ?_
  obtain ⟨a, b, ta, tb, hw⟩ := hw
  refine hidH ?_
  clear hidH
  refine Tri.uq fun U => Tri.drop (sub_clean hw) ((frame_c w wl a b ta tb 0 _ clean_off).tri ok hD ?_ fun _ z => z.elim)
  intro v hz14 hz15 t hz16
  refine hide _ fun hidP hidH => ?_
  obtain ⟨a, p, hh, ww, ks, a', b', ta', tb', rest', rfl, hr, b1, b2, _, hs⟩ := hz15
  refine hidH ?_
  clear hidH
  exact ret v a p hh ww ks _ t (hr.mono fun q hq => .tail _ hq) b1 b2 ((H.apart U hw).mono fun q hq => .tail _ (hs q hq)) ⟨a', b', ta', tb', .head _⟩ fun q hq hne _ => .tail _ (hs _ (clean_mem hq hne))
theorem st_sdraw (ok : c.Ok D) (hD : Nat.ble 10 D = true) (H : LS n) {wl : Addr} {k : KV} (hw : HasWell n wl)
    (ret : ∀ v I B A st en hi lo n' t, ScanRow n' v I B A st en hi lo → 1 ≤ I.length → I.length < 100 → B.length < 100 → A.length < 100 → LS n' → HasWell n' wl → StayB wl n n' → k v sl n' t) : Tri c sl n t (call (.ref 389) [.ref wl]) k := by
  refine hide _ fun hidP hidH => ?_
  obtain ⟨a, b, ta, tb, hw⟩ := hw
  refine hidH ?_
  clear hidH
  refine Tri.uq fun U => Tri.drop (sub_clean hw) ((scan_c w wl a b ta tb 0 _ clean_off).tri ok hD ?_ fun _ z => z.elim)
  intro v hz17 hz18 t hz19
  refine hide _ fun hidP hidH => ?_
  obtain ⟨I, B, A, st, en, hi, lo, a', b', ta', tb', rest', rfl, hr, b1, b2, b3, b4, _, hs⟩ := hz18
  refine hidH ?_
  clear hidH
  exact ret v I B A st en hi lo _ t (hr.mono fun q hq => .tail _ hq) b1 b2 b3 b4 ((H.apart U hw).mono fun q hq => .tail _ (hs q hq)) ⟨a', b', ta', tb', .head _⟩ fun q hq hne _ => .tail _ (hs _ (clean_mem hq hne))
theorem st_side (ok : c.Ok D) (hD : Nat.ble 4 D = true) (H : LS n) {wl : Addr} {k : KV} (hw : HasWell n wl)
    (ret : ∀ x tx n' t, LS n' → HasWell n' wl → StayB wl n n' → k (.int x tx) sl n' t) : Tri c sl n t (call (.ref 327) [.ref wl]) k := by
  refine hide _ fun hidP hidH => ?_
  obtain ⟨a, b, ta, tb, hw⟩ := hw
  refine hidH ?_
  clear hidH
  refine Tri.uq fun U => Tri.drop (sub_clean hw) ((side_c w wl a b ta tb 0 _ clean_off).tri ok hD ?_ fun _ z => z.elim)
  intro hz20 hz21 hz22 t hz23
  refine hide _ fun hidP hidH => ?_
  obtain ⟨x, tx, a', b', ta', tb', rfl, _, rfl⟩ := hz22
  refine hidH ?_
  clear hidH
  exact ret x tx _ t ((H.apart U hw).mono fun q hq => .tail _ hq) ⟨a', b', ta', tb', .head _⟩ fun q hq hne _ => .tail _ (clean_mem hq hne)
end
section
variable {prog : Program} {w : World} {A : Around} {E : Value → Shared → Prop} {s : Shared} {env : Env} {h₀ : Heap} {x : Str} {body : List Stmt} {Q : Flow → Shared → Prop}
theorem iterJ_tup {l : Addr} {vs : List Value} {m₀ : Str → Option Value} {news : List (Addr × Obj)} (J : Nat → (Str → Option Value) → List (Addr × Obj) → Prop)
    (hh : A.handled = none) (hl : (l, tup vs) ∈ news) (F : Fr h₀ env.locals s.heap m₀) (N : News h₀ env.locals s.heap news) (hj : J 0 m₀ news)
    (keepl : ∀ i m₁ news₁, J i m₁ news₁ → (l, tup vs) ∈ news₁)
    (turn : ∀ i v m₁ news₁ I oI h tk, vs[i]? = some v → J i m₁ news₁ → (∀ p ∈ news₁, p.1 ≠ I) → Fr h₀ env.locals h (fun y => if y = x then some v else m₁ y) → News h₀ env.locals h ((I, oI) :: news₁) → ItO oI →
      wpAny (model prog w) A (execs body env) (PostJ h₀ env.locals I oI (J (i + 1)) { s with heap := h, toks := tk } Q) E { s with heap := h, toks := tk })
    (done : ∀ m₁ news₁ h tk, J vs.length m₁ news₁ → Fr h₀ env.locals h m₁ → News h₀ env.locals h news₁ → Q .next { s with heap := h, toks := tk }) :
    wpAny (model prog w) A (pyIter (.ref l)) (fun it s₂ => LoopAtV prog w A h₀ env x body Q E it s₂) E s := by
  have hol : s.heap.get? l = some (tup vs) := (N _ hl).1
  have hls : s.heap.IsTuple l vs.toArray := ⟨_, hol, rfl, 0, rfl⟩
  have hne : l ≠ s.heap.objs.size := Nat.ne_of_lt (Heap.lt_size hol)
  refine wpAny_pyIter_tuple hls ?_
  have W := Walks.tuple (prog := prog) (w := w) hh s.heap.objs.size l hne vs.toArray
  have hlen : vs.toArray.size = vs.length := by simp
  rw [hlen] at W
  refine ⟨_, _, _, vs.length, _, _, m₀, news, J, rfl, W, ?_, ?_, ?_, ⟨⟨_, Heap.get?_push_size _ rfl, rfl, rfl⟩, hls.at fun o e => Heap.get?_push_of_some _ e⟩, F.push _, (fun p hp => ⟨Heap.get?_push_of_some _ (N p hp).1, (N p hp).2⟩), hj, ?_, ?_⟩
  · intro hm
    rcases List.mem_cons.mp hm with e | hm
    · exact absurd F.ns.lt (e ▸ Nat.lt_irrefl _)
    · exact (N _ hl).2.1 ((List.mem_singleton.mp hm).symm)
  · intro b hb
    rw [List.mem_singleton.mp hb]
    exact next_is_new F
  · intro p hp hI
    exact absurd (Heap.lt_size (N p hp).1) ((List.mem_singleton.mp hI) ▸ Nat.lt_irrefl _)
  · rintro i v m₁ news₁ s₁ own ⟨hh', tk', rfl⟩ hin hP hJ hoff hown hget hfp st F₁ N₁
    refine hide _ fun hidP hidH => ?_
    obtain ⟨⟨oI, hoI, hoc, hod⟩, _⟩ := id st
    refine hidH ?_
    clear hidH
    have hit : ItO oI := ⟨fun z => (by rw [hoc] at z; cases z), fun vs x t e h => by rw [hod] at e; cases e; simp at h⟩
    have hIn : h₀.get? s.heap.objs.size = none := next_is_new F
    have hmI : (s.heap.objs.size, oI) ∈ own := hfp _ (by simp) hIn oI hoI
    have hl₁ := keepl i m₁ news₁ hJ
    have hlo : hh'.get? l = some (tup vs) := (N₁ _ (List.mem_append.mpr (.inr hl₁))).1
    have hP' : vs[i]? = some v := by simpa using hP
    have N₂ : News h₀ env.locals hh' ((s.heap.objs.size, oI) :: news₁) := fun p hp => N₁ p ((List.mem_cons.mp hp).elim (fun h => List.mem_append.mpr (.inl (h ▸ hmI))) fun h => List.mem_append.mpr (.inr h))
    refine wpAny_mono (turn i v m₁ news₁ s.heap.objs.size oI hh' tk' hP' hJ (fun p hp e => hoff p hp (by rw [e]; exact .head _)) F₁ N₂ hit) (fun f s₂ p => ?_) fun _ _ e => e
    have fin : EndJ h₀ env.locals s.heap.objs.size oI (J (i + 1)) { s with heap := hh', toks := tk' } s₂ → LoopStepU h₀ env.locals [s.heap.objs.size] own (J (i + 1)) { s with heap := hh', toks := tk' } .next s₂ :=
      fun hz => fin_two hown hget hoI hlo (fun _ _ hm => keepl _ _ _ hm) hz
    cases f with
    | ret v => exact .ret p
    | brk => exact .brk p
    | next => exact .next (fin p)
    | cont => exact .cont (fin p)
  · rintro h' tk m' news' F' N' _ hJ
    exact done m' news' h' tk hJ F' N'
end
section
variable {w : World} {cs : Scope} {c : Cx w cs} {D : Nat} {sl : Sl} {n : Led} {t : Nat}
theorem iter_tupO_t (one : c.One) {x : Str} {body : List Stmt} {ix : Nat} {kf : KF} {l : Addr} {vs : List Value} (J : Nat → Sl → Led → Prop) (hx : ixOf x cs.names = some ix) (hl : (l, tupOf vs) ∈ n) (h0 : J 0 sl n) (keepl : ∀ i sl n, J i sl n → (l, tupOf vs) ∈ n)
    (turn : ∀ i v sl n I oI t, vs[i]? = some v → J i sl n → (∀ p ∈ n, p.1 ≠ I) → ItO oI → Tri c (setAt ix (some v) sl) ((I, oI) :: n) t (execs body c.env) (turnK (J (i + 1)) I oI kf))
    (done : ∀ sl n t, J vs.length sl n → kf .next sl n t) : IterT c x body (.ref l) sl n t kf := by
  intro b h W F N
  refine iterJ_tup (s := c.sh h t) (env := c.env) (fun i m n' => ∃ sl, m = menuOf cs.names sl ∧ J i sl n') rfl hl F N ⟨sl, rfl, h0⟩ (fun i m n' ⟨sl, _, hj⟩ => keepl i sl n' hj) ?_ ?_
  · rintro i v m₁ n₁ I oI h' tk hv ⟨sl₁, rfl, hj⟩ hI F₁ N₁ ho
    rw [← menuOf_set hx] at F₁
    exact turn_post one W (fun sl n hj => ⟨sl, rfl, hj⟩) (turn i v sl₁ n₁ I oI tk hv hj hI ho h' ⟨b, W, F₁, N₁⟩)
  · rintro m₁ n₁ h' tk ⟨sl₁, rfl, hj⟩ F₁ N₁
    exact ⟨h', sl₁, n₁, tk, rfl, ⟨b, W, F₁, N₁⟩, done sl₁ n₁ tk hj⟩
theorem iter_rangeO_t (one : c.One) {x : Str} {body : List Stmt} {ix : Nat} {kf : KF} {r : Addr} {a : Int} {t1 u1 v1 : Tok} {N : Nat} (J : Nat → Sl → Led → Prop) (hx : ixOf x cs.names = some ix) (hr : (r, rangeObj a t1 u1 v1) ∈ n) (ha : a = (N : Int)) (hN : N < 100000) (h0 : J 0 sl n)
    (turn : ∀ i tv sl n I oI t, i < N → J i sl n → (∀ p ∈ n, p.1 ≠ I) → ItO oI → Tri c (setAt ix (some (.int (0 + (i : Int)) tv)) sl) ((I, oI) :: n) t (execs body c.env) (turnK (J (i + 1)) I oI kf))
    (done : ∀ sl n t, J N sl n → kf .next sl n t) : IterT c x body (.ref r) sl n t kf := by
  subst ha
  intro b h W F N'
  refine iterJ_rangeO (s := c.sh h t) (env := c.env) (fun i m n' => ∃ sl, m = menuOf cs.names sl ∧ J i sl n') rfl (N' _ hr).1 (small_one (by omega) (by omega) (by omega) (by omega)) (range0_size _) F N' ⟨sl, rfl, h0⟩ ?_ ?_
  · rintro i tv m₁ n₁ I oI h' tk hv ⟨sl₁, rfl, hj⟩ hI F₁ N₁ ho
    rw [← menuOf_set hx] at F₁
    exact turn_post one W (fun sl n hj => ⟨sl, rfl, hj⟩) (turn i tv sl₁ n₁ I oI tk hv hj hI ho h' ⟨b, W, F₁, N₁⟩)
  · rintro m₁ n₁ h' tk ⟨sl₁, rfl, hj⟩ F₁ N₁
    exact ⟨h', sl₁, n₁, tk, rfl, ⟨b, W, F₁, N₁⟩, done sl₁ n₁ tk hj⟩
end
theorem law_turn {n : Led} {sl : Sl} {I : Addr} {oI : Obj} {J : Sl → Led → Prop} (U : Uq n) (H : LS n) (hI : (I, oI) ∈ n) (hO : ItO oI) (hJ : LS (clean I n) → (∀ q ∈ n, q.1 ≠ I → q ∈ clean I n) → J sl (clean I n)) : TurnEnd J I oI sl n :=
  ⟨hI, clean I n, clean_sub, clean_off, hJ (H.clean U hI hO.2 hO.1) fun q hq h => clean_mem hq h⟩
section
open Builtin
theorem take_eq {id : String} {b : Array UInt8} {t : Tok} : Bytes.takeBufferQuiet? id (.bytes b t) 0 = pure (some (b, none)) := by
  unfold Bytes.takeBufferQuiet? Bytes.takeBuffer?
  rw [KBy.special_eq KBy.look_buffer, KBy.own_buffer, show ((0 : Int) == Bytes.fullReadOnly) = false from by decide +kernel]
  simp only [pure_bind]
  rw [KBy.buffer_eq]
  rfl
theorem slot_join : Slot "bytes" "join" "bytes.join" :=
  .of (owner := "bytes") (n := "join") (by rw [typeLookup_type, builtinLookup_eq_fast]; kernel_rfl) (by decide +kernel) (by decide +kernel) (by decide +kernel)
    (by first | exact .inl (by decide +kernel) | exact .inr (by decide +kernel)) (by rw [isSubtype_type]; kernel_rfl)
theorem type_join : typeOf (.builtin "bytes.join") = pure (.type "method_descriptor") := by show builtinType _ = _; rw [builtinType_eq_fast]; kernel_rfl
theorem entry_join : entryFor table "bytes.join" = some Builtin.«bytes.join» := entryFor_of_tree (by kernel_rfl)
theorem args_join (a b : Value) : argsOk "bytes.join" ⟨[a, b], []⟩ := by
  unfold argsOk; rw [signature?_of (id := "bytes.join") (n := ['n', 'i', 'o', 'j']) (o := ['s', 'e', 't', 'y', 'b']) (by kernel_rfl) FB.owner_bytes]; kernel_rfl
inductive BytesL : List Value → List (Array UInt8) → Prop
  | nil : BytesL [] []
  | cons (b : Array UInt8) (t : Tok) {vs : List Value} {bs : List (Array UInt8)} (h : BytesL vs bs) : BytesL (.bytes b t :: vs) (b :: bs)
theorem BytesL.length {vs : List Value} {bs : List (Array UInt8)} (h : BytesL vs bs) : vs.length = bs.length := by
  induction h with
  | nil => rfl
  | cons b t h ih => simp [ih]
theorem BytesL.get {vs : List Value} {bs : List (Array UInt8)} (h : BytesL vs bs) : ∀ i, i < vs.length → ∃ b t, vs[i]? = some (.bytes b t) ∧ bs[i]? = some b := by
  induction h with
  | nil => intro i hi; simp at hi
  | cons b t h ih =>
    intro i hi
    cases i with
    | zero => exact ⟨b, t, rfl, rfl⟩
    | succ i => exact ih i (by simpa using hi)
section
variable {prog : Program} {w : World} {A : Around} {E : Value → Shared → Prop} {s : Shared} {l : Addr} {t : Tok} {vs : List Value} {bs : List (Array UInt8)}
theorem seq_load {M : Model} {Q : Option (Array Value) → Shared → Prop} (hl : s.heap.IsList l vs.toArray) (h : Q (some vs.toArray) s) : wpAny M A (seqItems? (.ref l)) Q E s := by
  refine hide _ fun hidP hidH => ?_
  obtain ⟨o, ho, _, n, hd⟩ := hl
  refine hidH ?_
  clear hidH
  unfold seqItems?
  refine wpAny_bind (wpAny_load ho ?_)
  rw [hd]
  exact wpAny_pure h
theorem m1_eq {α : Type} (x0 x1 : Value) (r : List Value) (h1 : Value → α) (h2 : Array Value → α) : Bytes.joinM.match_1 (fun _ => α) (x0 :: x1 :: r).toArray h1 h2 = h2 (x0 :: x1 :: r).toArray := by
  delta Bytes.joinM.match_1
  dsimp only
  exact dif_neg (by simp)
theorem two_of {vs : List Value} (h2 : 2 ≤ vs.length) : ∃ x0 x1 vs', vs = x0 :: x1 :: vs' := by
  match vs, h2 with
  | x0 :: x1 :: vs', _ => exact ⟨x0, x1, vs', rfl⟩
theorem meets_join (hv : BytesL vs bs) (h2 : 2 ≤ vs.length) (hsz : (Bytes.joined #[] bs).size ≤ 16777216) (hsz2 : bs.toArray.foldl (· + ·.size) 0 ≤ 16777216) :
    Meets («bytes.join» ⟨[.bytes #[] t, .ref l], []⟩) (fun _ R s => s.heap.IsList l vs.toArray ∧ ∀ t' k, R (.ok (.ret (.bytes (Bytes.joined #[] bs) t'))) { s with toks := k }) := by
  refine hide _ fun hidP hidH => ?_
  obtain ⟨x0, x1, vs', rfl⟩ := two_of h2
  refine hidH ?_
  clear hidH
  refine .of_wp fun prog w A R s hS => ?_
  obtain ⟨hl, h⟩ := hS
  unfold «bytes.join» Bytes.joinM
  refine wpAny_bind (wpAny_of_eq (a := (.bytes #[] t, .ref l)) rfl ?_)
  dsimp only
  refine wpAny_bind (?_ : wpAny _ _ (Bytes.joinItems (.ref l)) _ _ _)
  unfold Bytes.joinItems
  refine wpAny_bind (wpAny_typeOf hl.typeIs ?_)
  refine wpAny_of_eq (a := Value.ref l) (by rfl) ?_
  refine wpAny_bind (seq_load hl ?_)
  dsimp only
  rw [if_pos (show (Bytes.Kind.bytes == Bytes.Kind.bytes) = true from rfl)]
  rw [m1_eq]
  generalize hvs : x0 :: x1 :: vs' = vs at hv h2 hl ⊢
  · rw [Std.Legacy.Range.forIn_eq_forIn_range']
    refine wpAny_bind (wpAny_forIn_list _ (fun rest st s' => s' = s ∧ ∃ i, i ≤ vs.length ∧ rest = List.range' i (vs.length - i) 1 ∧ st.1 = (bs.take i).toArray ∧ st.2 = (vs.take i).map fun v => (v, none)) _ ?_ ?_ _ _ ⟨rfl, 0, Nat.zero_le _, ?_, rfl, rfl⟩)
    · intro j rest hz1 s' hz2
      refine hide _ fun hidP hidH => ?_
      obtain ⟨ps, tk⟩ := hz1
      obtain ⟨rfl, i, hi, hr, h1, h2'⟩ := hz2
      refine hidH ?_
      clear hidH
      have hlt : i < vs.length := by
        rcases Nat.lt_or_ge i vs.length with h | h
        · exact h
        · rw [show vs.length - i = 0 by omega] at hr; cases hr
      rw [show vs.length - i = (vs.length - (i + 1)) + 1 by omega, List.range'_succ] at hr
      cases hr
      refine hide _ fun hidP hidH => ?_
      obtain ⟨b, t', e1, e2⟩ := hv.get j hlt
      refine hidH ?_
      clear hidH
      dsimp only at h1 h2' ⊢
      subst h1; subst h2'
      refine wpAny_bind (seq_load hl ?_)
      dsimp only
      have eg : vs.toArray.getD j Value.none = .bytes b t' := by
        rw [Array.getD_eq_getD_getElem?]; simp [e1]
      rw [eg]
      have ea : ((Bytes.Kind.bytes == Bytes.Kind.bytearray || ((vs.take j).map fun v => ((v, none) : Value × Option Value)).any fun x => x.fst.onHeap)) = false := by
        have : ∀ (vs : List Value) (bs : List (Array UInt8)), BytesL vs bs → ∀ i, ((vs.take i).map fun v => ((v, none) : Value × Option Value)).any (fun x => x.fst.onHeap) = false := by
          intro vs bs h
          induction h with
          | nil => intro i; simp
          | cons b t h ih => intro i; cases i with
            | zero => rfl
            | succ i => simp only [List.take_succ_cons, List.map_cons, List.any_cons, ih i]; rfl
        rw [this vs bs hv j]; rfl
      rw [if_neg (by rw [ea]; exact Bool.false_ne_true)]
      refine wpAny_bind (wpAny_holding (wpAny_of_eq take_eq ?_))
      dsimp only
      refine wpAny_bind (seq_load hl ?_)
      dsimp only
      rw [if_neg (by simp)]
      refine wpAny_pure ?_
      dsimp only
      refine ⟨rfl, j + 1, hlt, rfl, ?_, ?_⟩
      · rw [List.take_add_one, e2]; simp
      · rw [List.take_add_one, e1]; simp
    · intro hz3 s' hz4
      refine hide _ fun hidP hidH => ?_
      obtain ⟨ps, tk⟩ := hz3
      obtain ⟨rfl, i, hi, hr, h1, h2'⟩ := hz4
      refine hidH ?_
      clear hidH
      have hi2 : i = vs.length := by
        rcases Nat.lt_or_ge i vs.length with h | h
        · rw [show vs.length - i = (vs.length - (i + 1)) + 1 by omega, List.range'_succ] at hr; cases hr
        · omega
      subst hi2
      rw [List.take_length] at h2'
      rw [hv.length, List.take_length] at h1
      dsimp only at h1 h2' ⊢
      subst h1; subst h2'
      refine wpAny_bind (wpAny_of_eq (a := #[]) rfl ?_)
      rw [if_neg (by rw [show (#[] : Array UInt8).size = 0 from rfl, Nat.zero_mul, KBy.tooLong_not hsz2]; exact Bool.false_ne_true)]
      refine wpAny_bind (wpAny_mkBytes ?_ (by rw [PySem.sizeLine_eq]; exact hsz))
      refine wpAny_bind (wpAny_holding (wpAny_point ?_))
      have hgo : ∀ (vs : List Value) (s : Shared) (Q : Unit → Shared → Prop) (k : List Value), Q () s → wpAny (model prog w) A.in1 (Bytes.joinLetGo (vs.map fun v => (v, none)) k) Q (fun e s' => R (.error e) s') s := by
        intro vs
        induction vs with
        | nil => intro s Q k hq; exact wpAny_pure hq
        | cons v vs ih =>
          intro s Q k hq
          simp only [List.map_cons]
          unfold Bytes.joinLetGo
          exact wpAny_bind (wpAny_letGo (ih s Q k hq))
      refine wpAny_bind (hgo vs _ _ _ ?_)
      exact wpAny_pure ⟨_, rfl, h _ _⟩
    · simp
theorem joined_empty : ∀ (bs : List (Array UInt8)), Bytes.joined #[] bs = bs.foldl (· ++ ·) #[] := by
  have : ∀ (bs : List (Array UInt8)) (k : Nat) (acc : Array UInt8), (bs.zipIdx k).foldl (fun out (p, i) => (if i > 0 then out ++ #[] else out) ++ p) acc = bs.foldl (· ++ ·) acc := by
    intro bs
    induction bs with
    | nil => intro k acc; rfl
    | cons b bs ih => intro k acc; simpa using ih (k + 1) (acc ++ b)
  intro bs
  exact this bs 0 #[]
theorem join_list {Q : Value → Shared → Prop} (hl : s.heap.IsList l vs.toArray) (hv : BytesL vs bs) (h2 : 2 ≤ vs.length) (hsz : (bs.foldl (· ++ ·) #[]).size ≤ 16777216) (hsz2 : bs.toArray.foldl (· + ·.size) 0 ≤ 16777216)
    (h : ∀ t' k, Q (.bytes (bs.foldl (· ++ ·) #[]) t') { s with toks := k }) : wpAny (model prog w) A (call (.builtin "bytes.join") [.bytes #[] t, .ref l]) Q E s := by
  rw [← joined_empty] at hsz h
  exact call_meets slot_join (typeIs_bytes _ _ _) entry_join (args_join _ _) (meets_join hv h2 hsz hsz2) ⟨hl, h⟩
theorem get_join {M : Model} {b : Array UInt8} {pl : Sem Bool} {Q : Value × List Value → Shared → Prop} (h : Q (.builtin "bytes.join", [.bytes b t]) s) : wpAny M A (getMethod (.bytes b t) "join" pl) Q E s := by
  with_reducible exact KBd.method_of (.bytes b t) (typeIs_bytes _ _ _) slot_join type_join KBd.noRef h
end
end
theorem BytesL.snoc {vs : List Value} {bs : List (Array UInt8)} (h : BytesL vs bs) (b : Array UInt8) (t : Tok) : BytesL (vs ++ [.bytes b t]) (bs ++ [b]) := by
  induction h with
  | nil => exact .cons b t .nil
  | cons c u h ih => exact .cons c u ih
noncomputable def G30 (i : Nat) : List Int := [255 - (0 + (i : Int)), 17, (0 + (i : Int)) % 4]
noncomputable def b30 : List Int := [8, 1, 44, 0, 1, 30] ++ (List.range 30).flatMap G30
noncomputable def ks30 : List (Int × Int × Int × Int) := (List.range 30).map fun (i : Nat) => ((255 - (i : Int), 1, 1, (i : Int) % 4) : Int × Int × Int × Int)
theorem fold30 : ((List.range 30).map fun i => byteArr (G30 i)).foldl (· ++ ·) #[] = byteArr ((List.range 30).flatMap G30) := by decide +kernel
theorem size30 : (byteArr ((List.range 30).flatMap G30)).size ≤ 16777216 := by decide +kernel
theorem size30b : (((List.range 30).map fun i => byteArr (G30 i)).toArray.foldl (· + ·.size) 0) ≤ 16777216 := by decide +kernel
theorem b30_in : KBa.In b30 := by
  have : ∀ x ∈ b30, 0 ≤ x ∧ x < 256 := by decide +kernel
  exact this
theorem b30_len : b30.length < 10000 := by decide +kernel
theorem b30_0 : b30.getD 0 0 = 8 := by decide +kernel
theorem b30_h : frH b30 = 300 := by decide +kernel
theorem b30_w : frW b30 = 1 := by decide +kernel
theorem b30_k : frK b30 = ks30 := by decide +kernel
theorem b30_pay : payOk b30 := by unfold payOk; decide +kernel
theorem b30_ok : FrameOk 194 8 300 1 ks30 := by
  unfold FrameOk
  refine ⟨by decide, ?_, by decide, by decide, by decide, ?_, ?_⟩
  · decide
  · have : ∀ c ∈ ks30, 0 ≤ c.1 ∧ c.1 ≤ 255 ∧ 1 ≤ c.2.1 ∧ c.2.1 ≤ 4 ∧ 1 ≤ c.2.2.1 ∧ c.2.2.1 ≤ 4 ∧ 0 ≤ c.2.2.2 ∧ c.2.2.2 ≤ 3 := by decide +kernel
    intro c hc
    have := this c hc
    unfold CompOk
    omega
  · decide +kernel
theorem g30_in {i : Nat} (h : i < 30) : KBa.In (G30 i) := by
  unfold G30
  exact in_cons (by omega) (in_cons (by omega) (in_cons (by omega) in_nil))
theorem meth_heB {bs : List UInt8} {m : Nat} {name : Str} {yp ap pos : Pos} {args : List PySem.Expr} {env : Env} (hs : noStar args = true) (hl : args.length < 30) (hp : (ap.endLine == pos.line) = true) :
    eval (.Call (.Attribute (.Constant (.bytes bs) m yp) name ap) args [] pos) env = (do
      let ov ← eval (.Constant (.bytes bs) m yp) env
      standAt ap.atName
      let (f, first) ← holding [ov] (getMethod ov name (do return (← importBound (.Constant (.bytes bs) m yp) env).getD true))
      callWith pos f first (backTo pos (starEach args env)) []) := by
  have e1 : methodCallForm (args.length + 0) (backTo pos (starEach args env)) [] = true := by
    unfold methodCallForm
    have a1 : (backTo pos (starEach args env)).all (fun x => !x.1) = true := by
      have := plain_args (env := env) (pos := pos) hs
      rw [List.all_eq_not_any_not]
      simpa using this
    rw [a1]
    simp [hl]
  show (do let ov ← eval (.Constant (.bytes bs) m yp) env; standAt ap.atName; methodCall (.Constant (.bytes bs) m yp) name ap pos env ov (args.length + 0) (backTo pos (starEach args env)) []) = _
  unfold methodCall
  rw [e1]
  simp only [calleeOf, methodCallPos, hp, Bool.not_true, Bool.false_or, if_true]
  rfl
section
variable {w : World} {cs : Scope} {c : Cx w cs} {D : Nat} {sl : Sl} {n : Led} {t : Nat}
theorem min2_t {a b : Int} {ta tb : Tok} {k : KV} (h : ∀ m tm t, (m = a ∨ m = b) ∧ m ≤ a ∧ m ≤ b → k (.int m tm) sl n t) : Tri c sl n t (call (.builtin "min") [.int a ta, .int b tb]) k := by
  intro hp hz1
  refine hide _ fun hidP hidH => ?_
  obtain ⟨b', W, F, N⟩ := hz1
  refine hidH ?_
  clear hidH
  refine min_two_ints (s := c.sh hp t) rfl fun h' tk hk => ?_
  have H : At c sl n h' := ⟨b', W, ⟨F.ns.at' fun o e => hk c.L o e, fun b o e => hk b o (F.keep b o e), F.above⟩, fun p hp => ⟨hk _ _ (N p hp).1, (N p hp).2⟩⟩
  by_cases hb : b < a
  · rw [if_pos hb]; exact ⟨h', sl, n, tk, rfl, H, h b tb tk ⟨.inr rfl, by omega, by omega⟩⟩
  · rw [if_neg hb]; exact ⟨h', sl, n, tk, rfl, H, h a ta tk ⟨.inl rfl, by omega, by omega⟩⟩
theorem listR_t {r : Addr} {a : Int} {t1 u1 v1 : Tok} {N : Nat} {k : KV} (hr : (r, rangeObj a t1 u1 v1) ∈ n) (ha : a = (N : Int)) (hN : N < 100000) (h : ∀ l us m t, IntsAre us (rangeKs 0 N) → (∀ p ∈ n, p.1 < l) → k (.ref l) sl ((l, listOf (List.toArray us) m) :: n) t) : Tri c sl n t (call (.type "list") [.ref r]) k := by
  subst ha
  intro hp hz2
  refine hide _ fun hidP hidH => ?_
  obtain ⟨b', W, F, N'⟩ := hz2
  refine hidH ?_
  clear hidH
  exact kll_range (s := c.sh hp t) rfl F N' (N' _ hr).1 (small_one (by omega) (by omega) (by omega) (by omega)) (range0_size _) (by omega) fun l us m h' tk F' N2 hl hu => ⟨h', sl, _, tk, rfl, ⟨b', W, F', N2⟩, h l us m tk hu hl⟩
theorem join_t {ap cp pos : Pos} {m : Nat} {arg : PySem.Expr} {re : RE} {k : KV} (ok : c.Ok D) (hs : noStar [arg] = true) (hp : (ap.endLine == pos.line) = true) (hr : tr cs 12 arg = re)
    (h : ∀ t0, vcE c re sl n (t + 1) fun v sl n t => Tri c sl n t (call (.builtin "bytes.join") [.bytes #[] t0, v]) k) :
    Tri c sl n t (eval (.Call (.Attribute (.Constant (.bytes []) m cp) (Str.ofString "join") ap) [arg] [] pos) c.env) k := by
  subst hr
  intro hp' H
  have args := trL_ok2 (c := c) (g := tr cs 12) (vc_ok ok 12) hs (f := .builtin "bytes.join") (pos := pos) (sl := sl) (n := n) (t := t + 1) (k := fun vs sl n t'' => Tri c sl n t'' (call (.builtin "bytes.join") (.bytes #[] t :: vs)) k) (h t)
  refine MethodCall_ (Constant_bytes (s := c.sh hp' t) ?_) (meth_heB hs (by show 1 < 30; decide) hp)
  refine get_join ?_
  refine callWith_builtin (plain_args hs) (args.seq ?_ H)
  rintro ⟨ps, kw⟩ sl' n' t' ⟨e, hk⟩ h' H'
  cases e
  exact hk h' H'
theorem joinL_t {l : Addr} {vs : List Value} {bs : List (Array UInt8)} {r : Array UInt8} {nn : Nat} {t0 : Tok} {k : KV} (hl : (l, listOf (List.toArray vs) nn) ∈ n) (hv : BytesL vs bs) (h2 : 2 ≤ bs.length) (hr : bs.foldl (· ++ ·) #[] = r) (h3 : r.size ≤ 16777216) (h4 : bs.toArray.foldl (· + ·.size) 0 ≤ 16777216) (h : ∀ t' t, k (.bytes r t') sl n t) : Tri c sl n t (call (.builtin "bytes.join") [.bytes #[] t0, .ref l]) k :=
  fun hp ⟨b, W, F, N⟩ => join_list (s := c.sh hp t) (News.isList N hl) hv (by rw [hv.length]; exact h2) (by rw [hr]; exact h3) h4 fun t' k' => ⟨hp, sl, n, k', rfl, ⟨b, W, F, N⟩, by rw [hr]; exact h t' k'⟩
/-- the octets of thirty components -/
theorem comp30_t (one : c.One) (ok : c.Ok D) {scope : Scope} {cl : List (Str × Addr)} {x : Str} {r : Addr} {t1 u1 v1 : Tok} {p0 p1 p2 p3 p4 p5 p6 p7 pos p8 : Pos} {m1 m2 m3 : Nat} {k : KV} (hr : (r, rangeObj 30 t1 u1 v1) ∈ n)
    (hk : ∀ C, (compEnvC scope cl C c.env).scope.kind = .function) (hx : ∀ C, (compEnvC scope cl C c.env).kindOf x = some .local) (hd : (x == ("__debug__" : Str)) = false) (hb : ∀ C, (compEnvC scope cl C c.env).kindOf (Str.ofString "bytes") = some .globalImplicit)
    (fin : ∀ ys Dl t, BytesL ys ((List.range 30).map fun i => byteArr (G30 i)) → k (.ref Dl) sl ((Dl, LCg.lst ys) :: n) t) :
    CompT c (.Call (.Name (Str.ofString "bytes") p0) [.List [.BinOp (.Constant (.int 255) m1 p1) .Sub (.Name x p2) p3, .Constant (.int 17) m2 p4, .BinOp (.Name x p5) .Mod (.Constant (.int 4) m3 p6) p7] p8] [] pos) x scope cl sl k (.ref r) sl n t := by
  refine comp_range_g one (e := c.env) (N := 30) (fun i ys n' => n' = n ∧ BytesL ys ((List.range i).map fun i => byteArr (G30 i))) hr rfl (by decide) ⟨rfl, .nil⟩ ?_ ?_
  · rintro i tv I oI C oC Dl ys n' t hi ⟨rfl, hy⟩ hV off ne
    refine ccallT_t ok.calm (i := "bytes") (by kernel_rfl) (hk C) (hb C) (by decide) (by rfl) (Tri.args_cons rfl (Tri.list_ (Tri.args_cons rfl (Tri.bin_ (cint_t (cname_t (.tail _ (.head _)) hV (hk C) (hx C) hd ?_))))))
    refine vcBin_ok (c := c.calm) ?_
    refine Tri.args_cons rfl (cint_t (Tri.args_cons rfl (Tri.bin_ (cname_t (.tail _ (.head _)) hV (hk C) (hx C) hd (cint_t (mod_t (by decide) fun tv2 t h H => PyProof.Rows.args_nil ⟨h, _, _, _, rfl, H, Nat.le_of_ble_eq_true rfl, fun l hl => ?_⟩))))))
    refine fun h H => PyProof.Rows.args_nil ⟨h, _, _, _, rfl, H, bytes_t (ns := G30 i) (.head _) (.cons _ _ (.cons _ _ (.cons _ _ .nil))) (g30_in hi) (Nat.le_of_ble_eq_true rfl) fun tv3 t => ⟨rfl, n', fun p hp => .tail _ hp, off, rfl, ?_⟩⟩
    rw [List.range_succ, List.map_append]
    exact hy.snoc _ _
  · rintro b g t ys n' W ⟨rfl, hy⟩
    exact finE W fun Dl t o1 => fin ys Dl t hy
/-- the names of thirty components, told again -/
theorem names30_t (one : c.One) (ok : c.Ok D) {scope : Scope} {cl : List (Str × Addr)} {x : Str} {l : Addr} {vs : List Value} {nn : Nat} {ks : List (Int × Int × Int × Int)} {p1 p2 p3 p4 : Pos} {m1 : Nat} {k : KV} (hc : CompsAt n vs ks) (hl : (l, listOf vs.toArray nn) ∈ n) (hz : vs.length < 1000)
    (hk : ∀ C, (compEnvC scope cl C c.env).scope.kind = .function) (hx : ∀ C, (compEnvC scope cl C c.env).kindOf x = some .local) (hd : (x == ("__debug__" : Str)) = false)
    (fin : ∀ ys Dl t, IntsAre ys (ks.map fun q => 255 - q.1) → k (.ref Dl) sl ((Dl, LCg.lst ys) :: n) t) :
    CompT c (.BinOp (.Constant (.int 255) m1 p1) .Sub (.Attribute (.Name x p2) (Str.ofString "ident") p3) p4) x scope cl sl k (.ref l) sl n t := by
  have hlen : vs.length = ks.length := hc.1
  refine comp_list_t one (fun i ys n' => n' = n ∧ IntsAre ys ((ks.take i).map fun q => 255 - q.1)) hl hz (fun i ys n' q => q.1 ▸ hl) ⟨rfl, .nil⟩ ?_ ?_
  · rintro i v I oI C oC Dl ys n' t hv ⟨rfl, hy⟩ hV off ne
    refine hide _ fun hidP hidH => ?_
    obtain ⟨q, hq, y, dx, g1, g2, g3, g4, u1, u2, u3, u4, u5, u6, u7, u8, m, rfl, hx', hdx⟩ := hc.at2.get hv
    refine hidH ?_
    clear hidH
    refine Tri.bin_ (cint_t (cattr_t ok.calm (v := .int q.1 u5) (.tail _ (.head _)) hV (hk C) (hx C) hd (attr_at (.tail _ (.tail _ (.tail _ hx'))) (.tail _ (.tail _ (.tail _ hdx))) (by kernel_rfl) (by kernel_rfl) rfl) (vcBin_ok (c := c.calm) ?_)))
    refine ⟨rfl, n', sub_id, off, rfl, ?_⟩
    rw [List.take_add_one, hq, List.map_append]
    exact IntsAre.append hy (.cons _ _ .nil)
  · rintro ys n' Dl t ⟨rfl, hy⟩ o1
    rw [hlen, List.take_length] at hy
    exact fin ys Dl t hy
end
noncomputable def lawCs : Scope := by refine (?_ : (a : Scope) → (scopeAt 57 = some a) → Scope) _ rfl; exact fun a _ => a
theorem row1 {n : Led} {r : Addr} {a b c d : Int} {t1 t2 t3 t4 : Tok} (h : (r, tupOf [.int a t1, .int b t2, .int c t3, .int d t4]) ∈ n) : RowsAt n [.ref r] [(a, b, c, d)] := by
  refine ⟨rfl, fun i v k x y => ?_⟩
  cases i with
  | zero => cases x; cases y; exact ⟨r, t1, t2, t3, t4, rfl, h⟩
  | succ i => cases x
noncomputable abbrev precL : List Int := [1, 2, 3, 7, 9, 16, 17]
theorem HasWell.stay {n n' : Led} {wl : Addr} (h : HasWell n wl) (s : Stay n n') : HasWell n' wl := by
  refine hide _ fun hidP hidH => ?_
  obtain ⟨a, b, ta, tb, h⟩ := h
  refine hidH ?_
  clear hidH
  exact ⟨a, b, ta, tb, s _ h (fun z => nomatch z)⟩
section
variable {w : World} {c : Cx w lawCs} {n : Led} {t : Nat}
theorem prec_turn (ok : c.Ok 60) (oT : c.OkO) {sc l I : Addr} {oI : Obj} {vs : List Value} {p : Int} {tp : Tok} {kf : KF} (H : LS n) (hl : (l, tupOf vs) ∈ n) (hI : ∀ p ∈ n, p.1 ≠ I) (hO : ItO oI) :
    vcS c rs_law_0 [some (.ref sc), some (.int p tp), none, none, none] ((I, oI) :: n) t (turnK (fun sl n => (∃ a, sl = [some (.ref sc), a, none, none, none]) ∧ LS n ∧ (l, tupOf vs) ∈ n) I oI kf) := by
  refine ⟨Nat.le_of_ble_eq_true rfl, fun lt hlt => ⟨Nat.le_of_ble_eq_true rfl, fun ll hll => ⟨Nat.le_of_ble_eq_true rfl, fun lx hlx => ?_⟩⟩⟩
  refine st_frame ok oT rfl (H.mono fun p hp => .tail _ (.tail _ (.tail _ (.tail _ hp)))) (ks := [(255, 1, 4, 3)]) ⟨lx, ll, _, _, _, _, _, _, rfl, .head _, .tail _ (.head _), row1 (.tail _ (.tail _ (.head _)))⟩ (Nat.le_refl _) (Nat.le_of_ble_eq_true rfl) fun n' t U' H' S' => ⟨no_', fun _ => ?_⟩
  exact law_turn (J := fun sl n => (∃ a, sl = [some (.ref sc), a, none, none, none]) ∧ LS n ∧ (l, tupOf vs) ∈ n) (sl := [some (.ref sc), some (.int p tp), none, none, none]) U' H' (S' _ (.tail _ (.tail _ (.tail _ (.head _)))) hO.1) hO fun HI up => ⟨⟨_, rfl⟩, HI, up _ (S' _ (.tail _ (.tail _ (.tail _ (.tail _ hl)))) fun z => nomatch z) (hI _ hl)⟩
theorem turn_turn (ok : c.Ok 60) (oT : c.OkO) {sc I : Addr} {oI : Obj} {vs : List Value} {ns : List Int} {a b : Option Value} {i : Nat} {ti : Tok} {kf : KF} (hP : c.base.IsList sc vs.toArray) (hi : IntsAre vs ns) (hn : ns.length < 1000) (H : LS n) (_ : ∀ p ∈ n, p.1 ≠ I) (hO : ItO oI) {x : Option Value} :
    vcS c rs_law_3 [some (.ref sc), a, b, some (.int (0 + (i : Int)) ti), x] ((I, oI) :: n) t (turnK (fun sl n => (∃ u v, sl = [some (.ref sc), a, b, u, v]) ∧ LS n) I oI kf) := by
  refine CnB.tri (well_c w sc vs ns (0 + (i : Int)) ti _ hi hn (by omega)) ok rfl hP ?_
  intro hz1 hz2 hz3 t
  refine hide _ fun hidP hidH => ?_
  obtain ⟨wl, wa, wb, ta, tb, rfl, rfl, hwl⟩ := hz3
  refine hidH ?_
  clear hidH
  have H1 : LS ((wl, listOf #[.int wa ta, .int wb tb] 0) :: (I, oI) :: n) := H.mono fun p hp => .tail _ (.tail _ hp)
  have q : I ≠ wl := Nat.ne_of_lt (hwl _ (.head _))
  refine st_draw ok rfl H1 ⟨wa, wb, ta, tb, .head _⟩ fun v a' p' hh ww ks n2 t hr b1 b2 H2 hw2 hI2 => ?_
  refine st_frame ok oT rfl H2 hr b1 b2 fun n3 t U3 H3 S3 => ⟨no_', fun _ => ?_⟩
  refine st_octets ok oT rfl H3 (hw2.stay S3) fun n4 t U4 H4 hw4 hI4 => ⟨no_', fun _ => ?_⟩
  refine st_sdraw ok rfl H4 hw4 fun v I' B A st en hi lo n5 t hr5 c1 c2 c3 c4 H5 hw5 hI5 => ?_
  refine st_scan ok oT rfl H5 hr5 c1 c2 c3 c4 fun n6 t U6 H6 S6 => ⟨no_', fun _ => ?_⟩
  refine st_side ok rfl H6 (hw5.stay S6) fun y ty n7 t H7 hw7 hI7 => ?_
  refine st_rims ok oT rfl H7 fun n8 t U8 H8 S8 => ⟨no_', fun _ => ?_⟩
  exact law_turn (J := fun sl n => (∃ u v, sl = [some (.ref sc), a, b, u, v]) ∧ LS n) (sl := [some (.ref sc), a, b, some (.int (0 + (i : Int)) ti), some (.ref wl)]) U8 H8 (S8 _ (hI7 _ (S6 _ (hI5 _ (hI4 _ (S3 _ (hI2 _ (.tail _ (.head _)) q hO.1) hO.1) q hO.1) q hO.1) hO.1) q hO.1) hO.1) hO fun HI up => ⟨⟨_, _, rfl⟩, HI⟩
end
theorem names30 : (ks30.map fun q => 255 - q.1) = rangeKs 0 30 := by decide +kernel
theorem law_walk {w : World} {c : Cx w lawCs} (ok : c.Ok 60) (one : c.One) (oT : c.OkO) {sc : Addr} {vs : List Value} {ns : List Int} (hP : c.base.IsList sc vs.toArray) (hi : IntsAre vs ns) (hn : ns.length < 1000) {n : Led} (H : LS n) {body : List Stmt} (hb : trS lawCs 40 body = rs_law) (hf : full 40 body = true) (t : Nat) :
    Tri c [some (.ref sc), none, none, none, none] n t (execs body c.env) fun fl _ n _ => fl = .ret (.bool true) ∧ LS n := by
  refine vc_go ok hb hf ?_
  refine for_t ok one (ix := 1) (re := .tup (.cons (.int 1) (.cons (.int 2) (.cons (.int 3) (.cons (.int 7) (.cons (.int 9) (.cons (.int 16) (.cons (.int 17) .nil)))))))) (by kernel_rfl) (by kernel_rfl) (fun _ => rfl) ⟨Nat.le_of_ble_eq_true rfl, fun l hl => ?_⟩
  have iP : IntsAre [.int 1 t, .int 2 (t + 1), .int 3 (t + 1 + 1), .int 7 (t + 1 + 1 + 1), .int 9 (t + 1 + 1 + 1 + 1), .int 16 (t + 1 + 1 + 1 + 1 + 1), .int 17 (t + 1 + 1 + 1 + 1 + 1 + 1)] precL := .cons _ _ (.cons _ _ (.cons _ _ (.cons _ _ (.cons _ _ (.cons _ _ (.cons _ _ .nil))))))
  refine iter_tupO_t one (ix := 1) (fun _ sl n => (∃ a, sl = [some (.ref sc), a, none, none, none]) ∧ LS n ∧ (l, tupOf [.int 1 t, .int 2 (t + 1), .int 3 (t + 1 + 1), .int 7 (t + 1 + 1 + 1), .int 9 (t + 1 + 1 + 1 + 1), .int 16 (t + 1 + 1 + 1 + 1 + 1), .int 17 (t + 1 + 1 + 1 + 1 + 1 + 1)]) ∈ n) (by kernel_rfl) (.head _) ⟨⟨none, rfl⟩, H.mono fun p hp => .tail _ hp, .head _⟩ (fun i sl n h => h.2.2) ?_ ?_
  · intro i v sl n I oI t hv hz4 hI hO
    refine hide _ fun hidP hidH => ?_
    obtain ⟨⟨a, rfl⟩, H, hl⟩ := hz4
    refine hidH ?_
    clear hidH
    obtain ⟨tv, rfl⟩ := IntsAre.int_at iP i v hv
    exact vc_go (f := 40) (rs := rs_law_0) ok (by kernel_rfl) (by kernel_rfl) (prec_turn ok oT H hl hI hO)
  intro sl n t hz5
  refine hide _ fun hidP hidH => ?_
  obtain ⟨⟨a, rfl⟩, H, _⟩ := hz5
  refine hidH ?_
  clear hidH
  refine ⟨Nat.le_of_ble_eq_true rfl, fun lb hlb => bytes_t (ns := [8, 1, 44, 0, 1, 30]) (.head _) (.cons _ _ (.cons _ _ (.cons _ _ (.cons _ _ (.cons _ _ (.cons _ _ .nil)))))) (in_cons (by decide) (in_cons (by decide) (in_cons (by decide) (in_cons (by decide) (in_cons (by decide) (in_cons (by decide) in_nil)))))) (Nat.le_of_ble_eq_true rfl) fun tv t => ?_⟩
  refine join_t ok rfl rfl (re := .raw _) (by with_unfolding_all rfl) fun t0 => ?_
  refine comp_t ok one (re := .call (.type "range") (.cons (.int 30) .nil)) (by with_unfolding_all rfl) (by decide) rfl (by decide) rfl (fun _ => rfl) (by kernel_rfl) ?_
  refine range_t fun rg u1 u2 u3 t hg => comp30_t one ok (.head _) (fun _ => rfl) (fun _ => rfl) (by decide) (fun _ => rfl) fun ys Dl t hy => ?_
  refine joinL_t (.head _) hy (by decide) fold30 size30 size30b fun tv2 t => addB_t (by decide) fun tv3 t => ?_
  refine (read_frame_c w 194 _ tv3 b30 _ b30_in b30_len).tri ok rfl ?_ fun C q => absurd ⟨b30_pay, frameOk_cast b30_ok b30_0 b30_h b30_w b30_k⟩ q.2
  rintro v n' ⟨_, hs, hf⟩ t
  refine hide _ fun hidP hidH => ?_
  obtain ⟨y, d, l, g1, g2, g3, g4, g5, t1, t2, t3, t4, t5, tc, tp, th, tw, m1, m2, ws, rfl, hy', hd, hl', hcs⟩ := frameAt_cast hf b30_0 b30_h b30_w b30_k
  refine hidH ?_
  clear hidH
  refine attrK (fa_height ⟨hy', hd⟩) ⟨fun e => absurd e (by decide), fun _ => ?_⟩
  refine comp_t ok one (re := .attr 2 (Str.ofString "components")) (by with_unfolding_all rfl) (by decide) rfl (by decide) rfl (fun _ => rfl) (by kernel_rfl) ?_
  refine attrK (fa_components ⟨hy', hd⟩) (names30_t one ok hcs hl' (by rw [hcs.1]; decide) (fun _ => rfl) (fun _ => rfl) (by decide) fun ys2 D2 t hy2 => ?_)
  refine range_t fun rg2 u1 u2 u3 t hg2 => listR_t (.head _) rfl (by decide) fun l2 us m t hus hl2 => ?_
  refine neI_t ok (.tail _ (.tail _ (.head _))) (.head _) hy2 hus ⟨fun e => absurd names30 (of_decide_eq_false (not_t e)), fun _ => ?_⟩
  have H' : LS ((l2, listOf (List.toArray us) m) :: (rg2, rangeObj 30 u1 u2 u3) :: (D2, LCg.lst ys2) :: n') := H.mono fun p hp => .tail _ (.tail _ (.tail _ (hs _ (.tail _ (.tail _ (.tail _ hp))))))
  refine for_t ok one (ix := 3) (re := .call (.type "range") (.cons (.call (.builtin "max") (.cons (.int 1) (.cons (.call (.builtin "min") (.cons (.int 2) (.cons (.call (.builtin "len") (.cons (.loc 0) .nil)) .nil))) .nil))) .nil)) (by kernel_rfl) (by kernel_rfl) (fun _ => rfl) ?_
  have hlen := hi.length
  refine lenBase_t ok hP (by omega) fun tv4 t => min2_t fun k1 tk1 t hk1 => max2_t fun k2 tk2 t hk2 => range_t fun rg3 u1 u2 u3 t hg3 => ?_
  refine iter_rangeO_t one (ix := 3) (N := k2.toNat) (fun _ sl n => (∃ u v, sl = [some (.ref sc), a, some (.ref y), u, v]) ∧ LS n) (by kernel_rfl) (.head _) (by omega) (by omega) ⟨⟨none, none, rfl⟩, H'.mono fun p hp => .tail _ hp⟩ ?_ ?_
  · intro i tv sl n I oI t hi' hz6 hI hO
    refine hide _ fun hidP hidH => ?_
    obtain ⟨⟨u, v, rfl⟩, H⟩ := hz6
    refine hidH ?_
    clear hidH
    exact vc_go (f := 40) (rs := rs_law_3) ok (by kernel_rfl) (by kernel_rfl) (turn_turn ok oT hP hi hn H hI hO)
  intro sl n t hz7
  refine hide _ fun hidP hidH => ?_
  obtain ⟨⟨u, v, rfl⟩, H⟩ := hz7
  refine hidH ?_
  clear hidH
  exact ⟨rfl, H⟩
theorem LS.grown {h₀ h : Heap} {L : Addr} {n : Led} (N : News h₀ L h n) (H : LS n) : GrownAll [(407, 403), (400, 396), (383, 379), (376, 374)] h := by
  refine hide _ fun hidP hidH => ?_
  obtain ⟨p0, p1, p2, p3, H⟩ := H
  refine hidH ?_
  clear hidH
  exact ⟨.of N H.m3, .of N H.m2, .of N H.m1, .of N H.m0, trivial⟩
theorem LS.start {n : Led} (h0 : (374, tabObj #[]) ∈ n) (h1 : (379, tabObj #[]) ∈ n) (h2 : (396, tabObj #[]) ∈ n) (h3 : (403, tabObj #[]) ∈ n) : LS n :=
  ⟨_, _, _, _, h0, h1, h2, h3, .inl rfl, .inl rfl, .inl rfl, .inl rfl⟩
theorem law_menu (v : Value) : (fun x => List.lookup x [(Str.ofString "script", v)].reverse) = menuOf lawCs.names [some v, none, none, none, none] :=
  menuOf_start (z := 15) (fun y hy => (List.mem_singleton.mp hy) ▸ rfl) rfl
theorem law_run {w : World} {loose : List Str} {mean : ExcName → Option Value} {mg mb : Str → Option Value} {g : Heap} {L a : Addr} {cd : Value} {cn : Str} {sc : Addr} {vs : List Value} {ns : List Int} {body : List Stmt} {s : Shared} {m : Str → Option Value} {Q : Flow → Shared → Prop} {E : Value → Shared → Prop}
    (X : (K w.params).In g) (T : Top topProg loose mean mg mb g) (B : Below callerA g [] g) (F : Fr g L s.heap m) (hm : m = menuOf lawCs.names [some (.ref sc), none, none, none, none]) (N : News g L s.heap [(403, tabObj #[]), (396, tabObj #[]), (379, tabObj #[]), (374, tabObj #[])])
    (hl : g.IsList sc vs.toArray) (hi : IntsAre vs ns) (hn : ¬ (63 : Int) < ns.length) (hb : trS lawCs 40 body = rs_law) (hf : full 40 body = true)
    (ret : ∀ h' tk m', Fr g L h' m' → GrownAll [(407, 403), (400, 396), (383, 379), (376, 374)] h' → Q (.ret (.bool true)) { s with heap := h', toks := tk }) :
    wpAny (MM w) (callerA.deeper (envOf cn lawCs L a cd)) (execs body (envOf cn lawCs L a cd)) Q E s := by
  let c : Cx w lawCs := { loose, mean, mg, mb, dp := callerA.depth + 1, un := callerA.units + 3, gd := callerA.guards, cn, a, ccd := cd, cl := [], outer := [], A₀ := callerA, base := g, turn := fun b => b = g, L, g := s.gens, d := s.drawn, o := s.os, n₀ := [], ke := fun _ => False, E := fun _ _ => False }
  have ok : c.Ok 60 := ⟨fun b e => e ▸ B, fun b e => e ▸ X, fun b e => e ▸ T, rfl, by show callerA.depth + 1 + 60 < 500; decide, by show callerA.units + 3 + 8 * 60 < 2000; decide, fill_ w, fun v s h => (er_no (fun _ h => h) h).elim, PassesOwn.never⟩
  have oT : c.OkO := ⟨rfl, X, T⟩
  subst hm
  have key := law_walk ok (fun _ _ e e' => e.trans e'.symm) oT hl hi (by omega) (LS.start (.tail _ (.tail _ (.tail _ (.head _)))) (.tail _ (.tail _ (.head _))) (.tail _ (.head _)) (.head _)) hb hf s.toks s.heap ⟨g, rfl, F, N⟩
  refine wpAny_mono key ?_ fun _ _ e => e.elim
  intro fl s' hz1
  refine hide _ fun hidP hidH => ?_
  obtain ⟨h', sl, n, t, rfl, ⟨b, eb, F', N'⟩, rfl, H⟩ := hz1
  refine hidH ?_
  clear hidH
  obtain rfl : b = g := eb
  exact ret h' t _ F' (H.grown N')
section
open PySem.W.X
theorem cw : PySem.Challenge.rw_pf0239_01.Holds := by
  w_on
  refine holds_law (by first | (rw [PySem.W.Fast.te9446332074065402090]; kernel_rfl) | fail "ws") fun said => ?_
  refine holds_open (q := q) (loose := []) (Xt := fun s => xlAt q [] s && recOk (RowW.records PySem.Challenge.rw_pf0239_01.row.toRowW) s) (XP := XL q []) (Yf := Hook.obs (kmHook K asL HKp [403, 396, 379, 374])) (Ya := Hook.val (kmHook K asL HKp [403, 396, 379, 374])) (YP := Hook.says (kmHook K asL HKp [403, 396, 379, 374])) (N := 6326) left (Hook.of (kmHook K asL HKp [403, 396, 379, 374])) (Hook.keeps (kmHook K asL HKp [403, 396, 379, 374])) (fun s e => xl_of s (Bool.and_eq_true_iff.mp e).1) XL.keeps (by rfl) (by rfl) (by rfl) (fun s e => recFacts_of (Bool.and_eq_true_iff.mp e).2) (by rfl) (by first | assumption | decide +kernel) (by decide +kernel) ⟨rfl, rfl, rfl, rfl, rfl, by decide +kernel⟩ ?hw ?hc
  case hw => w_witness2
  w_strict k_go0
  refine law_run (by assumption) (by assumption) (by assumption) (by assumption) (law_menu _) (by assumption) (by assumption) (by assumption) (by assumption) (by kernel_rfl) (by kernel_rfl) ?_
  intro h' tk m' F G
  refine ⟨?_, G⟩
  kc_close
end
end Mine
theorem PySem.Challenge.cw_pf0239_01_holds : PySem.Challenge.rw_pf0239_01.Holds :=
  Mine.cw
