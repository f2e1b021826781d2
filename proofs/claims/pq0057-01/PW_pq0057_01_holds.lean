import PyProof.Rows.All
import Wide.All
import OpenK.AllK
import Wide.FinOn
import PySem.Challenge.RW_pq0057_01
set_option Elab.async false
set_option linter.unusedVariables false
set_option linter.constructorNameAsVariable false
set_option maxRecDepth 100000
set_option maxRecDepth 100000
namespace Mine
open PySem PySem.W PyProof.Rows
/-! ## the top's run: its objects and trees (printed by wip/K1gen.lean); a def's own text is taken out of the row -/
noncomputable def nthS : List Stmt → Nat → Stmt
  | [], _ => .Pass ⟨0, 0, 0, 0⟩
  | a :: _, 0 => a
  | _ :: r, n + 1 => nthS r n
noncomputable def st (i : Nat) : Stmt := nthS PySem.Challenge.pw_pq0057_01.main.body i
noncomputable def ms (i j : Nat) : Stmt := match st i with | .ClassDef _ _ _ b .. => nthS b j | x => x
noncomputable def fP (x : Stmt) : Arguments := match x with | .FunctionDef _ a .. => a | _ => default
noncomputable def fB (x : Stmt) : List Stmt := match x with | .FunctionDef _ _ b .. => b | _ => []
noncomputable def fS (x : Stmt) : Scope := match x with | .FunctionDef _ _ _ _ _ _ c .. => c | _ => default
abbrev en (P : Params) (x : String) (t : Tok) (v : Value) : DictEntry := ⟨PyData.keyHash P (Str.ofString x), .str (Str.ofString x) t, v⟩
noncomputable def o43 (P : Params) : Obj := (.mk (.type "tuple") none (.seq #[] 0) #[])
noncomputable def o44 (P : Params) : Obj := (.mk .none none (.fields #[]) #[])
noncomputable def o45 (P : Params) : Obj := (.mk (.type "code") none (.fields #[(.str (Str.ofString "<module>") 182), (.str (Str.ofString "<module>") 183), (.str (Str.ofString "/claim/cut.py") 184), (.int 1 0), (.int 0 0), (.int 0 0), (.int 0 0), (.int 0 0), (.ref 11), (.bool false), (.int 181 0), (.ref 12), .none, .none, .none, .none, (.int 185 0), (.int 1 0), (.str (Str.ofString "/claim/cut.py") 186)]) #[])
noncomputable def o46 (P : Params) : Obj := (.mk (.type "frame") none .plain #[(some (.ref 13)), (some (.ref 3)), (some (.ref 3)), none, (some (.str (Str.ofString "__main__") 164)), none, (some (.ref 0))])
noncomputable def o49 (P : Params) : Obj := (.mk .none none (.dict #[(en P "type.__subclasses__.Exception.0" 230 (.int 47 0)), (en P "type.__subclasses__.Exception.n" 231 (.int 1 0))] 2) #[])
noncomputable def o50 (P : Params) : Obj := (.mk (.type "dict") none (.dict #[(en P "__name__" 165 (.str (Str.ofString "alikeheap.errors") 194)), (en P "__doc__" 166 .none), (en P "__package__" 167 .none), (en P "__loader__" 168 (.builtin "__main__.__loader__#opaque")), (en P "__spec__" 169 .none), (en P "__annotations__" 170 (.ref 6)), (en P "__builtins__" 171 (.ref 4)), (en P "__file__" 173 (.str (Str.ofString "/claim/cut.py") 172)), (en P "__cached__" 174 .none), (en P "_wall" 193 (.ref 21)), (en P "HeapError" 233 (.ref 47))] 11) #[])
noncomputable def o51 (P : Params) : Obj := (.mk .none none (.fields #[(.int 1 0), (.int 0 0), (.ref 20), (.int 5 0), (.int 0 0), (.ref 28)]) #[])
noncomputable def o52 (P : Params) : Obj := (.mk (.type "tuple") none (.seq #[] 0) #[])
noncomputable def o53 (P : Params) : Obj := (.mk .none none (.fields #[]) #[])
noncomputable def o54 (P : Params) : Obj := (.mk (.type "tuple") none (.seq #[(.str (Str.ofString "k") 190)] 0) #[])
noncomputable def o55 (P : Params) : Obj := (.mk (.type "tuple") none (.seq #[] 0) #[])
noncomputable def o56 (P : Params) : Obj := (.mk .none none (.func ⟨(Str.ofString "_wall"), (Str.ofString "_wall"), (fP (st 0)), (.stmts (fB (st 0))), (fS (st 0)), 0, [], .none, .none, .none, .none, none, .none, .none, 0⟩) #[])
noncomputable def o57 (P : Params) : Obj := (.mk (.type "code") none (.fields #[(.str (Str.ofString "_wall") 187), (.str (Str.ofString "_wall") 188), (.str (Str.ofString "/claim/cut.py") 189), (.int 1 0), (.int 1 0), (.int 0 0), (.int 0 0), (.int 3 0), (.ref 15), (.bool true), (.int 181 0), (.ref 16), .none, (.ref 17), (.ref 18), (.ref 19), (.int 191 0), (.int 1 0), (.str (Str.ofString "/claim/cut.py") 192)]) #[])
noncomputable def o58 (P : Params) : Obj := (.mk (.type "function") none (.func ⟨(Str.ofString "_wall"), (Str.ofString "_wall"), (fP (st 0)), (.stmts (fB (st 0))), (fS (st 0)), 3, [], .none, .none, .none, (.str (Str.ofString "__main__") 164), none, (.ref 20), .none, 0⟩) #[])
noncomputable def o59 (P : Params) : Obj := (.mk (.type "tuple") none (.seq #[(.type "Exception")] 0) #[])
noncomputable def o60 (P : Params) : Obj := (.mk (.type "builtin_function_or_method") none (.fields #[(.builtin "type.__prepare__"), (.type "type")]) #[])
noncomputable def o61 (P : Params) : Obj := (.mk (.type "dict") none (.dict #[(en P "__module__" 203 (.str (Str.ofString "alikeheap.errors") 194)), (en P "__qualname__" 205 (.str (Str.ofString "HeapError") 204)), (en P "__firstlineno__" 207 (.int 5 206)), (en P "__init__" 216 (.ref 37)), (en P "told" 223 (.ref 44)), (en P "__static_attributes__" 225 (.ref 45)), (en P "__classcell__" 226 (.ref 25))] 7) #[])
noncomputable def o62 (P : Params) : Obj := (.mk (.type "cell") none (.cell (some (.ref 47))) #[])
noncomputable def o63 (P : Params) : Obj := (.mk (.type "tuple") none (.seq #[] 0) #[])
noncomputable def o64 (P : Params) : Obj := (.mk .none none (.fields #[(.int 7 0), (.int 4 0), (.ref 36), (.int 11 0), (.int 4 0), (.ref 43)]) #[])
noncomputable def o65 (P : Params) : Obj := (.mk (.type "code") none (.fields #[(.str (Str.ofString "HeapError") 198), (.str (Str.ofString "HeapError") 199), (.str (Str.ofString "/claim/cut.py") 200), (.int 5 0), (.int 0 0), (.int 0 0), (.int 0 0), (.int 0 0), (.ref 26), (.bool false), (.int 181 0), (.ref 27), .none, .none, .none, .none, (.int 201 0), (.int 5 0), (.str (Str.ofString "/claim/cut.py") 202)]) #[])
noncomputable def o66 (P : Params) : Obj := (.mk (.type "frame") none .plain #[(some (.ref 28)), (some (.ref 3)), (some (.ref 24)), none, (some (.str (Str.ofString "alikeheap.errors") 194)), none, (some (.ref 0))])
noncomputable def o67 (P : Params) : Obj := (.mk (.type "tuple") none (.seq #[(.ref 25)] 0) #[])
noncomputable def o68 (P : Params) : Obj := (.mk (.type "tuple") none (.seq #[(.str (Str.ofString "__class__") 211)] 0) #[])
noncomputable def o69 (P : Params) : Obj := (.mk .none none (.fields #[]) #[])
noncomputable def o70 (P : Params) : Obj := (.mk (.type "tuple") none (.seq #[(.str (Str.ofString "self") 212), (.str (Str.ofString "what") 213)] 0) #[])
noncomputable def o71 (P : Params) : Obj := (.mk (.type "tuple") none (.seq #[] 0) #[])
noncomputable def o72 (P : Params) : Obj := (.mk .none none (.func ⟨(Str.ofString "__init__"), (Str.ofString "HeapError.__init__"), (fP (ms 2 0)), (.stmts (fB (ms 2 0))), (fS (ms 2 0)), 0, [], .none, .none, .none, .none, none, .none, .none, 0⟩) #[])
noncomputable def o73 (P : Params) : Obj := (.mk (.type "code") none (.fields #[(.str (Str.ofString "__init__") 208), (.str (Str.ofString "HeapError.__init__") 209), (.str (Str.ofString "/claim/cut.py") 210), (.int 7 0), (.int 2 0), (.int 0 0), (.int 0 0), (.int 3 0), (.ref 31), (.bool true), (.int 181 0), (.ref 32), .none, (.ref 33), (.ref 34), (.ref 35), (.int 214 0), (.int 7 0), (.str (Str.ofString "/claim/cut.py") 215)]) #[])
noncomputable def o74 (P : Params) : Obj := (.mk (.type "function") none (.func ⟨(Str.ofString "__init__"), (Str.ofString "HeapError.__init__"), (fP (ms 2 0)), (.stmts (fB (ms 2 0))), (fS (ms 2 0)), 3, [((Str.ofString "__class__"), 25)], .none, .none, .none, (.str (Str.ofString "alikeheap.errors") 194), none, (.ref 36), (.ref 30), 0⟩) #[])
noncomputable def o75 (P : Params) : Obj := (.mk (.type "tuple") none (.seq #[] 0) #[])
noncomputable def o76 (P : Params) : Obj := (.mk .none none (.fields #[]) #[])
noncomputable def o77 (P : Params) : Obj := (.mk (.type "tuple") none (.seq #[(.str (Str.ofString "self") 220)] 0) #[])
noncomputable def o78 (P : Params) : Obj := (.mk (.type "tuple") none (.seq #[] 0) #[])
noncomputable def o79 (P : Params) : Obj := (.mk .none none (.func ⟨(Str.ofString "told"), (Str.ofString "HeapError.told"), (fP (ms 2 1)), (.stmts (fB (ms 2 1))), (fS (ms 2 1)), 0, [], .none, .none, .none, .none, none, .none, .none, 0⟩) #[])
noncomputable def o80 (P : Params) : Obj := (.mk (.type "code") none (.fields #[(.str (Str.ofString "told") 217), (.str (Str.ofString "HeapError.told") 218), (.str (Str.ofString "/claim/cut.py") 219), (.int 11 0), (.int 1 0), (.int 0 0), (.int 0 0), (.int 3 0), (.ref 38), (.bool true), (.int 181 0), (.ref 39), .none, (.ref 40), (.ref 41), (.ref 42), (.int 221 0), (.int 11 0), (.str (Str.ofString "/claim/cut.py") 222)]) #[])
noncomputable def o81 (P : Params) : Obj := (.mk (.type "function") none (.func ⟨(Str.ofString "told"), (Str.ofString "HeapError.told"), (fP (ms 2 1)), (.stmts (fB (ms 2 1))), (fS (ms 2 1)), 3, [], .none, .none, .none, (.str (Str.ofString "alikeheap.errors") 194), none, (.ref 43), .none, 0⟩) #[])
noncomputable def o82 (P : Params) : Obj := (.mk (.type "tuple") none (.seq #[(.str (Str.ofString "what") 224)] 0) #[])
noncomputable def o83 (P : Params) : Obj := (.mk (.type "dict") none (.dict #[(en P "__module__" 203 (.str (Str.ofString "alikeheap.errors") 194)), (en P "__firstlineno__" 207 (.int 5 206)), (en P "__init__" 216 (.ref 37)), (en P "told" 223 (.ref 44)), (en P "__static_attributes__" 225 (.ref 45)), (en P "__weakref__" 228 (.ref 48)), (en P "__doc__" 229 .none)] 4) #[])
noncomputable def o84 (P : Params) : Obj := (.mk (.type "type") none (.cls (.mk (Str.ofString "HeapError") [(.type "Exception")] [(.ref 47), (.type "Exception"), (.type "BaseException"), (.type "object")] 46 (Str.ofString "HeapError") true [] [] false none false)) #[(some (.ref 22)), none, (some (.str (Str.ofString "HeapError") 196)), (some (.str (Str.ofString "HeapError") 204)), (some (.builtin "Exception.__new__")), (some (.bool true))])
noncomputable def o85 (P : Params) : Obj := (.mk (.type "getset_descriptor") none (.fields #[(.str (Str.ofString "__weakref__") 227), (.ref 47), (.builtin "ExceptionGroup.__weakref__"), .none]) #[])
noncomputable def o86 (P : Params) : Obj := (.mk (.type "super") none (.fields #[(.ref 47), (.ref 47), (.ref 47)]) #[])
noncomputable def o87 (P : Params) : Obj := (.mk (.type "builtin_function_or_method") none (.fields #[(.builtin "object.__init_subclass__"), (.ref 47)]) #[])
noncomputable def o88 (P : Params) : Obj := (.mk (.type "dict") none (.dict #[(en P "__name__" 165 (.str (Str.ofString "alikeheap.errors") 194)), (en P "__doc__" 166 .none), (en P "__package__" 167 .none), (en P "__loader__" 168 (.builtin "__main__.__loader__#opaque")), (en P "__spec__" 169 .none), (en P "__annotations__" 170 (.ref 6)), (en P "__builtins__" 171 (.ref 4)), (en P "__file__" 173 (.str (Str.ofString "/claim/cut.py") 172)), (en P "__cached__" 174 .none), (en P "_wall" 193 (.ref 21)), (en P "HeapError" 233 (.ref 47)), (en P "TermFault" 249 (.ref 60))] 12) #[])
noncomputable def o89 (P : Params) : Obj := (.mk .none none (.fields #[(.int 1 0), (.int 0 0), (.ref 20), (.int 5 0), (.int 0 0), (.ref 28), (.int 13 0), (.int 0 0), (.ref 56)]) #[])
noncomputable def o90 (P : Params) : Obj := (.mk (.type "type") none (.cls (.mk (Str.ofString "HeapError") [(.type "Exception")] [(.ref 47), (.type "Exception"), (.type "BaseException"), (.type "object")] 46 (Str.ofString "HeapError") true [] [(.ref 60)] false none false)) #[(some (.ref 22)), none, (some (.str (Str.ofString "HeapError") 196)), (some (.str (Str.ofString "HeapError") 204)), (some (.builtin "Exception.__new__")), (some (.bool true))])
noncomputable def o91 (P : Params) : Obj := (.mk (.type "tuple") none (.seq #[(.ref 47)] 0) #[])
noncomputable def o92 (P : Params) : Obj := (.mk (.type "builtin_function_or_method") none (.fields #[(.builtin "type.__prepare__"), (.type "type")]) #[])
noncomputable def o93 (P : Params) : Obj := (.mk (.type "dict") none (.dict #[(en P "__module__" 241 (.str (Str.ofString "alikeheap.errors") 194)), (en P "__qualname__" 243 (.str (Str.ofString "TermFault") 242)), (en P "__firstlineno__" 245 (.int 13 244)), (en P "__static_attributes__" 246 (.ref 58))] 4) #[])
noncomputable def o94 (P : Params) : Obj := (.mk (.type "tuple") none (.seq #[] 0) #[])
noncomputable def o95 (P : Params) : Obj := (.mk .none none (.fields #[]) #[])
noncomputable def o96 (P : Params) : Obj := (.mk (.type "code") none (.fields #[(.str (Str.ofString "TermFault") 236), (.str (Str.ofString "TermFault") 237), (.str (Str.ofString "/claim/cut.py") 238), (.int 13 0), (.int 0 0), (.int 0 0), (.int 0 0), (.int 0 0), (.ref 54), (.bool false), (.int 181 0), (.ref 55), .none, .none, .none, .none, (.int 239 0), (.int 13 0), (.str (Str.ofString "/claim/cut.py") 240)]) #[])
noncomputable def o97 (P : Params) : Obj := (.mk (.type "frame") none .plain #[(some (.ref 56)), (some (.ref 3)), (some (.ref 53)), none, (some (.str (Str.ofString "alikeheap.errors") 194)), none, (some (.ref 0))])
noncomputable def o98 (P : Params) : Obj := (.mk (.type "tuple") none (.seq #[] 0) #[])
noncomputable def o99 (P : Params) : Obj := (.mk (.type "dict") none (.dict #[(en P "__module__" 241 (.str (Str.ofString "alikeheap.errors") 194)), (en P "__firstlineno__" 245 (.int 13 244)), (en P "__static_attributes__" 246 (.ref 58)), (en P "__doc__" 247 .none)] 2) #[])
noncomputable def o100 (P : Params) : Obj := (.mk (.type "type") none (.cls (.mk (Str.ofString "TermFault") [(.ref 47)] [(.ref 60), (.ref 47), (.type "Exception"), (.type "BaseException"), (.type "object")] 59 (Str.ofString "TermFault") true [] [] false none false)) #[(some (.ref 51)), none, (some (.str (Str.ofString "TermFault") 234)), (some (.str (Str.ofString "TermFault") 242)), (some (.builtin "Exception.__new__")), (some (.bool true))])
noncomputable def o101 (P : Params) : Obj := (.mk (.type "super") none (.fields #[(.ref 60), (.ref 60), (.ref 60)]) #[])
noncomputable def o102 (P : Params) : Obj := (.mk (.type "builtin_function_or_method") none (.fields #[(.builtin "object.__init_subclass__"), (.ref 60)]) #[])
noncomputable def o103 (P : Params) : Obj := (.mk (.type "dict") none (.dict #[(en P "__name__" 165 (.str (Str.ofString "alikeheap.errors") 194)), (en P "__doc__" 166 .none), (en P "__package__" 167 .none), (en P "__loader__" 168 (.builtin "__main__.__loader__#opaque")), (en P "__spec__" 169 .none), (en P "__annotations__" 170 (.ref 6)), (en P "__builtins__" 171 (.ref 4)), (en P "__file__" 173 (.str (Str.ofString "/claim/cut.py") 172)), (en P "__cached__" 174 .none), (en P "_wall" 193 (.ref 21)), (en P "HeapError" 233 (.ref 47)), (en P "TermFault" 249 (.ref 60)), (en P "RuleFault" 265 (.ref 72))] 13) #[])
noncomputable def o104 (P : Params) : Obj := (.mk .none none (.fields #[(.int 1 0), (.int 0 0), (.ref 20), (.int 5 0), (.int 0 0), (.ref 28), (.int 13 0), (.int 0 0), (.ref 56), (.int 15 0), (.int 0 0), (.ref 68)]) #[])
noncomputable def o105 (P : Params) : Obj := (.mk (.type "type") none (.cls (.mk (Str.ofString "HeapError") [(.type "Exception")] [(.ref 47), (.type "Exception"), (.type "BaseException"), (.type "object")] 46 (Str.ofString "HeapError") true [] [(.ref 60), (.ref 72)] false none false)) #[(some (.ref 22)), none, (some (.str (Str.ofString "HeapError") 196)), (some (.str (Str.ofString "HeapError") 204)), (some (.builtin "Exception.__new__")), (some (.bool true))])
noncomputable def o106 (P : Params) : Obj := (.mk (.type "tuple") none (.seq #[(.ref 47)] 0) #[])
noncomputable def o107 (P : Params) : Obj := (.mk (.type "builtin_function_or_method") none (.fields #[(.builtin "type.__prepare__"), (.type "type")]) #[])
noncomputable def o108 (P : Params) : Obj := (.mk (.type "dict") none (.dict #[(en P "__module__" 257 (.str (Str.ofString "alikeheap.errors") 194)), (en P "__qualname__" 259 (.str (Str.ofString "RuleFault") 258)), (en P "__firstlineno__" 261 (.int 15 260)), (en P "__static_attributes__" 262 (.ref 70))] 4) #[])
noncomputable def o109 (P : Params) : Obj := (.mk (.type "tuple") none (.seq #[] 0) #[])
noncomputable def o110 (P : Params) : Obj := (.mk .none none (.fields #[]) #[])
noncomputable def o111 (P : Params) : Obj := (.mk (.type "code") none (.fields #[(.str (Str.ofString "RuleFault") 252), (.str (Str.ofString "RuleFault") 253), (.str (Str.ofString "/claim/cut.py") 254), (.int 15 0), (.int 0 0), (.int 0 0), (.int 0 0), (.int 0 0), (.ref 66), (.bool false), (.int 181 0), (.ref 67), .none, .none, .none, .none, (.int 255 0), (.int 15 0), (.str (Str.ofString "/claim/cut.py") 256)]) #[])
noncomputable def o112 (P : Params) : Obj := (.mk (.type "frame") none .plain #[(some (.ref 68)), (some (.ref 3)), (some (.ref 65)), none, (some (.str (Str.ofString "alikeheap.errors") 194)), none, (some (.ref 0))])
noncomputable def o113 (P : Params) : Obj := (.mk (.type "tuple") none (.seq #[] 0) #[])
noncomputable def o114 (P : Params) : Obj := (.mk (.type "dict") none (.dict #[(en P "__module__" 257 (.str (Str.ofString "alikeheap.errors") 194)), (en P "__firstlineno__" 261 (.int 15 260)), (en P "__static_attributes__" 262 (.ref 70)), (en P "__doc__" 263 .none)] 2) #[])
noncomputable def o115 (P : Params) : Obj := (.mk (.type "type") none (.cls (.mk (Str.ofString "RuleFault") [(.ref 47)] [(.ref 72), (.ref 47), (.type "Exception"), (.type "BaseException"), (.type "object")] 71 (Str.ofString "RuleFault") true [] [] false none false)) #[(some (.ref 63)), none, (some (.str (Str.ofString "RuleFault") 250)), (some (.str (Str.ofString "RuleFault") 258)), (some (.builtin "Exception.__new__")), (some (.bool true))])
noncomputable def o116 (P : Params) : Obj := (.mk (.type "super") none (.fields #[(.ref 72), (.ref 72), (.ref 72)]) #[])
noncomputable def o117 (P : Params) : Obj := (.mk (.type "builtin_function_or_method") none (.fields #[(.builtin "object.__init_subclass__"), (.ref 72)]) #[])
noncomputable def o118 (P : Params) : Obj := (.mk (.type "dict") none (.dict #[(en P "__name__" 165 (.str (Str.ofString "alikeheap.terms") 301)), (en P "__doc__" 166 .none), (en P "__package__" 167 .none), (en P "__loader__" 168 (.builtin "__main__.__loader__#opaque")), (en P "__spec__" 169 .none), (en P "__annotations__" 170 (.ref 6)), (en P "__builtins__" 171 (.ref 4)), (en P "__file__" 173 (.str (Str.ofString "/claim/cut.py") 172)), (en P "__cached__" 174 .none), (en P "_wall" 193 (.ref 21)), (en P "HeapError" 233 (.ref 47)), (en P "TermFault" 249 (.ref 60)), (en P "RuleFault" 265 (.ref 72)), (en P "PaperFault" 300 (.ref 100)), (en P "is_variable" 309 (.ref 109)), (en P "variables" 315 (.ref 114)), (en P "placed" 321 (.ref 119))] 17) #[])
noncomputable def o119 (P : Params) : Obj := (.mk .none none (.fields #[(.int 1 0), (.int 0 0), (.ref 20), (.int 5 0), (.int 0 0), (.ref 28), (.int 13 0), (.int 0 0), (.ref 56), (.int 15 0), (.int 0 0), (.ref 68), (.int 17 0), (.int 0 0), (.ref 81), (.int 26 0), (.int 0 0), (.ref 108), (.int 28 0), (.int 0 0), (.ref 113), (.int 30 0), (.int 0 0), (.ref 118)]) #[])
noncomputable def o120 (P : Params) : Obj := (.mk (.type "type") none (.cls (.mk (Str.ofString "HeapError") [(.type "Exception")] [(.ref 47), (.type "Exception"), (.type "BaseException"), (.type "object")] 46 (Str.ofString "HeapError") true [] [(.ref 60), (.ref 72), (.ref 100)] false none false)) #[(some (.ref 22)), none, (some (.str (Str.ofString "HeapError") 196)), (some (.str (Str.ofString "HeapError") 204)), (some (.builtin "Exception.__new__")), (some (.bool true))])
noncomputable def o121 (P : Params) : Obj := (.mk (.type "tuple") none (.seq #[(.ref 47)] 0) #[])
noncomputable def o122 (P : Params) : Obj := (.mk (.type "builtin_function_or_method") none (.fields #[(.builtin "type.__prepare__"), (.type "type")]) #[])
noncomputable def o123 (P : Params) : Obj := (.mk (.type "dict") none (.dict #[(en P "__module__" 273 (.str (Str.ofString "alikeheap.errors") 194)), (en P "__qualname__" 275 (.str (Str.ofString "PaperFault") 274)), (en P "__firstlineno__" 277 (.int 17 276)), (en P "__init__" 287 (.ref 90)), (en P "told" 294 (.ref 97)), (en P "__static_attributes__" 296 (.ref 98)), (en P "__classcell__" 297 (.ref 78))] 7) #[])
noncomputable def o124 (P : Params) : Obj := (.mk (.type "cell") none (.cell (some (.ref 100))) #[])
noncomputable def o125 (P : Params) : Obj := (.mk (.type "tuple") none (.seq #[] 0) #[])
noncomputable def o126 (P : Params) : Obj := (.mk .none none (.fields #[(.int 19 0), (.int 4 0), (.ref 89), (.int 23 0), (.int 4 0), (.ref 96)]) #[])
noncomputable def o127 (P : Params) : Obj := (.mk (.type "code") none (.fields #[(.str (Str.ofString "PaperFault") 268), (.str (Str.ofString "PaperFault") 269), (.str (Str.ofString "/claim/cut.py") 270), (.int 17 0), (.int 0 0), (.int 0 0), (.int 0 0), (.int 0 0), (.ref 79), (.bool false), (.int 181 0), (.ref 80), .none, .none, .none, .none, (.int 271 0), (.int 17 0), (.str (Str.ofString "/claim/cut.py") 272)]) #[])
noncomputable def o128 (P : Params) : Obj := (.mk (.type "frame") none .plain #[(some (.ref 81)), (some (.ref 3)), (some (.ref 77)), none, (some (.str (Str.ofString "alikeheap.errors") 194)), none, (some (.ref 0))])
noncomputable def o129 (P : Params) : Obj := (.mk (.type "tuple") none (.seq #[(.ref 78)] 0) #[])
noncomputable def o130 (P : Params) : Obj := (.mk (.type "tuple") none (.seq #[(.str (Str.ofString "__class__") 281)] 0) #[])
noncomputable def o131 (P : Params) : Obj := (.mk .none none (.fields #[]) #[])
noncomputable def o132 (P : Params) : Obj := (.mk (.type "tuple") none (.seq #[(.str (Str.ofString "self") 282), (.str (Str.ofString "what") 283), (.str (Str.ofString "place") 284)] 0) #[])
noncomputable def o133 (P : Params) : Obj := (.mk (.type "tuple") none (.seq #[] 0) #[])
noncomputable def o134 (P : Params) : Obj := (.mk .none none (.func ⟨(Str.ofString "__init__"), (Str.ofString "PaperFault.__init__"), (fP (ms 5 0)), (.stmts (fB (ms 5 0))), (fS (ms 5 0)), 0, [], .none, .none, .none, .none, none, .none, .none, 0⟩) #[])
noncomputable def o135 (P : Params) : Obj := (.mk (.type "code") none (.fields #[(.str (Str.ofString "__init__") 278), (.str (Str.ofString "PaperFault.__init__") 279), (.str (Str.ofString "/claim/cut.py") 280), (.int 19 0), (.int 3 0), (.int 0 0), (.int 0 0), (.int 3 0), (.ref 84), (.bool true), (.int 181 0), (.ref 85), .none, (.ref 86), (.ref 87), (.ref 88), (.int 285 0), (.int 19 0), (.str (Str.ofString "/claim/cut.py") 286)]) #[])
noncomputable def o136 (P : Params) : Obj := (.mk (.type "function") none (.func ⟨(Str.ofString "__init__"), (Str.ofString "PaperFault.__init__"), (fP (ms 5 0)), (.stmts (fB (ms 5 0))), (fS (ms 5 0)), 3, [((Str.ofString "__class__"), 78)], .none, .none, .none, (.str (Str.ofString "alikeheap.errors") 194), none, (.ref 89), (.ref 83), 0⟩) #[])
noncomputable def o137 (P : Params) : Obj := (.mk (.type "tuple") none (.seq #[] 0) #[])
noncomputable def o138 (P : Params) : Obj := (.mk .none none (.fields #[]) #[])
noncomputable def o139 (P : Params) : Obj := (.mk (.type "tuple") none (.seq #[(.str (Str.ofString "self") 291)] 0) #[])
noncomputable def o140 (P : Params) : Obj := (.mk (.type "tuple") none (.seq #[] 0) #[])
noncomputable def o141 (P : Params) : Obj := (.mk .none none (.func ⟨(Str.ofString "told"), (Str.ofString "PaperFault.told"), (fP (ms 5 1)), (.stmts (fB (ms 5 1))), (fS (ms 5 1)), 0, [], .none, .none, .none, .none, none, .none, .none, 0⟩) #[])
noncomputable def o142 (P : Params) : Obj := (.mk (.type "code") none (.fields #[(.str (Str.ofString "told") 288), (.str (Str.ofString "PaperFault.told") 289), (.str (Str.ofString "/claim/cut.py") 290), (.int 23 0), (.int 1 0), (.int 0 0), (.int 0 0), (.int 3 0), (.ref 91), (.bool true), (.int 181 0), (.ref 92), .none, (.ref 93), (.ref 94), (.ref 95), (.int 292 0), (.int 23 0), (.str (Str.ofString "/claim/cut.py") 293)]) #[])
noncomputable def o143 (P : Params) : Obj := (.mk (.type "function") none (.func ⟨(Str.ofString "told"), (Str.ofString "PaperFault.told"), (fP (ms 5 1)), (.stmts (fB (ms 5 1))), (fS (ms 5 1)), 3, [], .none, .none, .none, (.str (Str.ofString "alikeheap.errors") 194), none, (.ref 96), .none, 0⟩) #[])
noncomputable def o144 (P : Params) : Obj := (.mk (.type "tuple") none (.seq #[(.str (Str.ofString "place") 295)] 0) #[])
noncomputable def o145 (P : Params) : Obj := (.mk (.type "dict") none (.dict #[(en P "__module__" 273 (.str (Str.ofString "alikeheap.errors") 194)), (en P "__firstlineno__" 277 (.int 17 276)), (en P "__init__" 287 (.ref 90)), (en P "told" 294 (.ref 97)), (en P "__static_attributes__" 296 (.ref 98)), (en P "__doc__" 298 .none)] 3) #[])
noncomputable def o146 (P : Params) : Obj := (.mk (.type "type") none (.cls (.mk (Str.ofString "PaperFault") [(.ref 47)] [(.ref 100), (.ref 47), (.type "Exception"), (.type "BaseException"), (.type "object")] 99 (Str.ofString "PaperFault") true [] [] false none false)) #[(some (.ref 75)), none, (some (.str (Str.ofString "PaperFault") 266)), (some (.str (Str.ofString "PaperFault") 274)), (some (.builtin "Exception.__new__")), (some (.bool true))])
noncomputable def o147 (P : Params) : Obj := (.mk (.type "super") none (.fields #[(.ref 100), (.ref 100), (.ref 100)]) #[])
noncomputable def o148 (P : Params) : Obj := (.mk (.type "builtin_function_or_method") none (.fields #[(.builtin "object.__init_subclass__"), (.ref 100)]) #[])
noncomputable def o149 (P : Params) : Obj := (.mk (.type "tuple") none (.seq #[] 0) #[])
noncomputable def o150 (P : Params) : Obj := (.mk .none none (.fields #[]) #[])
noncomputable def o151 (P : Params) : Obj := (.mk (.type "tuple") none (.seq #[(.str (Str.ofString "t") 306)] 0) #[])
noncomputable def o152 (P : Params) : Obj := (.mk (.type "tuple") none (.seq #[] 0) #[])
noncomputable def o153 (P : Params) : Obj := (.mk .none none (.func ⟨(Str.ofString "is_variable"), (Str.ofString "is_variable"), (fP (st 7)), (.stmts (fB (st 7))), (fS (st 7)), 0, [], .none, .none, .none, .none, none, .none, .none, 0⟩) #[])
noncomputable def o154 (P : Params) : Obj := (.mk (.type "code") none (.fields #[(.str (Str.ofString "is_variable") 303), (.str (Str.ofString "is_variable") 304), (.str (Str.ofString "/claim/cut.py") 305), (.int 26 0), (.int 1 0), (.int 0 0), (.int 0 0), (.int 3 0), (.ref 103), (.bool true), (.int 181 0), (.ref 104), .none, (.ref 105), (.ref 106), (.ref 107), (.int 307 0), (.int 26 0), (.str (Str.ofString "/claim/cut.py") 308)]) #[])
noncomputable def o155 (P : Params) : Obj := (.mk (.type "function") none (.func ⟨(Str.ofString "is_variable"), (Str.ofString "is_variable"), (fP (st 7)), (.stmts (fB (st 7))), (fS (st 7)), 3, [], .none, .none, .none, (.str (Str.ofString "alikeheap.terms") 301), none, (.ref 108), .none, 0⟩) #[])
noncomputable def o156 (P : Params) : Obj := (.mk (.type "tuple") none (.seq #[] 0) #[])
noncomputable def o157 (P : Params) : Obj := (.mk .none none (.fields #[]) #[])
noncomputable def o158 (P : Params) : Obj := (.mk .none none (.func ⟨(Str.ofString "variables"), (Str.ofString "variables"), (fP (st 8)), (.stmts (fB (st 8))), (fS (st 8)), 0, [], .none, .none, .none, .none, none, .none, .none, 0⟩) #[])
noncomputable def o159 (P : Params) : Obj := (.mk (.type "code") none (.fields #[(.str (Str.ofString "variables") 310), (.str (Str.ofString "variables") 311), (.str (Str.ofString "/claim/cut.py") 312), (.int 28 0), (.int 1 0), (.int 0 0), (.int 0 0), (.int 3 0), (.ref 110), (.bool true), (.int 181 0), (.ref 111), .none, .none, .none, (.ref 112), (.int 313 0), (.int 28 0), (.str (Str.ofString "/claim/cut.py") 314)]) #[])
noncomputable def o160 (P : Params) : Obj := (.mk (.type "function") none (.func ⟨(Str.ofString "variables"), (Str.ofString "variables"), (fP (st 8)), (.stmts (fB (st 8))), (fS (st 8)), 3, [], .none, .none, .none, (.str (Str.ofString "alikeheap.terms") 301), none, (.ref 113), .none, 0⟩) #[])
noncomputable def o161 (P : Params) : Obj := (.mk (.type "tuple") none (.seq #[] 0) #[])
noncomputable def o162 (P : Params) : Obj := (.mk .none none (.fields #[]) #[])
noncomputable def o163 (P : Params) : Obj := (.mk .none none (.func ⟨(Str.ofString "placed"), (Str.ofString "placed"), (fP (st 9)), (.stmts (fB (st 9))), (fS (st 9)), 0, [], .none, .none, .none, .none, none, .none, .none, 0⟩) #[])
noncomputable def o164 (P : Params) : Obj := (.mk (.type "code") none (.fields #[(.str (Str.ofString "placed") 316), (.str (Str.ofString "placed") 317), (.str (Str.ofString "/claim/cut.py") 318), (.int 30 0), (.int 2 0), (.int 0 0), (.int 0 0), (.int 3 0), (.ref 115), (.bool true), (.int 181 0), (.ref 116), .none, .none, .none, (.ref 117), (.int 319 0), (.int 30 0), (.str (Str.ofString "/claim/cut.py") 320)]) #[])
noncomputable def o165 (P : Params) : Obj := (.mk (.type "function") none (.func ⟨(Str.ofString "placed"), (Str.ofString "placed"), (fP (st 9)), (.stmts (fB (st 9))), (fS (st 9)), 3, [], .none, .none, .none, (.str (Str.ofString "alikeheap.terms") 301), none, (.ref 118), .none, 0⟩) #[])
noncomputable def o166 (P : Params) : Obj := (.mk (.type "dict") none (.dict #[(en P "__name__" 165 (.str (Str.ofString "alikeheap.papers") 347)), (en P "__doc__" 166 .none), (en P "__package__" 167 .none), (en P "__loader__" 168 (.builtin "__main__.__loader__#opaque")), (en P "__spec__" 169 .none), (en P "__annotations__" 170 (.ref 6)), (en P "__builtins__" 171 (.ref 4)), (en P "__file__" 173 (.str (Str.ofString "/claim/cut.py") 172)), (en P "__cached__" 174 .none), (en P "_wall" 193 (.ref 21)), (en P "HeapError" 233 (.ref 47)), (en P "TermFault" 249 (.ref 60)), (en P "RuleFault" 265 (.ref 72)), (en P "PaperFault" 300 (.ref 100)), (en P "is_variable" 309 (.ref 109)), (en P "variables" 315 (.ref 114)), (en P "placed" 321 (.ref 119)), (en P "parts" 327 (.ref 124)), (en P "part_at" 336 (.ref 131)), (en P "replaced" 346 (.ref 138)), (en P "parts_of" 355 (.ref 145)), (en P "is_plain_term" 364 (.ref 152)), (en P "are_places" 370 (.ref 157)), (en P "has_form" 379 (.ref 164)), (en P "in_order" 385 (.ref 169)), (en P "want_form" 393 (.ref 176))] 26) #[])
noncomputable def o167 (P : Params) : Obj := (.mk .none none (.fields #[(.int 1 0), (.int 0 0), (.ref 20), (.int 5 0), (.int 0 0), (.ref 28), (.int 13 0), (.int 0 0), (.ref 56), (.int 15 0), (.int 0 0), (.ref 68), (.int 17 0), (.int 0 0), (.ref 81), (.int 26 0), (.int 0 0), (.ref 108), (.int 28 0), (.int 0 0), (.ref 113), (.int 30 0), (.int 0 0), (.ref 118), (.int 36 0), (.int 0 0), (.ref 123), (.int 41 0), (.int 0 0), (.ref 130), (.int 47 0), (.int 0 0), (.ref 137), (.int 53 0), (.int 0 0), (.ref 144), (.int 57 0), (.int 0 0), (.ref 151), (.int 65 0), (.int 0 0), (.ref 156), (.int 72 0), (.int 0 0), (.ref 163), (.int 85 0), (.int 0 0), (.ref 168), (.int 94 0), (.int 0 0), (.ref 175)]) #[])
noncomputable def o168 (P : Params) : Obj := (.mk (.type "tuple") none (.seq #[] 0) #[])
noncomputable def o169 (P : Params) : Obj := (.mk .none none (.fields #[]) #[])
noncomputable def o170 (P : Params) : Obj := (.mk .none none (.func ⟨(Str.ofString "parts"), (Str.ofString "parts"), (fP (st 10)), (.stmts (fB (st 10))), (fS (st 10)), 0, [], .none, .none, .none, .none, none, .none, .none, 0⟩) #[])
noncomputable def o171 (P : Params) : Obj := (.mk (.type "code") none (.fields #[(.str (Str.ofString "parts") 322), (.str (Str.ofString "parts") 323), (.str (Str.ofString "/claim/cut.py") 324), (.int 36 0), (.int 1 0), (.int 0 0), (.int 0 0), (.int 3 0), (.ref 120), (.bool true), (.int 181 0), (.ref 121), .none, .none, .none, (.ref 122), (.int 325 0), (.int 36 0), (.str (Str.ofString "/claim/cut.py") 326)]) #[])
noncomputable def o172 (P : Params) : Obj := (.mk (.type "function") none (.func ⟨(Str.ofString "parts"), (Str.ofString "parts"), (fP (st 10)), (.stmts (fB (st 10))), (fS (st 10)), 3, [], .none, .none, .none, (.str (Str.ofString "alikeheap.terms") 301), none, (.ref 123), .none, 0⟩) #[])
noncomputable def o173 (P : Params) : Obj := (.mk (.type "tuple") none (.seq #[] 0) #[])
noncomputable def o174 (P : Params) : Obj := (.mk .none none (.fields #[]) #[])
noncomputable def o175 (P : Params) : Obj := (.mk (.type "tuple") none (.seq #[(.str (Str.ofString "t") 331), (.str (Str.ofString "path") 332), (.str (Str.ofString "k") 333)] 0) #[])
noncomputable def o176 (P : Params) : Obj := (.mk (.type "tuple") none (.seq #[] 0) #[])
noncomputable def o177 (P : Params) : Obj := (.mk .none none (.func ⟨(Str.ofString "part_at"), (Str.ofString "part_at"), (fP (st 11)), (.stmts (fB (st 11))), (fS (st 11)), 0, [], .none, .none, .none, .none, none, .none, .none, 0⟩) #[])
noncomputable def o178 (P : Params) : Obj := (.mk (.type "code") none (.fields #[(.str (Str.ofString "part_at") 328), (.str (Str.ofString "part_at") 329), (.str (Str.ofString "/claim/cut.py") 330), (.int 41 0), (.int 2 0), (.int 0 0), (.int 0 0), (.int 3 0), (.ref 125), (.bool true), (.int 181 0), (.ref 126), .none, (.ref 127), (.ref 128), (.ref 129), (.int 334 0), (.int 41 0), (.str (Str.ofString "/claim/cut.py") 335)]) #[])
noncomputable def o179 (P : Params) : Obj := (.mk (.type "function") none (.func ⟨(Str.ofString "part_at"), (Str.ofString "part_at"), (fP (st 11)), (.stmts (fB (st 11))), (fS (st 11)), 3, [], .none, .none, .none, (.str (Str.ofString "alikeheap.terms") 301), none, (.ref 130), .none, 0⟩) #[])
noncomputable def o180 (P : Params) : Obj := (.mk (.type "tuple") none (.seq #[] 0) #[])
noncomputable def o181 (P : Params) : Obj := (.mk .none none (.fields #[]) #[])
noncomputable def o182 (P : Params) : Obj := (.mk (.type "tuple") none (.seq #[(.str (Str.ofString "t") 340), (.str (Str.ofString "path") 341), (.str (Str.ofString "u") 342), (.str (Str.ofString "kid") 343)] 0) #[])
noncomputable def o183 (P : Params) : Obj := (.mk (.type "tuple") none (.seq #[] 0) #[])
noncomputable def o184 (P : Params) : Obj := (.mk .none none (.func ⟨(Str.ofString "replaced"), (Str.ofString "replaced"), (fP (st 12)), (.stmts (fB (st 12))), (fS (st 12)), 0, [], .none, .none, .none, .none, none, .none, .none, 0⟩) #[])
noncomputable def o185 (P : Params) : Obj := (.mk (.type "code") none (.fields #[(.str (Str.ofString "replaced") 337), (.str (Str.ofString "replaced") 338), (.str (Str.ofString "/claim/cut.py") 339), (.int 47 0), (.int 3 0), (.int 0 0), (.int 0 0), (.int 3 0), (.ref 132), (.bool true), (.int 181 0), (.ref 133), .none, (.ref 134), (.ref 135), (.ref 136), (.int 344 0), (.int 47 0), (.str (Str.ofString "/claim/cut.py") 345)]) #[])
noncomputable def o186 (P : Params) : Obj := (.mk (.type "function") none (.func ⟨(Str.ofString "replaced"), (Str.ofString "replaced"), (fP (st 12)), (.stmts (fB (st 12))), (fS (st 12)), 3, [], .none, .none, .none, (.str (Str.ofString "alikeheap.terms") 301), none, (.ref 137), .none, 0⟩) #[])
noncomputable def o187 (P : Params) : Obj := (.mk (.type "tuple") none (.seq #[] 0) #[])
noncomputable def o188 (P : Params) : Obj := (.mk .none none (.fields #[]) #[])
noncomputable def o189 (P : Params) : Obj := (.mk (.type "tuple") none (.seq #[(.str (Str.ofString "paper") 352)] 0) #[])
noncomputable def o190 (P : Params) : Obj := (.mk (.type "tuple") none (.seq #[] 0) #[])
noncomputable def o191 (P : Params) : Obj := (.mk .none none (.func ⟨(Str.ofString "parts_of"), (Str.ofString "parts_of"), (fP (st 14)), (.stmts (fB (st 14))), (fS (st 14)), 0, [], .none, .none, .none, .none, none, .none, .none, 0⟩) #[])
noncomputable def o192 (P : Params) : Obj := (.mk (.type "code") none (.fields #[(.str (Str.ofString "parts_of") 349), (.str (Str.ofString "parts_of") 350), (.str (Str.ofString "/claim/cut.py") 351), (.int 53 0), (.int 1 0), (.int 0 0), (.int 0 0), (.int 3 0), (.ref 139), (.bool true), (.int 181 0), (.ref 140), .none, (.ref 141), (.ref 142), (.ref 143), (.int 353 0), (.int 53 0), (.str (Str.ofString "/claim/cut.py") 354)]) #[])
noncomputable def o193 (P : Params) : Obj := (.mk (.type "function") none (.func ⟨(Str.ofString "parts_of"), (Str.ofString "parts_of"), (fP (st 14)), (.stmts (fB (st 14))), (fS (st 14)), 3, [], .none, .none, .none, (.str (Str.ofString "alikeheap.papers") 347), none, (.ref 144), .none, 0⟩) #[])
noncomputable def o194 (P : Params) : Obj := (.mk (.type "tuple") none (.seq #[] 0) #[])
noncomputable def o195 (P : Params) : Obj := (.mk .none none (.fields #[]) #[])
noncomputable def o196 (P : Params) : Obj := (.mk (.type "tuple") none (.seq #[(.str (Str.ofString "thing") 359), (.str (Str.ofString "waiting") 360), (.str (Str.ofString "one") 361)] 0) #[])
noncomputable def o197 (P : Params) : Obj := (.mk (.type "tuple") none (.seq #[] 0) #[])
noncomputable def o198 (P : Params) : Obj := (.mk .none none (.func ⟨(Str.ofString "is_plain_term"), (Str.ofString "is_plain_term"), (fP (st 15)), (.stmts (fB (st 15))), (fS (st 15)), 0, [], .none, .none, .none, .none, none, .none, .none, 0⟩) #[])
noncomputable def o199 (P : Params) : Obj := (.mk (.type "code") none (.fields #[(.str (Str.ofString "is_plain_term") 356), (.str (Str.ofString "is_plain_term") 357), (.str (Str.ofString "/claim/cut.py") 358), (.int 57 0), (.int 1 0), (.int 0 0), (.int 0 0), (.int 3 0), (.ref 146), (.bool true), (.int 181 0), (.ref 147), .none, (.ref 148), (.ref 149), (.ref 150), (.int 362 0), (.int 57 0), (.str (Str.ofString "/claim/cut.py") 363)]) #[])
noncomputable def o200 (P : Params) : Obj := (.mk (.type "function") none (.func ⟨(Str.ofString "is_plain_term"), (Str.ofString "is_plain_term"), (fP (st 15)), (.stmts (fB (st 15))), (fS (st 15)), 3, [], .none, .none, .none, (.str (Str.ofString "alikeheap.papers") 347), none, (.ref 151), .none, 0⟩) #[])
noncomputable def o201 (P : Params) : Obj := (.mk (.type "tuple") none (.seq #[] 0) #[])
noncomputable def o202 (P : Params) : Obj := (.mk .none none (.fields #[]) #[])
noncomputable def o203 (P : Params) : Obj := (.mk .none none (.func ⟨(Str.ofString "are_places"), (Str.ofString "are_places"), (fP (st 16)), (.stmts (fB (st 16))), (fS (st 16)), 0, [], .none, .none, .none, .none, none, .none, .none, 0⟩) #[])
noncomputable def o204 (P : Params) : Obj := (.mk (.type "code") none (.fields #[(.str (Str.ofString "are_places") 365), (.str (Str.ofString "are_places") 366), (.str (Str.ofString "/claim/cut.py") 367), (.int 65 0), (.int 1 0), (.int 0 0), (.int 0 0), (.int 3 0), (.ref 153), (.bool true), (.int 181 0), (.ref 154), .none, .none, .none, (.ref 155), (.int 368 0), (.int 65 0), (.str (Str.ofString "/claim/cut.py") 369)]) #[])
noncomputable def o205 (P : Params) : Obj := (.mk (.type "function") none (.func ⟨(Str.ofString "are_places"), (Str.ofString "are_places"), (fP (st 16)), (.stmts (fB (st 16))), (fS (st 16)), 3, [], .none, .none, .none, (.str (Str.ofString "alikeheap.papers") 347), none, (.ref 156), .none, 0⟩) #[])
noncomputable def o206 (P : Params) : Obj := (.mk (.type "tuple") none (.seq #[] 0) #[])
noncomputable def o207 (P : Params) : Obj := (.mk .none none (.fields #[]) #[])
noncomputable def o208 (P : Params) : Obj := (.mk (.type "tuple") none (.seq #[(.str (Str.ofString "thing") 374), (.str (Str.ofString "kind") 375), (.str (Str.ofString "many") 376)] 0) #[])
noncomputable def o209 (P : Params) : Obj := (.mk (.type "tuple") none (.seq #[] 0) #[])
noncomputable def o210 (P : Params) : Obj := (.mk .none none (.func ⟨(Str.ofString "has_form"), (Str.ofString "has_form"), (fP (st 17)), (.stmts (fB (st 17))), (fS (st 17)), 0, [], .none, .none, .none, .none, none, .none, .none, 0⟩) #[])
noncomputable def o211 (P : Params) : Obj := (.mk (.type "code") none (.fields #[(.str (Str.ofString "has_form") 371), (.str (Str.ofString "has_form") 372), (.str (Str.ofString "/claim/cut.py") 373), (.int 72 0), (.int 1 0), (.int 0 0), (.int 0 0), (.int 3 0), (.ref 158), (.bool true), (.int 181 0), (.ref 159), .none, (.ref 160), (.ref 161), (.ref 162), (.int 377 0), (.int 72 0), (.str (Str.ofString "/claim/cut.py") 378)]) #[])
noncomputable def o212 (P : Params) : Obj := (.mk (.type "function") none (.func ⟨(Str.ofString "has_form"), (Str.ofString "has_form"), (fP (st 17)), (.stmts (fB (st 17))), (fS (st 17)), 3, [], .none, .none, .none, (.str (Str.ofString "alikeheap.papers") 347), none, (.ref 163), .none, 0⟩) #[])
noncomputable def o213 (P : Params) : Obj := (.mk (.type "tuple") none (.seq #[] 0) #[])
noncomputable def o214 (P : Params) : Obj := (.mk .none none (.fields #[]) #[])
noncomputable def o215 (P : Params) : Obj := (.mk .none none (.func ⟨(Str.ofString "in_order"), (Str.ofString "in_order"), (fP (st 18)), (.stmts (fB (st 18))), (fS (st 18)), 0, [], .none, .none, .none, .none, none, .none, .none, 0⟩) #[])
noncomputable def o216 (P : Params) : Obj := (.mk (.type "code") none (.fields #[(.str (Str.ofString "in_order") 380), (.str (Str.ofString "in_order") 381), (.str (Str.ofString "/claim/cut.py") 382), (.int 85 0), (.int 1 0), (.int 0 0), (.int 0 0), (.int 3 0), (.ref 165), (.bool true), (.int 181 0), (.ref 166), .none, .none, .none, (.ref 167), (.int 383 0), (.int 85 0), (.str (Str.ofString "/claim/cut.py") 384)]) #[])
noncomputable def o217 (P : Params) : Obj := (.mk (.type "function") none (.func ⟨(Str.ofString "in_order"), (Str.ofString "in_order"), (fP (st 18)), (.stmts (fB (st 18))), (fS (st 18)), 3, [], .none, .none, .none, (.str (Str.ofString "alikeheap.papers") 347), none, (.ref 168), .none, 0⟩) #[])
noncomputable def o218 (P : Params) : Obj := (.mk (.type "tuple") none (.seq #[] 0) #[])
noncomputable def o219 (P : Params) : Obj := (.mk .none none (.fields #[]) #[])
noncomputable def o220 (P : Params) : Obj := (.mk (.type "tuple") none (.seq #[(.str (Str.ofString "paper") 389), (.str (Str.ofString "path") 390)] 0) #[])
noncomputable def o221 (P : Params) : Obj := (.mk (.type "tuple") none (.seq #[] 0) #[])
noncomputable def o222 (P : Params) : Obj := (.mk .none none (.func ⟨(Str.ofString "want_form"), (Str.ofString "want_form"), (fP (st 19)), (.stmts (fB (st 19))), (fS (st 19)), 0, [], .none, .none, .none, .none, none, .none, .none, 0⟩) #[])
noncomputable def o223 (P : Params) : Obj := (.mk (.type "code") none (.fields #[(.str (Str.ofString "want_form") 386), (.str (Str.ofString "want_form") 387), (.str (Str.ofString "/claim/cut.py") 388), (.int 94 0), (.int 2 0), (.int 0 0), (.int 0 0), (.int 3 0), (.ref 170), (.bool true), (.int 181 0), (.ref 171), .none, (.ref 172), (.ref 173), (.ref 174), (.int 391 0), (.int 94 0), (.str (Str.ofString "/claim/cut.py") 392)]) #[])
noncomputable def o224 (P : Params) : Obj := (.mk (.type "function") none (.func ⟨(Str.ofString "want_form"), (Str.ofString "want_form"), (fP (st 19)), (.stmts (fB (st 19))), (fS (st 19)), 3, [], .none, .none, .none, (.str (Str.ofString "alikeheap.papers") 347), none, (.ref 175), .none, 0⟩) #[])
noncomputable def o225 (P : Params) : Obj := (.mk (.type "dict") none (.dict #[(en P "__name__" 165 (.str (Str.ofString "alikeheap.papers") 347)), (en P "__doc__" 166 .none), (en P "__package__" 167 .none), (en P "__loader__" 168 (.builtin "__main__.__loader__#opaque")), (en P "__spec__" 169 .none), (en P "__annotations__" 170 (.ref 6)), (en P "__builtins__" 171 (.ref 4)), (en P "__file__" 173 (.str (Str.ofString "/claim/cut.py") 172)), (en P "__cached__" 174 .none), (en P "_wall" 193 (.ref 21)), (en P "HeapError" 233 (.ref 47)), (en P "TermFault" 249 (.ref 60)), (en P "RuleFault" 265 (.ref 72)), (en P "PaperFault" 300 (.ref 100)), (en P "is_variable" 309 (.ref 109)), (en P "variables" 315 (.ref 114)), (en P "placed" 321 (.ref 119)), (en P "parts" 327 (.ref 124)), (en P "part_at" 336 (.ref 131)), (en P "replaced" 346 (.ref 138)), (en P "parts_of" 355 (.ref 145)), (en P "is_plain_term" 364 (.ref 152)), (en P "are_places" 370 (.ref 157)), (en P "has_form" 379 (.ref 164)), (en P "in_order" 385 (.ref 169)), (en P "want_form" 393 (.ref 176)), (en P "Judge" 459 (.ref 222))] 27) #[])
noncomputable def o226 (P : Params) : Obj := (.mk .none none (.fields #[(.int 1 0), (.int 0 0), (.ref 20), (.int 5 0), (.int 0 0), (.ref 28), (.int 13 0), (.int 0 0), (.ref 56), (.int 15 0), (.int 0 0), (.ref 68), (.int 17 0), (.int 0 0), (.ref 81), (.int 26 0), (.int 0 0), (.ref 108), (.int 28 0), (.int 0 0), (.ref 113), (.int 30 0), (.int 0 0), (.ref 118), (.int 36 0), (.int 0 0), (.ref 123), (.int 41 0), (.int 0 0), (.ref 130), (.int 47 0), (.int 0 0), (.ref 137), (.int 53 0), (.int 0 0), (.ref 144), (.int 57 0), (.int 0 0), (.ref 151), (.int 65 0), (.int 0 0), (.ref 156), (.int 72 0), (.int 0 0), (.ref 163), (.int 85 0), (.int 0 0), (.ref 168), (.int 94 0), (.int 0 0), (.ref 175), (.int 97 0), (.int 0 0), (.ref 182)]) #[])
noncomputable def o227 (P : Params) : Obj := (.mk (.type "tuple") none (.seq #[] 0) #[])
noncomputable def o228 (P : Params) : Obj := (.mk (.type "builtin_function_or_method") none (.fields #[(.builtin "type.__prepare__"), (.type "type")]) #[])
noncomputable def o229 (P : Params) : Obj := (.mk (.type "dict") none (.dict #[(en P "__module__" 401 (.str (Str.ofString "alikeheap.papers") 347)), (en P "__qualname__" 403 (.str (Str.ofString "Judge") 402)), (en P "__firstlineno__" 405 (.int 97 404)), (en P "__init__" 414 (.ref 190)), (en P "told_sides" 423 (.ref 197)), (en P "rule_sides" 429 (.ref 202)), (en P "sides_of" 435 (.ref 207)), (en P "sides" 441 (.ref 212)), (en P "count" 449 (.ref 219)), (en P "__static_attributes__" 452 (.ref 220))] 10) #[])
noncomputable def o230 (P : Params) : Obj := (.mk (.type "tuple") none (.seq #[] 0) #[])
noncomputable def o231 (P : Params) : Obj := (.mk .none none (.fields #[(.int 99 0), (.int 4 0), (.ref 189), (.int 103 0), (.int 4 0), (.ref 196), (.int 108 0), (.int 4 0), (.ref 201), (.int 119 0), (.int 4 0), (.ref 206), (.int 135 0), (.int 4 0), (.ref 211), (.int 142 0), (.int 4 0), (.ref 218)]) #[])
noncomputable def o232 (P : Params) : Obj := (.mk (.type "code") none (.fields #[(.str (Str.ofString "Judge") 396), (.str (Str.ofString "Judge") 397), (.str (Str.ofString "/claim/cut.py") 398), (.int 97 0), (.int 0 0), (.int 0 0), (.int 0 0), (.int 0 0), (.ref 180), (.bool false), (.int 181 0), (.ref 181), .none, .none, .none, .none, (.int 399 0), (.int 97 0), (.str (Str.ofString "/claim/cut.py") 400)]) #[])
noncomputable def o233 (P : Params) : Obj := (.mk (.type "frame") none .plain #[(some (.ref 182)), (some (.ref 3)), (some (.ref 179)), none, (some (.str (Str.ofString "alikeheap.papers") 347)), none, (some (.ref 0))])
noncomputable def o234 (P : Params) : Obj := (.mk (.type "tuple") none (.seq #[] 0) #[])
noncomputable def o235 (P : Params) : Obj := (.mk .none none (.fields #[]) #[])
noncomputable def o236 (P : Params) : Obj := (.mk (.type "tuple") none (.seq #[(.str (Str.ofString "self") 409), (.str (Str.ofString "rules") 410), (.str (Str.ofString "told") 411)] 0) #[])
noncomputable def o237 (P : Params) : Obj := (.mk (.type "tuple") none (.seq #[] 0) #[])
noncomputable def o238 (P : Params) : Obj := (.mk .none none (.func ⟨(Str.ofString "__init__"), (Str.ofString "Judge.__init__"), (fP (ms 20 0)), (.stmts (fB (ms 20 0))), (fS (ms 20 0)), 0, [], .none, .none, .none, .none, none, .none, .none, 0⟩) #[])
noncomputable def o239 (P : Params) : Obj := (.mk (.type "code") none (.fields #[(.str (Str.ofString "__init__") 406), (.str (Str.ofString "Judge.__init__") 407), (.str (Str.ofString "/claim/cut.py") 408), (.int 99 0), (.int 3 0), (.int 0 0), (.int 0 0), (.int 3 0), (.ref 184), (.bool true), (.int 181 0), (.ref 185), .none, (.ref 186), (.ref 187), (.ref 188), (.int 412 0), (.int 99 0), (.str (Str.ofString "/claim/cut.py") 413)]) #[])
noncomputable def o240 (P : Params) : Obj := (.mk (.type "function") none (.func ⟨(Str.ofString "__init__"), (Str.ofString "Judge.__init__"), (fP (ms 20 0)), (.stmts (fB (ms 20 0))), (fS (ms 20 0)), 3, [], .none, .none, .none, (.str (Str.ofString "alikeheap.papers") 347), none, (.ref 189), .none, 0⟩) #[])
noncomputable def o241 (P : Params) : Obj := (.mk (.type "tuple") none (.seq #[] 0) #[])
noncomputable def o242 (P : Params) : Obj := (.mk .none none (.fields #[]) #[])
noncomputable def o243 (P : Params) : Obj := (.mk (.type "tuple") none (.seq #[(.str (Str.ofString "self") 418), (.str (Str.ofString "label") 419), (.str (Str.ofString "place") 420)] 0) #[])
noncomputable def o244 (P : Params) : Obj := (.mk (.type "tuple") none (.seq #[] 0) #[])
noncomputable def o245 (P : Params) : Obj := (.mk .none none (.func ⟨(Str.ofString "told_sides"), (Str.ofString "Judge.told_sides"), (fP (ms 20 1)), (.stmts (fB (ms 20 1))), (fS (ms 20 1)), 0, [], .none, .none, .none, .none, none, .none, .none, 0⟩) #[])
noncomputable def o246 (P : Params) : Obj := (.mk (.type "code") none (.fields #[(.str (Str.ofString "told_sides") 415), (.str (Str.ofString "Judge.told_sides") 416), (.str (Str.ofString "/claim/cut.py") 417), (.int 103 0), (.int 3 0), (.int 0 0), (.int 0 0), (.int 3 0), (.ref 191), (.bool true), (.int 181 0), (.ref 192), .none, (.ref 193), (.ref 194), (.ref 195), (.int 421 0), (.int 103 0), (.str (Str.ofString "/claim/cut.py") 422)]) #[])
noncomputable def o247 (P : Params) : Obj := (.mk (.type "function") none (.func ⟨(Str.ofString "told_sides"), (Str.ofString "Judge.told_sides"), (fP (ms 20 1)), (.stmts (fB (ms 20 1))), (fS (ms 20 1)), 3, [], .none, .none, .none, (.str (Str.ofString "alikeheap.papers") 347), none, (.ref 196), .none, 0⟩) #[])
noncomputable def o248 (P : Params) : Obj := (.mk (.type "tuple") none (.seq #[] 0) #[])
noncomputable def o249 (P : Params) : Obj := (.mk .none none (.fields #[]) #[])
noncomputable def o250 (P : Params) : Obj := (.mk .none none (.func ⟨(Str.ofString "rule_sides"), (Str.ofString "Judge.rule_sides"), (fP (ms 20 2)), (.stmts (fB (ms 20 2))), (fS (ms 20 2)), 0, [], .none, .none, .none, .none, none, .none, .none, 0⟩) #[])
noncomputable def o251 (P : Params) : Obj := (.mk (.type "code") none (.fields #[(.str (Str.ofString "rule_sides") 424), (.str (Str.ofString "Judge.rule_sides") 425), (.str (Str.ofString "/claim/cut.py") 426), (.int 108 0), (.int 4 0), (.int 0 0), (.int 0 0), (.int 3 0), (.ref 198), (.bool true), (.int 181 0), (.ref 199), .none, .none, .none, (.ref 200), (.int 427 0), (.int 108 0), (.str (Str.ofString "/claim/cut.py") 428)]) #[])
noncomputable def o252 (P : Params) : Obj := (.mk (.type "function") none (.func ⟨(Str.ofString "rule_sides"), (Str.ofString "Judge.rule_sides"), (fP (ms 20 2)), (.stmts (fB (ms 20 2))), (fS (ms 20 2)), 3, [], .none, .none, .none, (.str (Str.ofString "alikeheap.papers") 347), none, (.ref 201), .none, 0⟩) #[])
noncomputable def o253 (P : Params) : Obj := (.mk (.type "tuple") none (.seq #[] 0) #[])
noncomputable def o254 (P : Params) : Obj := (.mk .none none (.fields #[]) #[])
noncomputable def o255 (P : Params) : Obj := (.mk .none none (.func ⟨(Str.ofString "sides_of"), (Str.ofString "Judge.sides_of"), (fP (ms 20 3)), (.stmts (fB (ms 20 3))), (fS (ms 20 3)), 0, [], .none, .none, .none, .none, none, .none, .none, 0⟩) #[])
noncomputable def o256 (P : Params) : Obj := (.mk (.type "code") none (.fields #[(.str (Str.ofString "sides_of") 430), (.str (Str.ofString "Judge.sides_of") 431), (.str (Str.ofString "/claim/cut.py") 432), (.int 119 0), (.int 4 0), (.int 0 0), (.int 0 0), (.int 3 0), (.ref 203), (.bool true), (.int 181 0), (.ref 204), .none, .none, .none, (.ref 205), (.int 433 0), (.int 119 0), (.str (Str.ofString "/claim/cut.py") 434)]) #[])
noncomputable def o257 (P : Params) : Obj := (.mk (.type "function") none (.func ⟨(Str.ofString "sides_of"), (Str.ofString "Judge.sides_of"), (fP (ms 20 3)), (.stmts (fB (ms 20 3))), (fS (ms 20 3)), 3, [], .none, .none, .none, (.str (Str.ofString "alikeheap.papers") 347), none, (.ref 206), .none, 0⟩) #[])
noncomputable def o258 (P : Params) : Obj := (.mk (.type "tuple") none (.seq #[] 0) #[])
noncomputable def o259 (P : Params) : Obj := (.mk .none none (.fields #[]) #[])
noncomputable def o260 (P : Params) : Obj := (.mk .none none (.func ⟨(Str.ofString "sides"), (Str.ofString "Judge.sides"), (fP (ms 20 4)), (.stmts (fB (ms 20 4))), (fS (ms 20 4)), 0, [], .none, .none, .none, .none, none, .none, .none, 0⟩) #[])
noncomputable def o261 (P : Params) : Obj := (.mk (.type "code") none (.fields #[(.str (Str.ofString "sides") 436), (.str (Str.ofString "Judge.sides") 437), (.str (Str.ofString "/claim/cut.py") 438), (.int 135 0), (.int 2 0), (.int 0 0), (.int 0 0), (.int 3 0), (.ref 208), (.bool true), (.int 181 0), (.ref 209), .none, .none, .none, (.ref 210), (.int 439 0), (.int 135 0), (.str (Str.ofString "/claim/cut.py") 440)]) #[])
noncomputable def o262 (P : Params) : Obj := (.mk (.type "function") none (.func ⟨(Str.ofString "sides"), (Str.ofString "Judge.sides"), (fP (ms 20 4)), (.stmts (fB (ms 20 4))), (fS (ms 20 4)), 3, [], .none, .none, .none, (.str (Str.ofString "alikeheap.papers") 347), none, (.ref 211), .none, 0⟩) #[])
noncomputable def o263 (P : Params) : Obj := (.mk (.type "tuple") none (.seq #[] 0) #[])
noncomputable def o264 (P : Params) : Obj := (.mk .none none (.fields #[]) #[])
noncomputable def o265 (P : Params) : Obj := (.mk (.type "tuple") none (.seq #[(.str (Str.ofString "self") 445), (.str (Str.ofString "paper") 446)] 0) #[])
noncomputable def o266 (P : Params) : Obj := (.mk (.type "tuple") none (.seq #[] 0) #[])
noncomputable def o267 (P : Params) : Obj := (.mk .none none (.func ⟨(Str.ofString "count"), (Str.ofString "Judge.count"), (fP (ms 20 5)), (.stmts (fB (ms 20 5))), (fS (ms 20 5)), 0, [], .none, .none, .none, .none, none, .none, .none, 0⟩) #[])
noncomputable def o268 (P : Params) : Obj := (.mk (.type "code") none (.fields #[(.str (Str.ofString "count") 442), (.str (Str.ofString "Judge.count") 443), (.str (Str.ofString "/claim/cut.py") 444), (.int 142 0), (.int 2 0), (.int 0 0), (.int 0 0), (.int 3 0), (.ref 213), (.bool true), (.int 181 0), (.ref 214), .none, (.ref 215), (.ref 216), (.ref 217), (.int 447 0), (.int 142 0), (.str (Str.ofString "/claim/cut.py") 448)]) #[])
noncomputable def o269 (P : Params) : Obj := (.mk (.type "function") none (.func ⟨(Str.ofString "count"), (Str.ofString "Judge.count"), (fP (ms 20 5)), (.stmts (fB (ms 20 5))), (fS (ms 20 5)), 3, [], .none, .none, .none, (.str (Str.ofString "alikeheap.papers") 347), none, (.ref 218), .none, 0⟩) #[])
noncomputable def o270 (P : Params) : Obj := (.mk (.type "tuple") none (.seq #[(.str (Str.ofString "rules") 450), (.str (Str.ofString "told") 451)] 0) #[])
noncomputable def o271 (P : Params) : Obj := (.mk (.type "dict") none (.dict #[(en P "__module__" 401 (.str (Str.ofString "alikeheap.papers") 347)), (en P "__firstlineno__" 405 (.int 97 404)), (en P "__init__" 414 (.ref 190)), (en P "told_sides" 423 (.ref 197)), (en P "rule_sides" 429 (.ref 202)), (en P "sides_of" 435 (.ref 207)), (en P "sides" 441 (.ref 212)), (en P "count" 449 (.ref 219)), (en P "__static_attributes__" 452 (.ref 220)), (en P "__dict__" 454 (.ref 223)), (en P "__weakref__" 456 (.ref 224)), (en P "__doc__" 457 .none)] 4) #[])
noncomputable def o272 (P : Params) : Obj := (.mk (.type "type") none (.cls (.mk (Str.ofString "Judge") [(.type "object")] [(.ref 222), (.type "object")] 221 (Str.ofString "Judge") true [] [] false none false)) #[none, none, (some (.str (Str.ofString "Judge") 394)), (some (.str (Str.ofString "Judge") 402)), (some (.builtin "object.__new__")), (some (.bool true))])
noncomputable def o273 (P : Params) : Obj := (.mk (.type "getset_descriptor") none (.fields #[(.str (Str.ofString "__dict__") 453), (.ref 222), (.builtin "function.__dict__"), (.builtin "function.__dict__#set")]) #[])
noncomputable def o274 (P : Params) : Obj := (.mk (.type "getset_descriptor") none (.fields #[(.str (Str.ofString "__weakref__") 455), (.ref 222), (.builtin "ExceptionGroup.__weakref__"), .none]) #[])
noncomputable def o275 (P : Params) : Obj := (.mk (.type "super") none (.fields #[(.ref 222), (.ref 222), (.ref 222)]) #[])
noncomputable def o276 (P : Params) : Obj := (.mk (.type "builtin_function_or_method") none (.fields #[(.builtin "object.__init_subclass__"), (.ref 222)]) #[])
noncomputable def o277 (P : Params) : Obj := (.mk (.type "dict") none (.dict #[(en P "__name__" 165 (.str (Str.ofString "alikeheap.papers") 347)), (en P "__doc__" 166 .none), (en P "__package__" 167 .none), (en P "__loader__" 168 (.builtin "__main__.__loader__#opaque")), (en P "__spec__" 169 .none), (en P "__annotations__" 170 (.ref 6)), (en P "__builtins__" 171 (.ref 4)), (en P "__file__" 173 (.str (Str.ofString "/claim/cut.py") 172)), (en P "__cached__" 174 .none), (en P "_wall" 193 (.ref 21)), (en P "HeapError" 233 (.ref 47)), (en P "TermFault" 249 (.ref 60)), (en P "RuleFault" 265 (.ref 72)), (en P "PaperFault" 300 (.ref 100)), (en P "is_variable" 309 (.ref 109)), (en P "variables" 315 (.ref 114)), (en P "placed" 321 (.ref 119)), (en P "parts" 327 (.ref 124)), (en P "part_at" 336 (.ref 131)), (en P "replaced" 346 (.ref 138)), (en P "parts_of" 355 (.ref 145)), (en P "is_plain_term" 364 (.ref 152)), (en P "are_places" 370 (.ref 157)), (en P "has_form" 379 (.ref 164)), (en P "in_order" 385 (.ref 169)), (en P "want_form" 393 (.ref 176)), (en P "Judge" 459 (.ref 222)), (en P "turned_step" 466 (.ref 233)), (en P "cancelled" 475 (.ref 240))] 29) #[])
noncomputable def o278 (P : Params) : Obj := (.mk .none none (.fields #[(.int 1 0), (.int 0 0), (.ref 20), (.int 5 0), (.int 0 0), (.ref 28), (.int 13 0), (.int 0 0), (.ref 56), (.int 15 0), (.int 0 0), (.ref 68), (.int 17 0), (.int 0 0), (.ref 81), (.int 26 0), (.int 0 0), (.ref 108), (.int 28 0), (.int 0 0), (.ref 113), (.int 30 0), (.int 0 0), (.ref 118), (.int 36 0), (.int 0 0), (.ref 123), (.int 41 0), (.int 0 0), (.ref 130), (.int 47 0), (.int 0 0), (.ref 137), (.int 53 0), (.int 0 0), (.ref 144), (.int 57 0), (.int 0 0), (.ref 151), (.int 65 0), (.int 0 0), (.ref 156), (.int 72 0), (.int 0 0), (.ref 163), (.int 85 0), (.int 0 0), (.ref 168), (.int 94 0), (.int 0 0), (.ref 175), (.int 97 0), (.int 0 0), (.ref 182), (.int 144 0), (.int 0 0), (.ref 232), (.int 146 0), (.int 0 0), (.ref 239)]) #[])
noncomputable def o279 (P : Params) : Obj := (.mk (.type "tuple") none (.seq #[] 0) #[])
noncomputable def o280 (P : Params) : Obj := (.mk .none none (.fields #[]) #[])
noncomputable def o281 (P : Params) : Obj := (.mk (.type "tuple") none (.seq #[(.str (Str.ofString "step") 463)] 0) #[])
noncomputable def o282 (P : Params) : Obj := (.mk (.type "tuple") none (.seq #[] 0) #[])
noncomputable def o283 (P : Params) : Obj := (.mk .none none (.func ⟨(Str.ofString "turned_step"), (Str.ofString "turned_step"), (fP (st 21)), (.stmts (fB (st 21))), (fS (st 21)), 0, [], .none, .none, .none, .none, none, .none, .none, 0⟩) #[])
noncomputable def o284 (P : Params) : Obj := (.mk (.type "code") none (.fields #[(.str (Str.ofString "turned_step") 460), (.str (Str.ofString "turned_step") 461), (.str (Str.ofString "/claim/cut.py") 462), (.int 144 0), (.int 1 0), (.int 0 0), (.int 0 0), (.int 3 0), (.ref 227), (.bool true), (.int 181 0), (.ref 228), .none, (.ref 229), (.ref 230), (.ref 231), (.int 464 0), (.int 144 0), (.str (Str.ofString "/claim/cut.py") 465)]) #[])
noncomputable def o285 (P : Params) : Obj := (.mk (.type "function") none (.func ⟨(Str.ofString "turned_step"), (Str.ofString "turned_step"), (fP (st 21)), (.stmts (fB (st 21))), (fS (st 21)), 3, [], .none, .none, .none, (.str (Str.ofString "alikeheap.papers") 347), none, (.ref 232), .none, 0⟩) #[])
noncomputable def o286 (P : Params) : Obj := (.mk (.type "tuple") none (.seq #[] 0) #[])
noncomputable def o287 (P : Params) : Obj := (.mk .none none (.fields #[]) #[])
noncomputable def o288 (P : Params) : Obj := (.mk (.type "tuple") none (.seq #[(.str (Str.ofString "steps") 470), (.str (Str.ofString "found") 471), (.str (Str.ofString "step") 472)] 0) #[])
noncomputable def o289 (P : Params) : Obj := (.mk (.type "tuple") none (.seq #[] 0) #[])
noncomputable def o290 (P : Params) : Obj := (.mk .none none (.func ⟨(Str.ofString "cancelled"), (Str.ofString "cancelled"), (fP (st 22)), (.stmts (fB (st 22))), (fS (st 22)), 0, [], .none, .none, .none, .none, none, .none, .none, 0⟩) #[])
noncomputable def o291 (P : Params) : Obj := (.mk (.type "code") none (.fields #[(.str (Str.ofString "cancelled") 467), (.str (Str.ofString "cancelled") 468), (.str (Str.ofString "/claim/cut.py") 469), (.int 146 0), (.int 1 0), (.int 0 0), (.int 0 0), (.int 3 0), (.ref 234), (.bool true), (.int 181 0), (.ref 235), .none, (.ref 236), (.ref 237), (.ref 238), (.int 473 0), (.int 146 0), (.str (Str.ofString "/claim/cut.py") 474)]) #[])
noncomputable def o292 (P : Params) : Obj := (.mk (.type "function") none (.func ⟨(Str.ofString "cancelled"), (Str.ofString "cancelled"), (fP (st 22)), (.stmts (fB (st 22))), (fS (st 22)), 3, [], .none, .none, .none, (.str (Str.ofString "alikeheap.papers") 347), none, (.ref 239), .none, 0⟩) #[])
noncomputable def o293 (P : Params) : Obj := (.mk (.type "dict") none (.dict #[(en P "__name__" 165 (.str (Str.ofString "alikeheap.papers") 347)), (en P "__doc__" 166 .none), (en P "__package__" 167 .none), (en P "__loader__" 168 (.builtin "__main__.__loader__#opaque")), (en P "__spec__" 169 .none), (en P "__annotations__" 170 (.ref 6)), (en P "__builtins__" 171 (.ref 4)), (en P "__file__" 173 (.str (Str.ofString "/claim/cut.py") 172)), (en P "__cached__" 174 .none), (en P "_wall" 193 (.ref 21)), (en P "HeapError" 233 (.ref 47)), (en P "TermFault" 249 (.ref 60)), (en P "RuleFault" 265 (.ref 72)), (en P "PaperFault" 300 (.ref 100)), (en P "is_variable" 309 (.ref 109)), (en P "variables" 315 (.ref 114)), (en P "placed" 321 (.ref 119)), (en P "parts" 327 (.ref 124)), (en P "part_at" 336 (.ref 131)), (en P "replaced" 346 (.ref 138)), (en P "parts_of" 355 (.ref 145)), (en P "is_plain_term" 364 (.ref 152)), (en P "are_places" 370 (.ref 157)), (en P "has_form" 379 (.ref 164)), (en P "in_order" 385 (.ref 169)), (en P "want_form" 393 (.ref 176)), (en P "Judge" 459 (.ref 222)), (en P "turned_step" 466 (.ref 233)), (en P "cancelled" 475 (.ref 240)), (en P "Steps" 555 (.ref 292))] 30) #[])
noncomputable def o294 (P : Params) : Obj := (.mk .none none (.fields #[(.int 1 0), (.int 0 0), (.ref 20), (.int 5 0), (.int 0 0), (.ref 28), (.int 13 0), (.int 0 0), (.ref 56), (.int 15 0), (.int 0 0), (.ref 68), (.int 17 0), (.int 0 0), (.ref 81), (.int 26 0), (.int 0 0), (.ref 108), (.int 28 0), (.int 0 0), (.ref 113), (.int 30 0), (.int 0 0), (.ref 118), (.int 36 0), (.int 0 0), (.ref 123), (.int 41 0), (.int 0 0), (.ref 130), (.int 47 0), (.int 0 0), (.ref 137), (.int 53 0), (.int 0 0), (.ref 144), (.int 57 0), (.int 0 0), (.ref 151), (.int 65 0), (.int 0 0), (.ref 156), (.int 72 0), (.int 0 0), (.ref 163), (.int 85 0), (.int 0 0), (.ref 168), (.int 94 0), (.int 0 0), (.ref 175), (.int 97 0), (.int 0 0), (.ref 182), (.int 144 0), (.int 0 0), (.ref 232), (.int 146 0), (.int 0 0), (.ref 239), (.int 154 0), (.int 0 0), (.ref 246)]) #[])
noncomputable def o295 (P : Params) : Obj := (.mk (.type "tuple") none (.seq #[] 0) #[])
noncomputable def o296 (P : Params) : Obj := (.mk (.type "builtin_function_or_method") none (.fields #[(.builtin "type.__prepare__"), (.type "type")]) #[])
noncomputable def o297 (P : Params) : Obj := (.mk (.type "dict") none (.dict #[(en P "__module__" 483 (.str (Str.ofString "alikeheap.papers") 347)), (en P "__qualname__" 485 (.str (Str.ofString "Steps") 484)), (en P "__firstlineno__" 487 (.int 154 486)), (en P "__init__" 495 (.ref 254)), (en P "of_paper" 503 (.ref 261)), (en P "sides" 513 (.ref 268)), (en P "stepped" 525 (.ref 275)), (en P "walk" 537 (.ref 282)), (en P "paper_of" 546 (.ref 289)), (en P "__static_attributes__" 548 (.ref 290))] 10) #[])
noncomputable def o298 (P : Params) : Obj := (.mk (.type "tuple") none (.seq #[] 0) #[])
noncomputable def o299 (P : Params) : Obj := (.mk .none none (.fields #[(.int 156 0), (.int 4 0), (.ref 253), (.int 159 0), (.int 4 0), (.ref 260), (.int 162 0), (.int 4 0), (.ref 267), (.int 171 0), (.int 4 0), (.ref 274), (.int 180 0), (.int 4 0), (.ref 281), (.int 186 0), (.int 4 0), (.ref 288)]) #[])
noncomputable def o300 (P : Params) : Obj := (.mk (.type "code") none (.fields #[(.str (Str.ofString "Steps") 478), (.str (Str.ofString "Steps") 479), (.str (Str.ofString "/claim/cut.py") 480), (.int 154 0), (.int 0 0), (.int 0 0), (.int 0 0), (.int 0 0), (.ref 244), (.bool false), (.int 181 0), (.ref 245), .none, .none, .none, .none, (.int 481 0), (.int 154 0), (.str (Str.ofString "/claim/cut.py") 482)]) #[])
noncomputable def o301 (P : Params) : Obj := (.mk (.type "frame") none .plain #[(some (.ref 246)), (some (.ref 3)), (some (.ref 243)), none, (some (.str (Str.ofString "alikeheap.papers") 347)), none, (some (.ref 0))])
noncomputable def o302 (P : Params) : Obj := (.mk (.type "tuple") none (.seq #[] 0) #[])
noncomputable def o303 (P : Params) : Obj := (.mk .none none (.fields #[]) #[])
noncomputable def o304 (P : Params) : Obj := (.mk (.type "tuple") none (.seq #[(.str (Str.ofString "self") 491), (.str (Str.ofString "judge") 492)] 0) #[])
noncomputable def o305 (P : Params) : Obj := (.mk (.type "tuple") none (.seq #[] 0) #[])
noncomputable def o306 (P : Params) : Obj := (.mk .none none (.func ⟨(Str.ofString "__init__"), (Str.ofString "Steps.__init__"), (fP (ms 23 0)), (.stmts (fB (ms 23 0))), (fS (ms 23 0)), 0, [], .none, .none, .none, .none, none, .none, .none, 0⟩) #[])
noncomputable def o307 (P : Params) : Obj := (.mk (.type "code") none (.fields #[(.str (Str.ofString "__init__") 488), (.str (Str.ofString "Steps.__init__") 489), (.str (Str.ofString "/claim/cut.py") 490), (.int 156 0), (.int 2 0), (.int 0 0), (.int 0 0), (.int 3 0), (.ref 248), (.bool true), (.int 181 0), (.ref 249), .none, (.ref 250), (.ref 251), (.ref 252), (.int 493 0), (.int 156 0), (.str (Str.ofString "/claim/cut.py") 494)]) #[])
noncomputable def o308 (P : Params) : Obj := (.mk (.type "function") none (.func ⟨(Str.ofString "__init__"), (Str.ofString "Steps.__init__"), (fP (ms 23 0)), (.stmts (fB (ms 23 0))), (fS (ms 23 0)), 3, [], .none, .none, .none, (.str (Str.ofString "alikeheap.papers") 347), none, (.ref 253), .none, 0⟩) #[])
noncomputable def o309 (P : Params) : Obj := (.mk (.type "tuple") none (.seq #[] 0) #[])
noncomputable def o310 (P : Params) : Obj := (.mk .none none (.fields #[]) #[])
noncomputable def o311 (P : Params) : Obj := (.mk (.type "tuple") none (.seq #[(.str (Str.ofString "self") 499), (.str (Str.ofString "paper") 500)] 0) #[])
noncomputable def o312 (P : Params) : Obj := (.mk (.type "tuple") none (.seq #[] 0) #[])
noncomputable def o313 (P : Params) : Obj := (.mk .none none (.func ⟨(Str.ofString "of_paper"), (Str.ofString "Steps.of_paper"), (fP (ms 23 1)), (.stmts (fB (ms 23 1))), (fS (ms 23 1)), 0, [], .none, .none, .none, .none, none, .none, .none, 0⟩) #[])
noncomputable def o314 (P : Params) : Obj := (.mk (.type "code") none (.fields #[(.str (Str.ofString "of_paper") 496), (.str (Str.ofString "Steps.of_paper") 497), (.str (Str.ofString "/claim/cut.py") 498), (.int 159 0), (.int 2 0), (.int 0 0), (.int 0 0), (.int 3 0), (.ref 255), (.bool true), (.int 181 0), (.ref 256), .none, (.ref 257), (.ref 258), (.ref 259), (.int 501 0), (.int 159 0), (.str (Str.ofString "/claim/cut.py") 502)]) #[])
noncomputable def o315 (P : Params) : Obj := (.mk (.type "function") none (.func ⟨(Str.ofString "of_paper"), (Str.ofString "Steps.of_paper"), (fP (ms 23 1)), (.stmts (fB (ms 23 1))), (fS (ms 23 1)), 3, [], .none, .none, .none, (.str (Str.ofString "alikeheap.papers") 347), none, (.ref 260), .none, 0⟩) #[])
noncomputable def o316 (P : Params) : Obj := (.mk (.type "tuple") none (.seq #[] 0) #[])
noncomputable def o317 (P : Params) : Obj := (.mk .none none (.fields #[]) #[])
noncomputable def o318 (P : Params) : Obj := (.mk (.type "tuple") none (.seq #[(.str (Str.ofString "self") 507), (.str (Str.ofString "step") 508), (.str (Str.ofString "number") 509), (.str (Str.ofString "found") 510)] 0) #[])
noncomputable def o319 (P : Params) : Obj := (.mk (.type "tuple") none (.seq #[] 0) #[])
noncomputable def o320 (P : Params) : Obj := (.mk .none none (.func ⟨(Str.ofString "sides"), (Str.ofString "Steps.sides"), (fP (ms 23 2)), (.stmts (fB (ms 23 2))), (fS (ms 23 2)), 0, [], .none, .none, .none, .none, none, .none, .none, 0⟩) #[])
noncomputable def o321 (P : Params) : Obj := (.mk (.type "code") none (.fields #[(.str (Str.ofString "sides") 504), (.str (Str.ofString "Steps.sides") 505), (.str (Str.ofString "/claim/cut.py") 506), (.int 162 0), (.int 3 0), (.int 0 0), (.int 0 0), (.int 3 0), (.ref 262), (.bool true), (.int 181 0), (.ref 263), .none, (.ref 264), (.ref 265), (.ref 266), (.int 511 0), (.int 162 0), (.str (Str.ofString "/claim/cut.py") 512)]) #[])
noncomputable def o322 (P : Params) : Obj := (.mk (.type "function") none (.func ⟨(Str.ofString "sides"), (Str.ofString "Steps.sides"), (fP (ms 23 2)), (.stmts (fB (ms 23 2))), (fS (ms 23 2)), 3, [], .none, .none, .none, (.str (Str.ofString "alikeheap.papers") 347), none, (.ref 267), .none, 0⟩) #[])
noncomputable def o323 (P : Params) : Obj := (.mk (.type "tuple") none (.seq #[] 0) #[])
noncomputable def o324 (P : Params) : Obj := (.mk .none none (.fields #[]) #[])
noncomputable def o325 (P : Params) : Obj := (.mk (.type "tuple") none (.seq #[(.str (Str.ofString "self") 517), (.str (Str.ofString "term") 518), (.str (Str.ofString "step") 519), (.str (Str.ofString "number") 520), (.str (Str.ofString "left") 521), (.str (Str.ofString "right") 522)] 0) #[])
noncomputable def o326 (P : Params) : Obj := (.mk (.type "tuple") none (.seq #[] 0) #[])
noncomputable def o327 (P : Params) : Obj := (.mk .none none (.func ⟨(Str.ofString "stepped"), (Str.ofString "Steps.stepped"), (fP (ms 23 3)), (.stmts (fB (ms 23 3))), (fS (ms 23 3)), 0, [], .none, .none, .none, .none, none, .none, .none, 0⟩) #[])
noncomputable def o328 (P : Params) : Obj := (.mk (.type "code") none (.fields #[(.str (Str.ofString "stepped") 514), (.str (Str.ofString "Steps.stepped") 515), (.str (Str.ofString "/claim/cut.py") 516), (.int 171 0), (.int 4 0), (.int 0 0), (.int 0 0), (.int 3 0), (.ref 269), (.bool true), (.int 181 0), (.ref 270), .none, (.ref 271), (.ref 272), (.ref 273), (.int 523 0), (.int 171 0), (.str (Str.ofString "/claim/cut.py") 524)]) #[])
noncomputable def o329 (P : Params) : Obj := (.mk (.type "function") none (.func ⟨(Str.ofString "stepped"), (Str.ofString "Steps.stepped"), (fP (ms 23 3)), (.stmts (fB (ms 23 3))), (fS (ms 23 3)), 3, [], .none, .none, .none, (.str (Str.ofString "alikeheap.papers") 347), none, (.ref 274), .none, 0⟩) #[])
noncomputable def o330 (P : Params) : Obj := (.mk (.type "tuple") none (.seq #[] 0) #[])
noncomputable def o331 (P : Params) : Obj := (.mk .none none (.fields #[]) #[])
noncomputable def o332 (P : Params) : Obj := (.mk (.type "tuple") none (.seq #[(.str (Str.ofString "self") 529), (.str (Str.ofString "term") 530), (.str (Str.ofString "steps") 531), (.str (Str.ofString "found") 532), (.str (Str.ofString "number") 533), (.str (Str.ofString "step") 534)] 0) #[])
noncomputable def o333 (P : Params) : Obj := (.mk (.type "tuple") none (.seq #[] 0) #[])
noncomputable def o334 (P : Params) : Obj := (.mk .none none (.func ⟨(Str.ofString "walk"), (Str.ofString "Steps.walk"), (fP (ms 23 4)), (.stmts (fB (ms 23 4))), (fS (ms 23 4)), 0, [], .none, .none, .none, .none, none, .none, .none, 0⟩) #[])
noncomputable def o335 (P : Params) : Obj := (.mk (.type "code") none (.fields #[(.str (Str.ofString "walk") 526), (.str (Str.ofString "Steps.walk") 527), (.str (Str.ofString "/claim/cut.py") 528), (.int 180 0), (.int 3 0), (.int 0 0), (.int 0 0), (.int 3 0), (.ref 276), (.bool true), (.int 181 0), (.ref 277), .none, (.ref 278), (.ref 279), (.ref 280), (.int 535 0), (.int 180 0), (.str (Str.ofString "/claim/cut.py") 536)]) #[])
noncomputable def o336 (P : Params) : Obj := (.mk (.type "function") none (.func ⟨(Str.ofString "walk"), (Str.ofString "Steps.walk"), (fP (ms 23 4)), (.stmts (fB (ms 23 4))), (fS (ms 23 4)), 3, [], .none, .none, .none, (.str (Str.ofString "alikeheap.papers") 347), none, (.ref 281), .none, 0⟩) #[])
noncomputable def o337 (P : Params) : Obj := (.mk (.type "tuple") none (.seq #[] 0) #[])
noncomputable def o338 (P : Params) : Obj := (.mk .none none (.fields #[]) #[])
noncomputable def o339 (P : Params) : Obj := (.mk (.type "tuple") none (.seq #[(.str (Str.ofString "self") 541), (.str (Str.ofString "term") 542), (.str (Str.ofString "steps") 543)] 0) #[])
noncomputable def o340 (P : Params) : Obj := (.mk (.type "tuple") none (.seq #[] 0) #[])
noncomputable def o341 (P : Params) : Obj := (.mk .none none (.func ⟨(Str.ofString "paper_of"), (Str.ofString "Steps.paper_of"), (fP (ms 23 5)), (.stmts (fB (ms 23 5))), (fS (ms 23 5)), 0, [], .none, .none, .none, .none, none, .none, .none, 0⟩) #[])
noncomputable def o342 (P : Params) : Obj := (.mk (.type "code") none (.fields #[(.str (Str.ofString "paper_of") 538), (.str (Str.ofString "Steps.paper_of") 539), (.str (Str.ofString "/claim/cut.py") 540), (.int 186 0), (.int 3 0), (.int 0 0), (.int 0 0), (.int 3 0), (.ref 283), (.bool true), (.int 181 0), (.ref 284), .none, (.ref 285), (.ref 286), (.ref 287), (.int 544 0), (.int 186 0), (.str (Str.ofString "/claim/cut.py") 545)]) #[])
noncomputable def o343 (P : Params) : Obj := (.mk (.type "function") none (.func ⟨(Str.ofString "paper_of"), (Str.ofString "Steps.paper_of"), (fP (ms 23 5)), (.stmts (fB (ms 23 5))), (fS (ms 23 5)), 3, [], .none, .none, .none, (.str (Str.ofString "alikeheap.papers") 347), none, (.ref 288), .none, 0⟩) #[])
noncomputable def o344 (P : Params) : Obj := (.mk (.type "tuple") none (.seq #[(.str (Str.ofString "judge") 547)] 0) #[])
noncomputable def o345 (P : Params) : Obj := (.mk (.type "dict") none (.dict #[(en P "__module__" 483 (.str (Str.ofString "alikeheap.papers") 347)), (en P "__firstlineno__" 487 (.int 154 486)), (en P "__init__" 495 (.ref 254)), (en P "of_paper" 503 (.ref 261)), (en P "sides" 513 (.ref 268)), (en P "stepped" 525 (.ref 275)), (en P "walk" 537 (.ref 282)), (en P "paper_of" 546 (.ref 289)), (en P "__static_attributes__" 548 (.ref 290)), (en P "__dict__" 550 (.ref 293)), (en P "__weakref__" 552 (.ref 294)), (en P "__doc__" 553 .none)] 4) #[])
noncomputable def o346 (P : Params) : Obj := (.mk (.type "type") none (.cls (.mk (Str.ofString "Steps") [(.type "object")] [(.ref 292), (.type "object")] 291 (Str.ofString "Steps") true [] [] false none false)) #[none, none, (some (.str (Str.ofString "Steps") 476)), (some (.str (Str.ofString "Steps") 484)), (some (.builtin "object.__new__")), (some (.bool true))])
noncomputable def o347 (P : Params) : Obj := (.mk (.type "getset_descriptor") none (.fields #[(.str (Str.ofString "__dict__") 549), (.ref 292), (.builtin "function.__dict__"), (.builtin "function.__dict__#set")]) #[])
noncomputable def o348 (P : Params) : Obj := (.mk (.type "getset_descriptor") none (.fields #[(.str (Str.ofString "__weakref__") 551), (.ref 292), (.builtin "ExceptionGroup.__weakref__"), .none]) #[])
noncomputable def o349 (P : Params) : Obj := (.mk (.type "super") none (.fields #[(.ref 292), (.ref 292), (.ref 292)]) #[])
noncomputable def o350 (P : Params) : Obj := (.mk (.type "builtin_function_or_method") none (.fields #[(.builtin "object.__init_subclass__"), (.ref 292)]) #[])
noncomputable def o351 (P : Params) : Obj := (.mk (.type "dict") none (.dict #[(en P "__name__" 165 (.str (Str.ofString "law_pq0057_01") 595)), (en P "__doc__" 166 .none), (en P "__package__" 167 .none), (en P "__loader__" 168 (.builtin "__main__.__loader__#opaque")), (en P "__spec__" 169 .none), (en P "__annotations__" 170 (.ref 6)), (en P "__builtins__" 171 (.ref 4)), (en P "__file__" 173 (.str (Str.ofString "/claim/cut.py") 172)), (en P "__cached__" 174 .none), (en P "_wall" 193 (.ref 21)), (en P "HeapError" 233 (.ref 47)), (en P "TermFault" 249 (.ref 60)), (en P "RuleFault" 265 (.ref 72)), (en P "PaperFault" 300 (.ref 100)), (en P "is_variable" 309 (.ref 109)), (en P "variables" 315 (.ref 114)), (en P "placed" 321 (.ref 119)), (en P "parts" 327 (.ref 124)), (en P "part_at" 336 (.ref 131)), (en P "replaced" 346 (.ref 138)), (en P "parts_of" 355 (.ref 145)), (en P "is_plain_term" 364 (.ref 152)), (en P "are_places" 370 (.ref 157)), (en P "has_form" 379 (.ref 164)), (en P "in_order" 385 (.ref 169)), (en P "want_form" 393 (.ref 176)), (en P "Judge" 459 (.ref 222)), (en P "turned_step" 466 (.ref 233)), (en P "cancelled" 475 (.ref 240)), (en P "Steps" 555 (.ref 292)), (en P "Rule" 594 (.ref 318)), (en P "_law_steps" 618 (.ref 345))] 32) #[])
noncomputable def o352 (P : Params) : Obj := (.mk .none none (.fields #[(.int 1 0), (.int 0 0), (.ref 20), (.int 5 0), (.int 0 0), (.ref 28), (.int 13 0), (.int 0 0), (.ref 56), (.int 15 0), (.int 0 0), (.ref 68), (.int 17 0), (.int 0 0), (.ref 81), (.int 26 0), (.int 0 0), (.ref 108), (.int 28 0), (.int 0 0), (.ref 113), (.int 30 0), (.int 0 0), (.ref 118), (.int 36 0), (.int 0 0), (.ref 123), (.int 41 0), (.int 0 0), (.ref 130), (.int 47 0), (.int 0 0), (.ref 137), (.int 53 0), (.int 0 0), (.ref 144), (.int 57 0), (.int 0 0), (.ref 151), (.int 65 0), (.int 0 0), (.ref 156), (.int 72 0), (.int 0 0), (.ref 163), (.int 85 0), (.int 0 0), (.ref 168), (.int 94 0), (.int 0 0), (.ref 175), (.int 97 0), (.int 0 0), (.ref 182), (.int 144 0), (.int 0 0), (.ref 232), (.int 146 0), (.int 0 0), (.ref 239), (.int 154 0), (.int 0 0), (.ref 246), (.int 189 0), (.int 0 0), (.ref 302)]) #[])
noncomputable def o353 (P : Params) : Obj := (.mk (.type "tuple") none (.seq #[] 0) #[])
noncomputable def o354 (P : Params) : Obj := (.mk (.type "builtin_function_or_method") none (.fields #[(.builtin "type.__prepare__"), (.type "type")]) #[])
noncomputable def o355 (P : Params) : Obj := (.mk (.type "dict") none (.dict #[(en P "__module__" 565 (.str (Str.ofString "alikeheap.rules") 556)), (en P "__qualname__" 567 (.str (Str.ofString "Rule") 566)), (en P "__firstlineno__" 569 (.int 189 568)), (en P "__init__" 575 (.ref 308)), (en P "turned" 582 (.ref 315)), (en P "__static_attributes__" 587 (.ref 316))] 6) #[])
noncomputable def o356 (P : Params) : Obj := (.mk (.type "tuple") none (.seq #[] 0) #[])
noncomputable def o357 (P : Params) : Obj := (.mk .none none (.fields #[(.int 191 0), (.int 4 0), (.ref 307), (.int 207 0), (.int 4 0), (.ref 314)]) #[])
noncomputable def o358 (P : Params) : Obj := (.mk (.type "code") none (.fields #[(.str (Str.ofString "Rule") 560), (.str (Str.ofString "Rule") 561), (.str (Str.ofString "/claim/cut.py") 562), (.int 189 0), (.int 0 0), (.int 0 0), (.int 0 0), (.int 0 0), (.ref 300), (.bool false), (.int 181 0), (.ref 301), .none, .none, .none, .none, (.int 563 0), (.int 189 0), (.str (Str.ofString "/claim/cut.py") 564)]) #[])
noncomputable def o359 (P : Params) : Obj := (.mk (.type "frame") none .plain #[(some (.ref 302)), (some (.ref 3)), (some (.ref 299)), none, (some (.str (Str.ofString "alikeheap.rules") 556)), none, (some (.ref 0))])
noncomputable def o360 (P : Params) : Obj := (.mk (.type "tuple") none (.seq #[] 0) #[])
noncomputable def o361 (P : Params) : Obj := (.mk .none none (.fields #[]) #[])
noncomputable def o362 (P : Params) : Obj := (.mk .none none (.func ⟨(Str.ofString "__init__"), (Str.ofString "Rule.__init__"), (fP (ms 25 0)), (.stmts (fB (ms 25 0))), (fS (ms 25 0)), 0, [], .none, .none, .none, .none, none, .none, .none, 0⟩) #[])
noncomputable def o363 (P : Params) : Obj := (.mk (.type "code") none (.fields #[(.str (Str.ofString "__init__") 570), (.str (Str.ofString "Rule.__init__") 571), (.str (Str.ofString "/claim/cut.py") 572), (.int 191 0), (.int 5 0), (.int 0 0), (.int 0 0), (.int 3 0), (.ref 304), (.bool true), (.int 181 0), (.ref 305), .none, .none, .none, (.ref 306), (.int 573 0), (.int 191 0), (.str (Str.ofString "/claim/cut.py") 574)]) #[])
noncomputable def o364 (P : Params) : Obj := (.mk (.type "function") none (.func ⟨(Str.ofString "__init__"), (Str.ofString "Rule.__init__"), (fP (ms 25 0)), (.stmts (fB (ms 25 0))), (fS (ms 25 0)), 3, [], .none, .none, .none, (.str (Str.ofString "alikeheap.rules") 556), none, (.ref 307), .none, 0⟩) #[])
noncomputable def o365 (P : Params) : Obj := (.mk (.type "tuple") none (.seq #[] 0) #[])
noncomputable def o366 (P : Params) : Obj := (.mk .none none (.fields #[]) #[])
noncomputable def o367 (P : Params) : Obj := (.mk (.type "tuple") none (.seq #[(.str (Str.ofString "self") 579)] 0) #[])
noncomputable def o368 (P : Params) : Obj := (.mk (.type "tuple") none (.seq #[] 0) #[])
noncomputable def o369 (P : Params) : Obj := (.mk .none none (.func ⟨(Str.ofString "turned"), (Str.ofString "Rule.turned"), (fP (ms 25 1)), (.stmts (fB (ms 25 1))), (fS (ms 25 1)), 0, [], .none, .none, .none, .none, none, .none, .none, 0⟩) #[])
noncomputable def o370 (P : Params) : Obj := (.mk (.type "code") none (.fields #[(.str (Str.ofString "turned") 576), (.str (Str.ofString "Rule.turned") 577), (.str (Str.ofString "/claim/cut.py") 578), (.int 207 0), (.int 1 0), (.int 0 0), (.int 0 0), (.int 3 0), (.ref 309), (.bool true), (.int 181 0), (.ref 310), .none, (.ref 311), (.ref 312), (.ref 313), (.int 580 0), (.int 207 0), (.str (Str.ofString "/claim/cut.py") 581)]) #[])
noncomputable def o371 (P : Params) : Obj := (.mk (.type "function") none (.func ⟨(Str.ofString "turned"), (Str.ofString "Rule.turned"), (fP (ms 25 1)), (.stmts (fB (ms 25 1))), (fS (ms 25 1)), 3, [], .none, .none, .none, (.str (Str.ofString "alikeheap.rules") 556), none, (.ref 314), .none, 0⟩) #[])
noncomputable def o372 (P : Params) : Obj := (.mk (.type "tuple") none (.seq #[(.str (Str.ofString "left") 583), (.str (Str.ofString "name") 584), (.str (Str.ofString "needs") 585), (.str (Str.ofString "right") 586)] 0) #[])
noncomputable def o373 (P : Params) : Obj := (.mk (.type "dict") none (.dict #[(en P "__module__" 565 (.str (Str.ofString "alikeheap.rules") 556)), (en P "__firstlineno__" 569 (.int 189 568)), (en P "__init__" 575 (.ref 308)), (en P "turned" 582 (.ref 315)), (en P "__static_attributes__" 587 (.ref 316)), (en P "__dict__" 589 (.ref 319)), (en P "__weakref__" 591 (.ref 320)), (en P "__doc__" 592 .none)] 4) #[])
noncomputable def o374 (P : Params) : Obj := (.mk (.type "type") none (.cls (.mk (Str.ofString "Rule") [(.type "object")] [(.ref 318), (.type "object")] 317 (Str.ofString "Rule") true [] [] false none false)) #[none, none, (some (.str (Str.ofString "Rule") 558)), (some (.str (Str.ofString "Rule") 566)), (some (.builtin "object.__new__")), (some (.bool true))])
noncomputable def o375 (P : Params) : Obj := (.mk (.type "getset_descriptor") none (.fields #[(.str (Str.ofString "__dict__") 588), (.ref 318), (.builtin "function.__dict__"), (.builtin "function.__dict__#set")]) #[])
noncomputable def o376 (P : Params) : Obj := (.mk (.type "getset_descriptor") none (.fields #[(.str (Str.ofString "__weakref__") 590), (.ref 318), (.builtin "ExceptionGroup.__weakref__"), .none]) #[])
noncomputable def o377 (P : Params) : Obj := (.mk (.type "super") none (.fields #[(.ref 318), (.ref 318), (.ref 318)]) #[])
noncomputable def o378 (P : Params) : Obj := (.mk (.type "builtin_function_or_method") none (.fields #[(.builtin "object.__init_subclass__"), (.ref 318)]) #[])
noncomputable def o379 (P : Params) : Obj := (.mk (.type "tuple") none (.seq #[] 0) #[])
noncomputable def o380 (P : Params) : Obj := (.mk (.type "tuple") none (.seq #[] 0) #[])
noncomputable def o381 (P : Params) : Obj := (.mk (.type "tuple") none (.seq #[(.ref 323), (.str (Str.ofString "told") 597), (.str (Str.ofString "m0") 598), (.ref 324)] 0) #[])
noncomputable def o382 (P : Params) : Obj := (.mk (.type "tuple") none (.seq #[(.int 0 599)] 0) #[])
noncomputable def o383 (P : Params) : Obj := (.mk (.type "tuple") none (.seq #[] 0) #[])
noncomputable def o384 (P : Params) : Obj := (.mk (.type "tuple") none (.seq #[(.ref 326), (.str (Str.ofString "told") 600), (.str (Str.ofString "m0") 601), (.ref 327)] 0) #[])
noncomputable def o385 (P : Params) : Obj := (.mk (.type "tuple") none (.seq #[(.int 0 602), (.int 1 603)] 0) #[])
noncomputable def o386 (P : Params) : Obj := (.mk (.type "tuple") none (.seq #[] 0) #[])
noncomputable def o387 (P : Params) : Obj := (.mk (.type "tuple") none (.seq #[(.ref 329), (.str (Str.ofString "told") 604), (.str (Str.ofString "m1") 605), (.ref 330)] 0) #[])
noncomputable def o388 (P : Params) : Obj := (.mk (.type "tuple") none (.seq #[] 0) #[])
noncomputable def o389 (P : Params) : Obj := (.mk (.type "tuple") none (.seq #[] 0) #[])
noncomputable def o390 (P : Params) : Obj := (.mk (.type "tuple") none (.seq #[(.ref 332), (.str (Str.ofString "rule") 606), (.str (Str.ofString "r") 607), (.ref 333)] 0) #[])
noncomputable def o391 (P : Params) : Obj := (.mk (.type "tuple") none (.seq #[(.int 1 608)] 0) #[])
noncomputable def o392 (P : Params) : Obj := (.mk (.type "tuple") none (.seq #[(.str (Str.ofString "a") 612)] 0) #[])
noncomputable def o393 (P : Params) : Obj := (.mk (.type "tuple") none (.seq #[(.str (Str.ofString "?x") 611), (.ref 336)] 0) #[])
noncomputable def o394 (P : Params) : Obj := (.mk (.type "tuple") none (.seq #[(.ref 337)] 0) #[])
noncomputable def o395 (P : Params) : Obj := (.mk (.type "tuple") none (.seq #[(.ref 335), (.str (Str.ofString "rule") 609), (.str (Str.ofString "r") 610), (.ref 338)] 0) #[])
noncomputable def o396 (P : Params) : Obj := (.mk (.type "tuple") none (.seq #[(.int 1 613)] 0) #[])
noncomputable def o397 (P : Params) : Obj := (.mk (.type "tuple") none (.seq #[(.str (Str.ofString "b") 617)] 0) #[])
noncomputable def o398 (P : Params) : Obj := (.mk (.type "tuple") none (.seq #[(.str (Str.ofString "?x") 616), (.ref 341)] 0) #[])
noncomputable def o399 (P : Params) : Obj := (.mk (.type "tuple") none (.seq #[(.ref 342)] 0) #[])
noncomputable def o400 (P : Params) : Obj := (.mk (.type "tuple") none (.seq #[(.ref 340), (.str (Str.ofString "rule") 614), (.str (Str.ofString "r") 615), (.ref 343)] 0) #[])
noncomputable def o401 (P : Params) : Obj := (.mk (.type "tuple") none (.seq #[(.ref 325), (.ref 328), (.ref 331), (.ref 334), (.ref 339), (.ref 344)] 0) #[])
noncomputable def o402 (P : Params) : Obj := (.mk (.type "dict") none (.dict #[(en P "__name__" 165 (.str (Str.ofString "law_pq0057_01") 595)), (en P "__doc__" 166 .none), (en P "__package__" 167 .none), (en P "__loader__" 168 (.builtin "__main__.__loader__#opaque")), (en P "__spec__" 169 .none), (en P "__annotations__" 170 (.ref 6)), (en P "__builtins__" 171 (.ref 4)), (en P "__file__" 173 (.str (Str.ofString "/claim/cut.py") 172)), (en P "__cached__" 174 .none), (en P "_wall" 193 (.ref 21)), (en P "HeapError" 233 (.ref 47)), (en P "TermFault" 249 (.ref 60)), (en P "RuleFault" 265 (.ref 72)), (en P "PaperFault" 300 (.ref 100)), (en P "is_variable" 309 (.ref 109)), (en P "variables" 315 (.ref 114)), (en P "placed" 321 (.ref 119)), (en P "parts" 327 (.ref 124)), (en P "part_at" 336 (.ref 131)), (en P "replaced" 346 (.ref 138)), (en P "parts_of" 355 (.ref 145)), (en P "is_plain_term" 364 (.ref 152)), (en P "are_places" 370 (.ref 157)), (en P "has_form" 379 (.ref 164)), (en P "in_order" 385 (.ref 169)), (en P "want_form" 393 (.ref 176)), (en P "Judge" 459 (.ref 222)), (en P "turned_step" 466 (.ref 233)), (en P "cancelled" 475 (.ref 240)), (en P "Steps" 555 (.ref 292)), (en P "Rule" 594 (.ref 318)), (en P "_law_steps" 618 (.ref 345)), (en P "_law_told" 628 (.ref 346)), (en P "_law_next" 637 (.ref 360)), (en P "_law_turned" 643 (.ref 365)), (en P "_law_row" 649 (.ref 370)), (en P "_law_rest" 655 (.ref 375)), (en P "_law_able" 669 (.ref 382)), (en P "_law_term" 679 (.ref 389)), (en P "_law_walk" 693 (.ref 396)), (en P "law" 699 (.ref 401))] 41) #[])
noncomputable def o403 (P : Params) : Obj := (.mk .none none (.fields #[(.int 1 0), (.int 0 0), (.ref 20), (.int 5 0), (.int 0 0), (.ref 28), (.int 13 0), (.int 0 0), (.ref 56), (.int 15 0), (.int 0 0), (.ref 68), (.int 17 0), (.int 0 0), (.ref 81), (.int 26 0), (.int 0 0), (.ref 108), (.int 28 0), (.int 0 0), (.ref 113), (.int 30 0), (.int 0 0), (.ref 118), (.int 36 0), (.int 0 0), (.ref 123), (.int 41 0), (.int 0 0), (.ref 130), (.int 47 0), (.int 0 0), (.ref 137), (.int 53 0), (.int 0 0), (.ref 144), (.int 57 0), (.int 0 0), (.ref 151), (.int 65 0), (.int 0 0), (.ref 156), (.int 72 0), (.int 0 0), (.ref 163), (.int 85 0), (.int 0 0), (.ref 168), (.int 94 0), (.int 0 0), (.ref 175), (.int 97 0), (.int 0 0), (.ref 182), (.int 144 0), (.int 0 0), (.ref 232), (.int 146 0), (.int 0 0), (.ref 239), (.int 154 0), (.int 0 0), (.ref 246), (.int 189 0), (.int 0 0), (.ref 302), (.int 212 0), (.int 0 0), (.ref 359), (.int 218 0), (.int 0 0), (.ref 364), (.int 220 0), (.int 0 0), (.ref 369), (.int 222 0), (.int 0 0), (.ref 374), (.int 229 0), (.int 0 0), (.ref 381), (.int 241 0), (.int 0 0), (.ref 388), (.int 247 0), (.int 0 0), (.ref 395), (.int 259 0), (.int 0 0), (.ref 400)]) #[])
noncomputable def o404 (P : Params) : Obj := (.mk (.type "dict") none (.dict #[(en P "m0" 619 (.ref 349)), (en P "m1" 622 (.ref 353))] 2) #[])
noncomputable def o405 (P : Params) : Obj := (.mk (.type "tuple") none (.seq #[(.str (Str.ofString "a") 620)] 0) #[])
noncomputable def o406 (P : Params) : Obj := (.mk (.type "tuple") none (.seq #[(.str (Str.ofString "b") 621)] 0) #[])
noncomputable def o407 (P : Params) : Obj := (.mk (.type "tuple") none (.seq #[(.ref 347), (.ref 348)] 0) #[])
noncomputable def o408 (P : Params) : Obj := (.mk (.type "tuple") none (.seq #[(.str (Str.ofString "a") 624)] 0) #[])
noncomputable def o409 (P : Params) : Obj := (.mk (.type "tuple") none (.seq #[(.str (Str.ofString "f") 623), (.ref 350)] 0) #[])
noncomputable def o410 (P : Params) : Obj := (.mk (.type "tuple") none (.seq #[(.str (Str.ofString "c") 625)] 0) #[])
noncomputable def o411 (P : Params) : Obj := (.mk (.type "tuple") none (.seq #[(.ref 351), (.ref 352)] 0) #[])
noncomputable def o412 (P : Params) : Obj := (.mk (.type "tuple") none (.seq #[] 0) #[])
noncomputable def o413 (P : Params) : Obj := (.mk .none none (.fields #[]) #[])
noncomputable def o414 (P : Params) : Obj := (.mk (.type "tuple") none (.seq #[(.str (Str.ofString "feed") 632), (.str (Str.ofString "wide") 633), (.str (Str.ofString "spot") 634)] 0) #[])
noncomputable def o415 (P : Params) : Obj := (.mk (.type "tuple") none (.seq #[] 0) #[])
noncomputable def o416 (P : Params) : Obj := (.mk .none none (.func ⟨(Str.ofString "_law_next"), (Str.ofString "_law_next"), (fP (st 29)), (.stmts (fB (st 29))), (fS (st 29)), 0, [], .none, .none, .none, .none, none, .none, .none, 0⟩) #[])
noncomputable def o417 (P : Params) : Obj := (.mk (.type "code") none (.fields #[(.str (Str.ofString "_law_next") 629), (.str (Str.ofString "_law_next") 630), (.str (Str.ofString "/claim/cut.py") 631), (.int 212 0), (.int 2 0), (.int 0 0), (.int 0 0), (.int 3 0), (.ref 354), (.bool true), (.int 181 0), (.ref 355), .none, (.ref 356), (.ref 357), (.ref 358), (.int 635 0), (.int 212 0), (.str (Str.ofString "/claim/cut.py") 636)]) #[])
noncomputable def o418 (P : Params) : Obj := (.mk (.type "function") none (.func ⟨(Str.ofString "_law_next"), (Str.ofString "_law_next"), (fP (st 29)), (.stmts (fB (st 29))), (fS (st 29)), 3, [], .none, .none, .none, (.str (Str.ofString "law_pq0057_01") 595), none, (.ref 359), .none, 0⟩) #[])
noncomputable def o419 (P : Params) : Obj := (.mk (.type "tuple") none (.seq #[] 0) #[])
noncomputable def o420 (P : Params) : Obj := (.mk .none none (.fields #[]) #[])
noncomputable def o421 (P : Params) : Obj := (.mk .none none (.func ⟨(Str.ofString "_law_turned"), (Str.ofString "_law_turned"), (fP (st 30)), (.stmts (fB (st 30))), (fS (st 30)), 0, [], .none, .none, .none, .none, none, .none, .none, 0⟩) #[])
noncomputable def o422 (P : Params) : Obj := (.mk (.type "code") none (.fields #[(.str (Str.ofString "_law_turned") 638), (.str (Str.ofString "_law_turned") 639), (.str (Str.ofString "/claim/cut.py") 640), (.int 218 0), (.int 1 0), (.int 0 0), (.int 0 0), (.int 3 0), (.ref 361), (.bool true), (.int 181 0), (.ref 362), .none, .none, .none, (.ref 363), (.int 641 0), (.int 218 0), (.str (Str.ofString "/claim/cut.py") 642)]) #[])
noncomputable def o423 (P : Params) : Obj := (.mk (.type "function") none (.func ⟨(Str.ofString "_law_turned"), (Str.ofString "_law_turned"), (fP (st 30)), (.stmts (fB (st 30))), (fS (st 30)), 3, [], .none, .none, .none, (.str (Str.ofString "law_pq0057_01") 595), none, (.ref 364), .none, 0⟩) #[])
noncomputable def o424 (P : Params) : Obj := (.mk (.type "tuple") none (.seq #[] 0) #[])
noncomputable def o425 (P : Params) : Obj := (.mk .none none (.fields #[]) #[])
noncomputable def o426 (P : Params) : Obj := (.mk .none none (.func ⟨(Str.ofString "_law_row"), (Str.ofString "_law_row"), (fP (st 31)), (.stmts (fB (st 31))), (fS (st 31)), 0, [], .none, .none, .none, .none, none, .none, .none, 0⟩) #[])
noncomputable def o427 (P : Params) : Obj := (.mk (.type "code") none (.fields #[(.str (Str.ofString "_law_row") 644), (.str (Str.ofString "_law_row") 645), (.str (Str.ofString "/claim/cut.py") 646), (.int 220 0), (.int 1 0), (.int 0 0), (.int 0 0), (.int 3 0), (.ref 366), (.bool true), (.int 181 0), (.ref 367), .none, .none, .none, (.ref 368), (.int 647 0), (.int 220 0), (.str (Str.ofString "/claim/cut.py") 648)]) #[])
noncomputable def o428 (P : Params) : Obj := (.mk (.type "function") none (.func ⟨(Str.ofString "_law_row"), (Str.ofString "_law_row"), (fP (st 31)), (.stmts (fB (st 31))), (fS (st 31)), 3, [], .none, .none, .none, (.str (Str.ofString "law_pq0057_01") 595), none, (.ref 369), .none, 0⟩) #[])
noncomputable def o429 (P : Params) : Obj := (.mk (.type "tuple") none (.seq #[] 0) #[])
noncomputable def o430 (P : Params) : Obj := (.mk .none none (.fields #[]) #[])
noncomputable def o431 (P : Params) : Obj := (.mk .none none (.func ⟨(Str.ofString "_law_rest"), (Str.ofString "_law_rest"), (fP (st 32)), (.stmts (fB (st 32))), (fS (st 32)), 0, [], .none, .none, .none, .none, none, .none, .none, 0⟩) #[])
noncomputable def o432 (P : Params) : Obj := (.mk (.type "code") none (.fields #[(.str (Str.ofString "_law_rest") 650), (.str (Str.ofString "_law_rest") 651), (.str (Str.ofString "/claim/cut.py") 652), (.int 222 0), (.int 2 0), (.int 0 0), (.int 0 0), (.int 3 0), (.ref 371), (.bool true), (.int 181 0), (.ref 372), .none, .none, .none, (.ref 373), (.int 653 0), (.int 222 0), (.str (Str.ofString "/claim/cut.py") 654)]) #[])
noncomputable def o433 (P : Params) : Obj := (.mk (.type "function") none (.func ⟨(Str.ofString "_law_rest"), (Str.ofString "_law_rest"), (fP (st 32)), (.stmts (fB (st 32))), (fS (st 32)), 3, [], .none, .none, .none, (.str (Str.ofString "law_pq0057_01") 595), none, (.ref 374), .none, 0⟩) #[])
noncomputable def o434 (P : Params) : Obj := (.mk (.type "tuple") none (.seq #[] 0) #[])
noncomputable def o435 (P : Params) : Obj := (.mk .none none (.fields #[]) #[])
noncomputable def o436 (P : Params) : Obj := (.mk (.type "tuple") none (.seq #[(.str (Str.ofString "t") 659), (.str (Str.ofString "found") 660), (.str (Str.ofString "path") 661), (.str (Str.ofString "part") 662), (.str (Str.ofString "label") 663), (.str (Str.ofString "is_back") 664), (.str (Str.ofString "x") 665), (.str (Str.ofString "y") 666)] 0) #[])
noncomputable def o437 (P : Params) : Obj := (.mk (.type "tuple") none (.seq #[] 0) #[])
noncomputable def o438 (P : Params) : Obj := (.mk .none none (.func ⟨(Str.ofString "_law_able"), (Str.ofString "_law_able"), (fP (st 33)), (.stmts (fB (st 33))), (fS (st 33)), 0, [], .none, .none, .none, .none, none, .none, .none, 0⟩) #[])
noncomputable def o439 (P : Params) : Obj := (.mk (.type "code") none (.fields #[(.str (Str.ofString "_law_able") 656), (.str (Str.ofString "_law_able") 657), (.str (Str.ofString "/claim/cut.py") 658), (.int 229 0), (.int 1 0), (.int 0 0), (.int 0 0), (.int 3 0), (.ref 376), (.bool true), (.int 181 0), (.ref 377), .none, (.ref 378), (.ref 379), (.ref 380), (.int 667 0), (.int 229 0), (.str (Str.ofString "/claim/cut.py") 668)]) #[])
noncomputable def o440 (P : Params) : Obj := (.mk (.type "function") none (.func ⟨(Str.ofString "_law_able"), (Str.ofString "_law_able"), (fP (st 33)), (.stmts (fB (st 33))), (fS (st 33)), 3, [], .none, .none, .none, (.str (Str.ofString "law_pq0057_01") 595), none, (.ref 381), .none, 0⟩) #[])
noncomputable def o441 (P : Params) : Obj := (.mk (.type "tuple") none (.seq #[] 0) #[])
noncomputable def o442 (P : Params) : Obj := (.mk .none none (.fields #[]) #[])
noncomputable def o443 (P : Params) : Obj := (.mk (.type "tuple") none (.seq #[(.str (Str.ofString "feed") 673), (.str (Str.ofString "deep") 674), (.str (Str.ofString "way") 675), (.str (Str.ofString "one") 676)] 0) #[])
noncomputable def o444 (P : Params) : Obj := (.mk (.type "tuple") none (.seq #[] 0) #[])
noncomputable def o445 (P : Params) : Obj := (.mk .none none (.func ⟨(Str.ofString "_law_term"), (Str.ofString "_law_term"), (fP (st 34)), (.stmts (fB (st 34))), (fS (st 34)), 0, [], .none, .none, .none, .none, none, .none, .none, 0⟩) #[])
noncomputable def o446 (P : Params) : Obj := (.mk (.type "code") none (.fields #[(.str (Str.ofString "_law_term") 670), (.str (Str.ofString "_law_term") 671), (.str (Str.ofString "/claim/cut.py") 672), (.int 241 0), (.int 2 0), (.int 0 0), (.int 0 0), (.int 3 0), (.ref 383), (.bool true), (.int 181 0), (.ref 384), .none, (.ref 385), (.ref 386), (.ref 387), (.int 677 0), (.int 241 0), (.str (Str.ofString "/claim/cut.py") 678)]) #[])
noncomputable def o447 (P : Params) : Obj := (.mk (.type "function") none (.func ⟨(Str.ofString "_law_term"), (Str.ofString "_law_term"), (fP (st 34)), (.stmts (fB (st 34))), (fS (st 34)), 3, [], .none, .none, .none, (.str (Str.ofString "law_pq0057_01") 595), none, (.ref 388), .none, 0⟩) #[])
noncomputable def o448 (P : Params) : Obj := (.mk (.type "tuple") none (.seq #[] 0) #[])
noncomputable def o449 (P : Params) : Obj := (.mk .none none (.fields #[]) #[])
noncomputable def o450 (P : Params) : Obj := (.mk (.type "tuple") none (.seq #[(.str (Str.ofString "feed") 683), (.str (Str.ofString "t") 684), (.str (Str.ofString "row") 685), (.str (Str.ofString "terms") 686), (.str (Str.ofString "lap") 687), (.str (Str.ofString "some") 688), (.str (Str.ofString "step") 689), (.str (Str.ofString "late") 690)] 0) #[])
noncomputable def o451 (P : Params) : Obj := (.mk (.type "tuple") none (.seq #[] 0) #[])
noncomputable def o452 (P : Params) : Obj := (.mk .none none (.func ⟨(Str.ofString "_law_walk"), (Str.ofString "_law_walk"), (fP (st 35)), (.stmts (fB (st 35))), (fS (st 35)), 0, [], .none, .none, .none, .none, none, .none, .none, 0⟩) #[])
noncomputable def o453 (P : Params) : Obj := (.mk (.type "code") none (.fields #[(.str (Str.ofString "_law_walk") 680), (.str (Str.ofString "_law_walk") 681), (.str (Str.ofString "/claim/cut.py") 682), (.int 247 0), (.int 2 0), (.int 0 0), (.int 0 0), (.int 3 0), (.ref 390), (.bool true), (.int 181 0), (.ref 391), .none, (.ref 392), (.ref 393), (.ref 394), (.int 691 0), (.int 247 0), (.str (Str.ofString "/claim/cut.py") 692)]) #[])
noncomputable def o454 (P : Params) : Obj := (.mk (.type "function") none (.func ⟨(Str.ofString "_law_walk"), (Str.ofString "_law_walk"), (fP (st 35)), (.stmts (fB (st 35))), (fS (st 35)), 3, [], .none, .none, .none, (.str (Str.ofString "law_pq0057_01") 595), none, (.ref 395), .none, 0⟩) #[])
noncomputable def o455 (P : Params) : Obj := (.mk (.type "tuple") none (.seq #[] 0) #[])
noncomputable def o456 (P : Params) : Obj := (.mk .none none (.fields #[]) #[])
noncomputable def o457 (P : Params) : Obj := (.mk .none none (.func ⟨(Str.ofString "law"), (Str.ofString "law"), (fP (st 36)), (.stmts (fB (st 36))), (fS (st 36)), 0, [], .none, .none, .none, .none, none, .none, .none, 0⟩) #[])
noncomputable def o458 (P : Params) : Obj := (.mk (.type "code") none (.fields #[(.str (Str.ofString "law") 694), (.str (Str.ofString "law") 695), (.str (Str.ofString "/claim/cut.py") 696), (.int 259 0), (.int 1 0), (.int 0 0), (.int 0 0), (.int 3 0), (.ref 397), (.bool true), (.int 181 0), (.ref 398), .none, .none, .none, (.ref 399), (.int 697 0), (.int 259 0), (.str (Str.ofString "/claim/cut.py") 698)]) #[])
noncomputable def o459 (P : Params) : Obj := (.mk (.type "function") none (.func ⟨(Str.ofString "law"), (Str.ofString "law"), (fP (st 36)), (.stmts (fB (st 36))), (fS (st 36)), 3, [], .none, .none, .none, (.str (Str.ofString "law_pq0057_01") 595), none, (.ref 400), .none, 0⟩) #[])
noncomputable def tree47 (P : Params) : BT := (.node (boot_o_0 P) (.node (boot_o_1 P) (.node (boot_o_3 P) (.node (boot_o_7 P) .nil .nil) (.node (o43 P) .nil .nil)) (.node (boot_o_5 P) (.node (boot_o_9 P) .nil .nil) (.node (o45 P) .nil .nil))) (.node (boot_o_2 P) (.node (boot_o_4 P) (.node (boot_o_8 P) .nil .nil) (.node (o44 P) .nil .nil)) (.node (boot_o_6 P) (.node (boot_o_10 P) .nil .nil) (.node (o46 P) .nil .nil))))
noncomputable def tree87 (P : Params) : BT := (.node (boot_o_0 P) (.node (boot_o_1 P) (.node (o50 P) (.node (boot_o_7 P) (.node (o52 P) (.node (o68 P) .nil .nil) (.node (o84 P) .nil .nil)) (.node (o60 P) (.node (o76 P) .nil .nil) .nil)) (.node (o43 P) (.node (o56 P) (.node (o72 P) .nil .nil) .nil) (.node (o64 P) (.node (o80 P) .nil .nil) .nil))) (.node (boot_o_5 P) (.node (boot_o_9 P) (.node (o54 P) (.node (o70 P) .nil .nil) (.node (o86 P) .nil .nil)) (.node (o62 P) (.node (o78 P) .nil .nil) .nil)) (.node (o45 P) (.node (o58 P) (.node (o74 P) .nil .nil) .nil) (.node (o66 P) (.node (o82 P) .nil .nil) .nil)))) (.node (o49 P) (.node (boot_o_4 P) (.node (boot_o_8 P) (.node (o53 P) (.node (o69 P) .nil .nil) (.node (o85 P) .nil .nil)) (.node (o61 P) (.node (o77 P) .nil .nil) .nil)) (.node (o51 P) (.node (o57 P) (.node (o73 P) .nil .nil) .nil) (.node (o65 P) (.node (o81 P) .nil .nil) .nil))) (.node (boot_o_6 P) (.node (boot_o_10 P) (.node (o55 P) (.node (o71 P) .nil .nil) (.node (o87 P) .nil .nil)) (.node (o63 P) (.node (o79 P) .nil .nil) .nil)) (.node (o46 P) (.node (o59 P) (.node (o75 P) .nil .nil) .nil) (.node (o67 P) (.node (o83 P) .nil .nil) .nil)))))
noncomputable def tree102 (P : Params) : BT := (.node (boot_o_0 P) (.node (boot_o_1 P) (.node (o88 P) (.node (boot_o_7 P) (.node (o52 P) (.node (o68 P) .nil .nil) (.node (o90 P) .nil .nil)) (.node (o60 P) (.node (o76 P) .nil .nil) (.node (o95 P) .nil .nil))) (.node (o43 P) (.node (o56 P) (.node (o72 P) .nil .nil) (.node (o91 P) .nil .nil)) (.node (o64 P) (.node (o80 P) .nil .nil) (.node (o99 P) .nil .nil)))) (.node (boot_o_5 P) (.node (boot_o_9 P) (.node (o54 P) (.node (o70 P) .nil .nil) (.node (o86 P) .nil .nil)) (.node (o62 P) (.node (o78 P) .nil .nil) (.node (o97 P) .nil .nil))) (.node (o45 P) (.node (o58 P) (.node (o74 P) .nil .nil) (.node (o93 P) .nil .nil)) (.node (o66 P) (.node (o82 P) .nil .nil) (.node (o101 P) .nil .nil))))) (.node (o49 P) (.node (boot_o_4 P) (.node (boot_o_8 P) (.node (o53 P) (.node (o69 P) .nil .nil) (.node (o85 P) .nil .nil)) (.node (o61 P) (.node (o77 P) .nil .nil) (.node (o96 P) .nil .nil))) (.node (o89 P) (.node (o57 P) (.node (o73 P) .nil .nil) (.node (o92 P) .nil .nil)) (.node (o65 P) (.node (o81 P) .nil .nil) (.node (o100 P) .nil .nil)))) (.node (boot_o_6 P) (.node (boot_o_10 P) (.node (o55 P) (.node (o71 P) .nil .nil) (.node (o87 P) .nil .nil)) (.node (o63 P) (.node (o79 P) .nil .nil) (.node (o98 P) .nil .nil))) (.node (o46 P) (.node (o59 P) (.node (o75 P) .nil .nil) (.node (o94 P) .nil .nil)) (.node (o67 P) (.node (o83 P) .nil .nil) (.node (o102 P) .nil .nil))))))
noncomputable def tree117 (P : Params) : BT := (.node (boot_o_0 P) (.node (boot_o_1 P) (.node (o103 P) (.node (boot_o_7 P) (.node (o52 P) (.node (o68 P) (.node (o106 P) .nil .nil) .nil) (.node (o105 P) .nil .nil)) (.node (o60 P) (.node (o76 P) (.node (o114 P) .nil .nil) .nil) (.node (o95 P) .nil .nil))) (.node (o43 P) (.node (o56 P) (.node (o72 P) (.node (o110 P) .nil .nil) .nil) (.node (o91 P) .nil .nil)) (.node (o64 P) (.node (o80 P) .nil .nil) (.node (o99 P) .nil .nil)))) (.node (boot_o_5 P) (.node (boot_o_9 P) (.node (o54 P) (.node (o70 P) (.node (o108 P) .nil .nil) .nil) (.node (o86 P) .nil .nil)) (.node (o62 P) (.node (o78 P) (.node (o116 P) .nil .nil) .nil) (.node (o97 P) .nil .nil))) (.node (o45 P) (.node (o58 P) (.node (o74 P) (.node (o112 P) .nil .nil) .nil) (.node (o93 P) .nil .nil)) (.node (o66 P) (.node (o82 P) .nil .nil) (.node (o101 P) .nil .nil))))) (.node (o49 P) (.node (boot_o_4 P) (.node (boot_o_8 P) (.node (o53 P) (.node (o69 P) (.node (o107 P) .nil .nil) .nil) (.node (o85 P) .nil .nil)) (.node (o61 P) (.node (o77 P) (.node (o115 P) .nil .nil) .nil) (.node (o96 P) .nil .nil))) (.node (o104 P) (.node (o57 P) (.node (o73 P) (.node (o111 P) .nil .nil) .nil) (.node (o92 P) .nil .nil)) (.node (o65 P) (.node (o81 P) .nil .nil) (.node (o100 P) .nil .nil)))) (.node (boot_o_6 P) (.node (boot_o_10 P) (.node (o55 P) (.node (o71 P) (.node (o109 P) .nil .nil) .nil) (.node (o87 P) .nil .nil)) (.node (o63 P) (.node (o79 P) (.node (o117 P) .nil .nil) .nil) (.node (o98 P) .nil .nil))) (.node (o46 P) (.node (o59 P) (.node (o75 P) (.node (o113 P) .nil .nil) .nil) (.node (o94 P) .nil .nil)) (.node (o67 P) (.node (o83 P) .nil .nil) (.node (o102 P) .nil .nil))))))
noncomputable def tree165 (P : Params) : BT := (.node (boot_o_0 P) (.node (boot_o_1 P) (.node (o118 P) (.node (boot_o_7 P) (.node (o52 P) (.node (o68 P) (.node (o106 P) .nil .nil) (.node (o141 P) .nil .nil)) (.node (o120 P) (.node (o125 P) .nil .nil) (.node (o157 P) .nil .nil))) (.node (o60 P) (.node (o76 P) (.node (o114 P) .nil .nil) (.node (o149 P) .nil .nil)) (.node (o95 P) (.node (o133 P) .nil .nil) (.node (o165 P) .nil .nil)))) (.node (o43 P) (.node (o56 P) (.node (o72 P) (.node (o110 P) .nil .nil) (.node (o145 P) .nil .nil)) (.node (o91 P) (.node (o129 P) .nil .nil) (.node (o161 P) .nil .nil))) (.node (o64 P) (.node (o80 P) (.node (o121 P) .nil .nil) (.node (o153 P) .nil .nil)) (.node (o99 P) (.node (o137 P) .nil .nil) .nil)))) (.node (boot_o_5 P) (.node (boot_o_9 P) (.node (o54 P) (.node (o70 P) (.node (o108 P) .nil .nil) (.node (o143 P) .nil .nil)) (.node (o86 P) (.node (o127 P) .nil .nil) (.node (o159 P) .nil .nil))) (.node (o62 P) (.node (o78 P) (.node (o116 P) .nil .nil) (.node (o151 P) .nil .nil)) (.node (o97 P) (.node (o135 P) .nil .nil) .nil))) (.node (o45 P) (.node (o58 P) (.node (o74 P) (.node (o112 P) .nil .nil) (.node (o147 P) .nil .nil)) (.node (o93 P) (.node (o131 P) .nil .nil) (.node (o163 P) .nil .nil))) (.node (o66 P) (.node (o82 P) (.node (o123 P) .nil .nil) (.node (o155 P) .nil .nil)) (.node (o101 P) (.node (o139 P) .nil .nil) .nil))))) (.node (o49 P) (.node (boot_o_4 P) (.node (boot_o_8 P) (.node (o53 P) (.node (o69 P) (.node (o107 P) .nil .nil) (.node (o142 P) .nil .nil)) (.node (o85 P) (.node (o126 P) .nil .nil) (.node (o158 P) .nil .nil))) (.node (o61 P) (.node (o77 P) (.node (o115 P) .nil .nil) (.node (o150 P) .nil .nil)) (.node (o96 P) (.node (o134 P) .nil .nil) .nil))) (.node (o119 P) (.node (o57 P) (.node (o73 P) (.node (o111 P) .nil .nil) (.node (o146 P) .nil .nil)) (.node (o92 P) (.node (o130 P) .nil .nil) (.node (o162 P) .nil .nil))) (.node (o65 P) (.node (o81 P) (.node (o122 P) .nil .nil) (.node (o154 P) .nil .nil)) (.node (o100 P) (.node (o138 P) .nil .nil) .nil)))) (.node (boot_o_6 P) (.node (boot_o_10 P) (.node (o55 P) (.node (o71 P) (.node (o109 P) .nil .nil) (.node (o144 P) .nil .nil)) (.node (o87 P) (.node (o128 P) .nil .nil) (.node (o160 P) .nil .nil))) (.node (o63 P) (.node (o79 P) (.node (o117 P) .nil .nil) (.node (o152 P) .nil .nil)) (.node (o98 P) (.node (o136 P) .nil .nil) .nil))) (.node (o46 P) (.node (o59 P) (.node (o75 P) (.node (o113 P) .nil .nil) (.node (o148 P) .nil .nil)) (.node (o94 P) (.node (o132 P) .nil .nil) (.node (o164 P) .nil .nil))) (.node (o67 P) (.node (o83 P) (.node (o124 P) .nil .nil) (.node (o156 P) .nil .nil)) (.node (o102 P) (.node (o140 P) .nil .nil) .nil))))))
noncomputable def tree224 (P : Params) : BT := (.node (boot_o_0 P) (.node (boot_o_1 P) (.node (o166 P) (.node (boot_o_7 P) (.node (o52 P) (.node (o68 P) (.node (o106 P) (.node (o175 P) .nil .nil) .nil) (.node (o141 P) (.node (o207 P) .nil .nil) .nil)) (.node (o120 P) (.node (o125 P) (.node (o191 P) .nil .nil) .nil) (.node (o157 P) (.node (o223 P) .nil .nil) .nil))) (.node (o60 P) (.node (o76 P) (.node (o114 P) (.node (o183 P) .nil .nil) .nil) (.node (o149 P) (.node (o215 P) .nil .nil) .nil)) (.node (o95 P) (.node (o133 P) (.node (o199 P) .nil .nil) .nil) (.node (o165 P) .nil .nil)))) (.node (o43 P) (.node (o56 P) (.node (o72 P) (.node (o110 P) (.node (o179 P) .nil .nil) .nil) (.node (o145 P) (.node (o211 P) .nil .nil) .nil)) (.node (o91 P) (.node (o129 P) (.node (o195 P) .nil .nil) .nil) (.node (o161 P) .nil .nil))) (.node (o64 P) (.node (o80 P) (.node (o121 P) (.node (o187 P) .nil .nil) .nil) (.node (o153 P) (.node (o219 P) .nil .nil) .nil)) (.node (o99 P) (.node (o137 P) (.node (o203 P) .nil .nil) .nil) (.node (o171 P) .nil .nil))))) (.node (boot_o_5 P) (.node (boot_o_9 P) (.node (o54 P) (.node (o70 P) (.node (o108 P) (.node (o177 P) .nil .nil) .nil) (.node (o143 P) (.node (o209 P) .nil .nil) .nil)) (.node (o86 P) (.node (o127 P) (.node (o193 P) .nil .nil) .nil) (.node (o159 P) .nil .nil))) (.node (o62 P) (.node (o78 P) (.node (o116 P) (.node (o185 P) .nil .nil) .nil) (.node (o151 P) (.node (o217 P) .nil .nil) .nil)) (.node (o97 P) (.node (o135 P) (.node (o201 P) .nil .nil) .nil) (.node (o169 P) .nil .nil)))) (.node (o45 P) (.node (o58 P) (.node (o74 P) (.node (o112 P) (.node (o181 P) .nil .nil) .nil) (.node (o147 P) (.node (o213 P) .nil .nil) .nil)) (.node (o93 P) (.node (o131 P) (.node (o197 P) .nil .nil) .nil) (.node (o163 P) .nil .nil))) (.node (o66 P) (.node (o82 P) (.node (o123 P) (.node (o189 P) .nil .nil) .nil) (.node (o155 P) (.node (o221 P) .nil .nil) .nil)) (.node (o101 P) (.node (o139 P) (.node (o205 P) .nil .nil) .nil) (.node (o173 P) .nil .nil)))))) (.node (o49 P) (.node (boot_o_4 P) (.node (boot_o_8 P) (.node (o53 P) (.node (o69 P) (.node (o107 P) (.node (o176 P) .nil .nil) .nil) (.node (o142 P) (.node (o208 P) .nil .nil) .nil)) (.node (o85 P) (.node (o126 P) (.node (o192 P) .nil .nil) .nil) (.node (o158 P) (.node (o224 P) .nil .nil) .nil))) (.node (o61 P) (.node (o77 P) (.node (o115 P) (.node (o184 P) .nil .nil) .nil) (.node (o150 P) (.node (o216 P) .nil .nil) .nil)) (.node (o96 P) (.node (o134 P) (.node (o200 P) .nil .nil) .nil) (.node (o168 P) .nil .nil)))) (.node (o167 P) (.node (o57 P) (.node (o73 P) (.node (o111 P) (.node (o180 P) .nil .nil) .nil) (.node (o146 P) (.node (o212 P) .nil .nil) .nil)) (.node (o92 P) (.node (o130 P) (.node (o196 P) .nil .nil) .nil) (.node (o162 P) .nil .nil))) (.node (o65 P) (.node (o81 P) (.node (o122 P) (.node (o188 P) .nil .nil) .nil) (.node (o154 P) (.node (o220 P) .nil .nil) .nil)) (.node (o100 P) (.node (o138 P) (.node (o204 P) .nil .nil) .nil) (.node (o172 P) .nil .nil))))) (.node (boot_o_6 P) (.node (boot_o_10 P) (.node (o55 P) (.node (o71 P) (.node (o109 P) (.node (o178 P) .nil .nil) .nil) (.node (o144 P) (.node (o210 P) .nil .nil) .nil)) (.node (o87 P) (.node (o128 P) (.node (o194 P) .nil .nil) .nil) (.node (o160 P) .nil .nil))) (.node (o63 P) (.node (o79 P) (.node (o117 P) (.node (o186 P) .nil .nil) .nil) (.node (o152 P) (.node (o218 P) .nil .nil) .nil)) (.node (o98 P) (.node (o136 P) (.node (o202 P) .nil .nil) .nil) (.node (o170 P) .nil .nil)))) (.node (o46 P) (.node (o59 P) (.node (o75 P) (.node (o113 P) (.node (o182 P) .nil .nil) .nil) (.node (o148 P) (.node (o214 P) .nil .nil) .nil)) (.node (o94 P) (.node (o132 P) (.node (o198 P) .nil .nil) .nil) (.node (o164 P) .nil .nil))) (.node (o67 P) (.node (o83 P) (.node (o124 P) (.node (o190 P) .nil .nil) .nil) (.node (o156 P) (.node (o222 P) .nil .nil) .nil)) (.node (o102 P) (.node (o140 P) (.node (o206 P) .nil .nil) .nil) (.node (o174 P) .nil .nil)))))))
noncomputable def tree276 (P : Params) : BT := (.node (boot_o_0 P) (.node (boot_o_1 P) (.node (o225 P) (.node (boot_o_7 P) (.node (o52 P) (.node (o68 P) (.node (o106 P) (.node (o175 P) .nil .nil) (.node (o241 P) .nil .nil)) (.node (o141 P) (.node (o207 P) .nil .nil) (.node (o273 P) .nil .nil))) (.node (o120 P) (.node (o125 P) (.node (o191 P) .nil .nil) (.node (o257 P) .nil .nil)) (.node (o157 P) (.node (o223 P) .nil .nil) .nil))) (.node (o60 P) (.node (o76 P) (.node (o114 P) (.node (o183 P) .nil .nil) (.node (o249 P) .nil .nil)) (.node (o149 P) (.node (o215 P) .nil .nil) .nil)) (.node (o95 P) (.node (o133 P) (.node (o199 P) .nil .nil) (.node (o265 P) .nil .nil)) (.node (o165 P) (.node (o233 P) .nil .nil) .nil)))) (.node (o43 P) (.node (o56 P) (.node (o72 P) (.node (o110 P) (.node (o179 P) .nil .nil) (.node (o245 P) .nil .nil)) (.node (o145 P) (.node (o211 P) .nil .nil) .nil)) (.node (o91 P) (.node (o129 P) (.node (o195 P) .nil .nil) (.node (o261 P) .nil .nil)) (.node (o161 P) (.node (o229 P) .nil .nil) .nil))) (.node (o64 P) (.node (o80 P) (.node (o121 P) (.node (o187 P) .nil .nil) (.node (o253 P) .nil .nil)) (.node (o153 P) (.node (o219 P) .nil .nil) .nil)) (.node (o99 P) (.node (o137 P) (.node (o203 P) .nil .nil) (.node (o269 P) .nil .nil)) (.node (o171 P) (.node (o237 P) .nil .nil) .nil))))) (.node (boot_o_5 P) (.node (boot_o_9 P) (.node (o54 P) (.node (o70 P) (.node (o108 P) (.node (o177 P) .nil .nil) (.node (o243 P) .nil .nil)) (.node (o143 P) (.node (o209 P) .nil .nil) (.node (o275 P) .nil .nil))) (.node (o86 P) (.node (o127 P) (.node (o193 P) .nil .nil) (.node (o259 P) .nil .nil)) (.node (o159 P) (.node (o227 P) .nil .nil) .nil))) (.node (o62 P) (.node (o78 P) (.node (o116 P) (.node (o185 P) .nil .nil) (.node (o251 P) .nil .nil)) (.node (o151 P) (.node (o217 P) .nil .nil) .nil)) (.node (o97 P) (.node (o135 P) (.node (o201 P) .nil .nil) (.node (o267 P) .nil .nil)) (.node (o169 P) (.node (o235 P) .nil .nil) .nil)))) (.node (o45 P) (.node (o58 P) (.node (o74 P) (.node (o112 P) (.node (o181 P) .nil .nil) (.node (o247 P) .nil .nil)) (.node (o147 P) (.node (o213 P) .nil .nil) .nil)) (.node (o93 P) (.node (o131 P) (.node (o197 P) .nil .nil) (.node (o263 P) .nil .nil)) (.node (o163 P) (.node (o231 P) .nil .nil) .nil))) (.node (o66 P) (.node (o82 P) (.node (o123 P) (.node (o189 P) .nil .nil) (.node (o255 P) .nil .nil)) (.node (o155 P) (.node (o221 P) .nil .nil) .nil)) (.node (o101 P) (.node (o139 P) (.node (o205 P) .nil .nil) (.node (o271 P) .nil .nil)) (.node (o173 P) (.node (o239 P) .nil .nil) .nil)))))) (.node (o49 P) (.node (boot_o_4 P) (.node (boot_o_8 P) (.node (o53 P) (.node (o69 P) (.node (o107 P) (.node (o176 P) .nil .nil) (.node (o242 P) .nil .nil)) (.node (o142 P) (.node (o208 P) .nil .nil) (.node (o274 P) .nil .nil))) (.node (o85 P) (.node (o126 P) (.node (o192 P) .nil .nil) (.node (o258 P) .nil .nil)) (.node (o158 P) (.node (o224 P) .nil .nil) .nil))) (.node (o61 P) (.node (o77 P) (.node (o115 P) (.node (o184 P) .nil .nil) (.node (o250 P) .nil .nil)) (.node (o150 P) (.node (o216 P) .nil .nil) .nil)) (.node (o96 P) (.node (o134 P) (.node (o200 P) .nil .nil) (.node (o266 P) .nil .nil)) (.node (o168 P) (.node (o234 P) .nil .nil) .nil)))) (.node (o226 P) (.node (o57 P) (.node (o73 P) (.node (o111 P) (.node (o180 P) .nil .nil) (.node (o246 P) .nil .nil)) (.node (o146 P) (.node (o212 P) .nil .nil) .nil)) (.node (o92 P) (.node (o130 P) (.node (o196 P) .nil .nil) (.node (o262 P) .nil .nil)) (.node (o162 P) (.node (o230 P) .nil .nil) .nil))) (.node (o65 P) (.node (o81 P) (.node (o122 P) (.node (o188 P) .nil .nil) (.node (o254 P) .nil .nil)) (.node (o154 P) (.node (o220 P) .nil .nil) .nil)) (.node (o100 P) (.node (o138 P) (.node (o204 P) .nil .nil) (.node (o270 P) .nil .nil)) (.node (o172 P) (.node (o238 P) .nil .nil) .nil))))) (.node (boot_o_6 P) (.node (boot_o_10 P) (.node (o55 P) (.node (o71 P) (.node (o109 P) (.node (o178 P) .nil .nil) (.node (o244 P) .nil .nil)) (.node (o144 P) (.node (o210 P) .nil .nil) (.node (o276 P) .nil .nil))) (.node (o87 P) (.node (o128 P) (.node (o194 P) .nil .nil) (.node (o260 P) .nil .nil)) (.node (o160 P) (.node (o228 P) .nil .nil) .nil))) (.node (o63 P) (.node (o79 P) (.node (o117 P) (.node (o186 P) .nil .nil) (.node (o252 P) .nil .nil)) (.node (o152 P) (.node (o218 P) .nil .nil) .nil)) (.node (o98 P) (.node (o136 P) (.node (o202 P) .nil .nil) (.node (o268 P) .nil .nil)) (.node (o170 P) (.node (o236 P) .nil .nil) .nil)))) (.node (o46 P) (.node (o59 P) (.node (o75 P) (.node (o113 P) (.node (o182 P) .nil .nil) (.node (o248 P) .nil .nil)) (.node (o148 P) (.node (o214 P) .nil .nil) .nil)) (.node (o94 P) (.node (o132 P) (.node (o198 P) .nil .nil) (.node (o264 P) .nil .nil)) (.node (o164 P) (.node (o232 P) .nil .nil) .nil))) (.node (o67 P) (.node (o83 P) (.node (o124 P) (.node (o190 P) .nil .nil) (.node (o256 P) .nil .nil)) (.node (o156 P) (.node (o222 P) .nil .nil) .nil)) (.node (o102 P) (.node (o140 P) (.node (o206 P) .nil .nil) (.node (o272 P) .nil .nil)) (.node (o174 P) (.node (o240 P) .nil .nil) .nil)))))))
noncomputable def tree292 (P : Params) : BT := (.node (boot_o_0 P) (.node (boot_o_1 P) (.node (o277 P) (.node (boot_o_7 P) (.node (o52 P) (.node (o68 P) (.node (o106 P) (.node (o175 P) .nil .nil) (.node (o241 P) .nil .nil)) (.node (o141 P) (.node (o207 P) .nil .nil) (.node (o273 P) .nil .nil))) (.node (o120 P) (.node (o125 P) (.node (o191 P) .nil .nil) (.node (o257 P) .nil .nil)) (.node (o157 P) (.node (o223 P) .nil .nil) (.node (o291 P) .nil .nil)))) (.node (o60 P) (.node (o76 P) (.node (o114 P) (.node (o183 P) .nil .nil) (.node (o249 P) .nil .nil)) (.node (o149 P) (.node (o215 P) .nil .nil) (.node (o283 P) .nil .nil))) (.node (o95 P) (.node (o133 P) (.node (o199 P) .nil .nil) (.node (o265 P) .nil .nil)) (.node (o165 P) (.node (o233 P) .nil .nil) .nil)))) (.node (o43 P) (.node (o56 P) (.node (o72 P) (.node (o110 P) (.node (o179 P) .nil .nil) (.node (o245 P) .nil .nil)) (.node (o145 P) (.node (o211 P) .nil .nil) (.node (o279 P) .nil .nil))) (.node (o91 P) (.node (o129 P) (.node (o195 P) .nil .nil) (.node (o261 P) .nil .nil)) (.node (o161 P) (.node (o229 P) .nil .nil) .nil))) (.node (o64 P) (.node (o80 P) (.node (o121 P) (.node (o187 P) .nil .nil) (.node (o253 P) .nil .nil)) (.node (o153 P) (.node (o219 P) .nil .nil) (.node (o287 P) .nil .nil))) (.node (o99 P) (.node (o137 P) (.node (o203 P) .nil .nil) (.node (o269 P) .nil .nil)) (.node (o171 P) (.node (o237 P) .nil .nil) .nil))))) (.node (boot_o_5 P) (.node (boot_o_9 P) (.node (o54 P) (.node (o70 P) (.node (o108 P) (.node (o177 P) .nil .nil) (.node (o243 P) .nil .nil)) (.node (o143 P) (.node (o209 P) .nil .nil) (.node (o275 P) .nil .nil))) (.node (o86 P) (.node (o127 P) (.node (o193 P) .nil .nil) (.node (o259 P) .nil .nil)) (.node (o159 P) (.node (o227 P) .nil .nil) .nil))) (.node (o62 P) (.node (o78 P) (.node (o116 P) (.node (o185 P) .nil .nil) (.node (o251 P) .nil .nil)) (.node (o151 P) (.node (o217 P) .nil .nil) (.node (o285 P) .nil .nil))) (.node (o97 P) (.node (o135 P) (.node (o201 P) .nil .nil) (.node (o267 P) .nil .nil)) (.node (o169 P) (.node (o235 P) .nil .nil) .nil)))) (.node (o45 P) (.node (o58 P) (.node (o74 P) (.node (o112 P) (.node (o181 P) .nil .nil) (.node (o247 P) .nil .nil)) (.node (o147 P) (.node (o213 P) .nil .nil) (.node (o281 P) .nil .nil))) (.node (o93 P) (.node (o131 P) (.node (o197 P) .nil .nil) (.node (o263 P) .nil .nil)) (.node (o163 P) (.node (o231 P) .nil .nil) .nil))) (.node (o66 P) (.node (o82 P) (.node (o123 P) (.node (o189 P) .nil .nil) (.node (o255 P) .nil .nil)) (.node (o155 P) (.node (o221 P) .nil .nil) (.node (o289 P) .nil .nil))) (.node (o101 P) (.node (o139 P) (.node (o205 P) .nil .nil) (.node (o271 P) .nil .nil)) (.node (o173 P) (.node (o239 P) .nil .nil) .nil)))))) (.node (o49 P) (.node (boot_o_4 P) (.node (boot_o_8 P) (.node (o53 P) (.node (o69 P) (.node (o107 P) (.node (o176 P) .nil .nil) (.node (o242 P) .nil .nil)) (.node (o142 P) (.node (o208 P) .nil .nil) (.node (o274 P) .nil .nil))) (.node (o85 P) (.node (o126 P) (.node (o192 P) .nil .nil) (.node (o258 P) .nil .nil)) (.node (o158 P) (.node (o224 P) .nil .nil) (.node (o292 P) .nil .nil)))) (.node (o61 P) (.node (o77 P) (.node (o115 P) (.node (o184 P) .nil .nil) (.node (o250 P) .nil .nil)) (.node (o150 P) (.node (o216 P) .nil .nil) (.node (o284 P) .nil .nil))) (.node (o96 P) (.node (o134 P) (.node (o200 P) .nil .nil) (.node (o266 P) .nil .nil)) (.node (o168 P) (.node (o234 P) .nil .nil) .nil)))) (.node (o278 P) (.node (o57 P) (.node (o73 P) (.node (o111 P) (.node (o180 P) .nil .nil) (.node (o246 P) .nil .nil)) (.node (o146 P) (.node (o212 P) .nil .nil) (.node (o280 P) .nil .nil))) (.node (o92 P) (.node (o130 P) (.node (o196 P) .nil .nil) (.node (o262 P) .nil .nil)) (.node (o162 P) (.node (o230 P) .nil .nil) .nil))) (.node (o65 P) (.node (o81 P) (.node (o122 P) (.node (o188 P) .nil .nil) (.node (o254 P) .nil .nil)) (.node (o154 P) (.node (o220 P) .nil .nil) (.node (o288 P) .nil .nil))) (.node (o100 P) (.node (o138 P) (.node (o204 P) .nil .nil) (.node (o270 P) .nil .nil)) (.node (o172 P) (.node (o238 P) .nil .nil) .nil))))) (.node (boot_o_6 P) (.node (boot_o_10 P) (.node (o55 P) (.node (o71 P) (.node (o109 P) (.node (o178 P) .nil .nil) (.node (o244 P) .nil .nil)) (.node (o144 P) (.node (o210 P) .nil .nil) (.node (o276 P) .nil .nil))) (.node (o87 P) (.node (o128 P) (.node (o194 P) .nil .nil) (.node (o260 P) .nil .nil)) (.node (o160 P) (.node (o228 P) .nil .nil) .nil))) (.node (o63 P) (.node (o79 P) (.node (o117 P) (.node (o186 P) .nil .nil) (.node (o252 P) .nil .nil)) (.node (o152 P) (.node (o218 P) .nil .nil) (.node (o286 P) .nil .nil))) (.node (o98 P) (.node (o136 P) (.node (o202 P) .nil .nil) (.node (o268 P) .nil .nil)) (.node (o170 P) (.node (o236 P) .nil .nil) .nil)))) (.node (o46 P) (.node (o59 P) (.node (o75 P) (.node (o113 P) (.node (o182 P) .nil .nil) (.node (o248 P) .nil .nil)) (.node (o148 P) (.node (o214 P) .nil .nil) (.node (o282 P) .nil .nil))) (.node (o94 P) (.node (o132 P) (.node (o198 P) .nil .nil) (.node (o264 P) .nil .nil)) (.node (o164 P) (.node (o232 P) .nil .nil) .nil))) (.node (o67 P) (.node (o83 P) (.node (o124 P) (.node (o190 P) .nil .nil) (.node (o256 P) .nil .nil)) (.node (o156 P) (.node (o222 P) .nil .nil) (.node (o290 P) .nil .nil))) (.node (o102 P) (.node (o140 P) (.node (o206 P) .nil .nil) (.node (o272 P) .nil .nil)) (.node (o174 P) (.node (o240 P) .nil .nil) .nil)))))))
noncomputable def tree350 (P : Params) : BT := (.node (boot_o_0 P) (.node (boot_o_1 P) (.node (o293 P) (.node (boot_o_7 P) (.node (o52 P) (.node (o68 P) (.node (o106 P) (.node (o175 P) (.node (o309 P) .nil .nil) .nil) (.node (o241 P) .nil .nil)) (.node (o141 P) (.node (o207 P) (.node (o341 P) .nil .nil) .nil) (.node (o273 P) .nil .nil))) (.node (o120 P) (.node (o125 P) (.node (o191 P) (.node (o325 P) .nil .nil) .nil) (.node (o257 P) .nil .nil)) (.node (o157 P) (.node (o223 P) .nil .nil) (.node (o291 P) .nil .nil)))) (.node (o60 P) (.node (o76 P) (.node (o114 P) (.node (o183 P) (.node (o317 P) .nil .nil) .nil) (.node (o249 P) .nil .nil)) (.node (o149 P) (.node (o215 P) (.node (o349 P) .nil .nil) .nil) (.node (o283 P) .nil .nil))) (.node (o95 P) (.node (o133 P) (.node (o199 P) (.node (o333 P) .nil .nil) .nil) (.node (o265 P) .nil .nil)) (.node (o165 P) (.node (o233 P) .nil .nil) (.node (o301 P) .nil .nil))))) (.node (o43 P) (.node (o56 P) (.node (o72 P) (.node (o110 P) (.node (o179 P) (.node (o313 P) .nil .nil) .nil) (.node (o245 P) .nil .nil)) (.node (o145 P) (.node (o211 P) (.node (o345 P) .nil .nil) .nil) (.node (o279 P) .nil .nil))) (.node (o91 P) (.node (o129 P) (.node (o195 P) (.node (o329 P) .nil .nil) .nil) (.node (o261 P) .nil .nil)) (.node (o161 P) (.node (o229 P) .nil .nil) (.node (o297 P) .nil .nil)))) (.node (o64 P) (.node (o80 P) (.node (o121 P) (.node (o187 P) (.node (o321 P) .nil .nil) .nil) (.node (o253 P) .nil .nil)) (.node (o153 P) (.node (o219 P) .nil .nil) (.node (o287 P) .nil .nil))) (.node (o99 P) (.node (o137 P) (.node (o203 P) (.node (o337 P) .nil .nil) .nil) (.node (o269 P) .nil .nil)) (.node (o171 P) (.node (o237 P) .nil .nil) (.node (o305 P) .nil .nil)))))) (.node (boot_o_5 P) (.node (boot_o_9 P) (.node (o54 P) (.node (o70 P) (.node (o108 P) (.node (o177 P) (.node (o311 P) .nil .nil) .nil) (.node (o243 P) .nil .nil)) (.node (o143 P) (.node (o209 P) (.node (o343 P) .nil .nil) .nil) (.node (o275 P) .nil .nil))) (.node (o86 P) (.node (o127 P) (.node (o193 P) (.node (o327 P) .nil .nil) .nil) (.node (o259 P) .nil .nil)) (.node (o159 P) (.node (o227 P) .nil .nil) (.node (o295 P) .nil .nil)))) (.node (o62 P) (.node (o78 P) (.node (o116 P) (.node (o185 P) (.node (o319 P) .nil .nil) .nil) (.node (o251 P) .nil .nil)) (.node (o151 P) (.node (o217 P) .nil .nil) (.node (o285 P) .nil .nil))) (.node (o97 P) (.node (o135 P) (.node (o201 P) (.node (o335 P) .nil .nil) .nil) (.node (o267 P) .nil .nil)) (.node (o169 P) (.node (o235 P) .nil .nil) (.node (o303 P) .nil .nil))))) (.node (o45 P) (.node (o58 P) (.node (o74 P) (.node (o112 P) (.node (o181 P) (.node (o315 P) .nil .nil) .nil) (.node (o247 P) .nil .nil)) (.node (o147 P) (.node (o213 P) (.node (o347 P) .nil .nil) .nil) (.node (o281 P) .nil .nil))) (.node (o93 P) (.node (o131 P) (.node (o197 P) (.node (o331 P) .nil .nil) .nil) (.node (o263 P) .nil .nil)) (.node (o163 P) (.node (o231 P) .nil .nil) (.node (o299 P) .nil .nil)))) (.node (o66 P) (.node (o82 P) (.node (o123 P) (.node (o189 P) (.node (o323 P) .nil .nil) .nil) (.node (o255 P) .nil .nil)) (.node (o155 P) (.node (o221 P) .nil .nil) (.node (o289 P) .nil .nil))) (.node (o101 P) (.node (o139 P) (.node (o205 P) (.node (o339 P) .nil .nil) .nil) (.node (o271 P) .nil .nil)) (.node (o173 P) (.node (o239 P) .nil .nil) (.node (o307 P) .nil .nil))))))) (.node (o49 P) (.node (boot_o_4 P) (.node (boot_o_8 P) (.node (o53 P) (.node (o69 P) (.node (o107 P) (.node (o176 P) (.node (o310 P) .nil .nil) .nil) (.node (o242 P) .nil .nil)) (.node (o142 P) (.node (o208 P) (.node (o342 P) .nil .nil) .nil) (.node (o274 P) .nil .nil))) (.node (o85 P) (.node (o126 P) (.node (o192 P) (.node (o326 P) .nil .nil) .nil) (.node (o258 P) .nil .nil)) (.node (o158 P) (.node (o224 P) .nil .nil) (.node (o292 P) .nil .nil)))) (.node (o61 P) (.node (o77 P) (.node (o115 P) (.node (o184 P) (.node (o318 P) .nil .nil) .nil) (.node (o250 P) .nil .nil)) (.node (o150 P) (.node (o216 P) (.node (o350 P) .nil .nil) .nil) (.node (o284 P) .nil .nil))) (.node (o96 P) (.node (o134 P) (.node (o200 P) (.node (o334 P) .nil .nil) .nil) (.node (o266 P) .nil .nil)) (.node (o168 P) (.node (o234 P) .nil .nil) (.node (o302 P) .nil .nil))))) (.node (o294 P) (.node (o57 P) (.node (o73 P) (.node (o111 P) (.node (o180 P) (.node (o314 P) .nil .nil) .nil) (.node (o246 P) .nil .nil)) (.node (o146 P) (.node (o212 P) (.node (o346 P) .nil .nil) .nil) (.node (o280 P) .nil .nil))) (.node (o92 P) (.node (o130 P) (.node (o196 P) (.node (o330 P) .nil .nil) .nil) (.node (o262 P) .nil .nil)) (.node (o162 P) (.node (o230 P) .nil .nil) (.node (o298 P) .nil .nil)))) (.node (o65 P) (.node (o81 P) (.node (o122 P) (.node (o188 P) (.node (o322 P) .nil .nil) .nil) (.node (o254 P) .nil .nil)) (.node (o154 P) (.node (o220 P) .nil .nil) (.node (o288 P) .nil .nil))) (.node (o100 P) (.node (o138 P) (.node (o204 P) (.node (o338 P) .nil .nil) .nil) (.node (o270 P) .nil .nil)) (.node (o172 P) (.node (o238 P) .nil .nil) (.node (o306 P) .nil .nil)))))) (.node (boot_o_6 P) (.node (boot_o_10 P) (.node (o55 P) (.node (o71 P) (.node (o109 P) (.node (o178 P) (.node (o312 P) .nil .nil) .nil) (.node (o244 P) .nil .nil)) (.node (o144 P) (.node (o210 P) (.node (o344 P) .nil .nil) .nil) (.node (o276 P) .nil .nil))) (.node (o87 P) (.node (o128 P) (.node (o194 P) (.node (o328 P) .nil .nil) .nil) (.node (o260 P) .nil .nil)) (.node (o160 P) (.node (o228 P) .nil .nil) (.node (o296 P) .nil .nil)))) (.node (o63 P) (.node (o79 P) (.node (o117 P) (.node (o186 P) (.node (o320 P) .nil .nil) .nil) (.node (o252 P) .nil .nil)) (.node (o152 P) (.node (o218 P) .nil .nil) (.node (o286 P) .nil .nil))) (.node (o98 P) (.node (o136 P) (.node (o202 P) (.node (o336 P) .nil .nil) .nil) (.node (o268 P) .nil .nil)) (.node (o170 P) (.node (o236 P) .nil .nil) (.node (o304 P) .nil .nil))))) (.node (o46 P) (.node (o59 P) (.node (o75 P) (.node (o113 P) (.node (o182 P) (.node (o316 P) .nil .nil) .nil) (.node (o248 P) .nil .nil)) (.node (o148 P) (.node (o214 P) (.node (o348 P) .nil .nil) .nil) (.node (o282 P) .nil .nil))) (.node (o94 P) (.node (o132 P) (.node (o198 P) (.node (o332 P) .nil .nil) .nil) (.node (o264 P) .nil .nil)) (.node (o164 P) (.node (o232 P) .nil .nil) (.node (o300 P) .nil .nil)))) (.node (o67 P) (.node (o83 P) (.node (o124 P) (.node (o190 P) (.node (o324 P) .nil .nil) .nil) (.node (o256 P) .nil .nil)) (.node (o156 P) (.node (o222 P) .nil .nil) (.node (o290 P) .nil .nil))) (.node (o102 P) (.node (o140 P) (.node (o206 P) (.node (o340 P) .nil .nil) .nil) (.node (o272 P) .nil .nil)) (.node (o174 P) (.node (o240 P) .nil .nil) (.node (o308 P) .nil .nil))))))))
noncomputable def tree401 (P : Params) : BT := (.node (boot_o_0 P) (.node (boot_o_1 P) (.node (o351 P) (.node (boot_o_7 P) (.node (o52 P) (.node (o68 P) (.node (o106 P) (.node (o175 P) (.node (o309 P) .nil .nil) .nil) (.node (o241 P) (.node (o375 P) .nil .nil) .nil)) (.node (o141 P) (.node (o207 P) (.node (o341 P) .nil .nil) .nil) (.node (o273 P) .nil .nil))) (.node (o120 P) (.node (o125 P) (.node (o191 P) (.node (o325 P) .nil .nil) .nil) (.node (o257 P) (.node (o391 P) .nil .nil) .nil)) (.node (o157 P) (.node (o223 P) (.node (o359 P) .nil .nil) .nil) (.node (o291 P) .nil .nil)))) (.node (o60 P) (.node (o76 P) (.node (o114 P) (.node (o183 P) (.node (o317 P) .nil .nil) .nil) (.node (o249 P) (.node (o383 P) .nil .nil) .nil)) (.node (o149 P) (.node (o215 P) (.node (o349 P) .nil .nil) .nil) (.node (o283 P) .nil .nil))) (.node (o95 P) (.node (o133 P) (.node (o199 P) (.node (o333 P) .nil .nil) .nil) (.node (o265 P) (.node (o399 P) .nil .nil) .nil)) (.node (o165 P) (.node (o233 P) (.node (o367 P) .nil .nil) .nil) (.node (o301 P) .nil .nil))))) (.node (o43 P) (.node (o56 P) (.node (o72 P) (.node (o110 P) (.node (o179 P) (.node (o313 P) .nil .nil) .nil) (.node (o245 P) (.node (o379 P) .nil .nil) .nil)) (.node (o145 P) (.node (o211 P) (.node (o345 P) .nil .nil) .nil) (.node (o279 P) .nil .nil))) (.node (o91 P) (.node (o129 P) (.node (o195 P) (.node (o329 P) .nil .nil) .nil) (.node (o261 P) (.node (o395 P) .nil .nil) .nil)) (.node (o161 P) (.node (o229 P) (.node (o363 P) .nil .nil) .nil) (.node (o297 P) .nil .nil)))) (.node (o64 P) (.node (o80 P) (.node (o121 P) (.node (o187 P) (.node (o321 P) .nil .nil) .nil) (.node (o253 P) (.node (o387 P) .nil .nil) .nil)) (.node (o153 P) (.node (o219 P) (.node (o355 P) .nil .nil) .nil) (.node (o287 P) .nil .nil))) (.node (o99 P) (.node (o137 P) (.node (o203 P) (.node (o337 P) .nil .nil) .nil) (.node (o269 P) .nil .nil)) (.node (o171 P) (.node (o237 P) (.node (o371 P) .nil .nil) .nil) (.node (o305 P) .nil .nil)))))) (.node (boot_o_5 P) (.node (boot_o_9 P) (.node (o54 P) (.node (o70 P) (.node (o108 P) (.node (o177 P) (.node (o311 P) .nil .nil) .nil) (.node (o243 P) (.node (o377 P) .nil .nil) .nil)) (.node (o143 P) (.node (o209 P) (.node (o343 P) .nil .nil) .nil) (.node (o275 P) .nil .nil))) (.node (o86 P) (.node (o127 P) (.node (o193 P) (.node (o327 P) .nil .nil) .nil) (.node (o259 P) (.node (o393 P) .nil .nil) .nil)) (.node (o159 P) (.node (o227 P) (.node (o361 P) .nil .nil) .nil) (.node (o295 P) .nil .nil)))) (.node (o62 P) (.node (o78 P) (.node (o116 P) (.node (o185 P) (.node (o319 P) .nil .nil) .nil) (.node (o251 P) (.node (o385 P) .nil .nil) .nil)) (.node (o151 P) (.node (o217 P) (.node (o353 P) .nil .nil) .nil) (.node (o285 P) .nil .nil))) (.node (o97 P) (.node (o135 P) (.node (o201 P) (.node (o335 P) .nil .nil) .nil) (.node (o267 P) (.node (o401 P) .nil .nil) .nil)) (.node (o169 P) (.node (o235 P) (.node (o369 P) .nil .nil) .nil) (.node (o303 P) .nil .nil))))) (.node (o45 P) (.node (o58 P) (.node (o74 P) (.node (o112 P) (.node (o181 P) (.node (o315 P) .nil .nil) .nil) (.node (o247 P) (.node (o381 P) .nil .nil) .nil)) (.node (o147 P) (.node (o213 P) (.node (o347 P) .nil .nil) .nil) (.node (o281 P) .nil .nil))) (.node (o93 P) (.node (o131 P) (.node (o197 P) (.node (o331 P) .nil .nil) .nil) (.node (o263 P) (.node (o397 P) .nil .nil) .nil)) (.node (o163 P) (.node (o231 P) (.node (o365 P) .nil .nil) .nil) (.node (o299 P) .nil .nil)))) (.node (o66 P) (.node (o82 P) (.node (o123 P) (.node (o189 P) (.node (o323 P) .nil .nil) .nil) (.node (o255 P) (.node (o389 P) .nil .nil) .nil)) (.node (o155 P) (.node (o221 P) (.node (o357 P) .nil .nil) .nil) (.node (o289 P) .nil .nil))) (.node (o101 P) (.node (o139 P) (.node (o205 P) (.node (o339 P) .nil .nil) .nil) (.node (o271 P) .nil .nil)) (.node (o173 P) (.node (o239 P) (.node (o373 P) .nil .nil) .nil) (.node (o307 P) .nil .nil))))))) (.node (o49 P) (.node (boot_o_4 P) (.node (boot_o_8 P) (.node (o53 P) (.node (o69 P) (.node (o107 P) (.node (o176 P) (.node (o310 P) .nil .nil) .nil) (.node (o242 P) (.node (o376 P) .nil .nil) .nil)) (.node (o142 P) (.node (o208 P) (.node (o342 P) .nil .nil) .nil) (.node (o274 P) .nil .nil))) (.node (o85 P) (.node (o126 P) (.node (o192 P) (.node (o326 P) .nil .nil) .nil) (.node (o258 P) (.node (o392 P) .nil .nil) .nil)) (.node (o158 P) (.node (o224 P) (.node (o360 P) .nil .nil) .nil) (.node (o292 P) .nil .nil)))) (.node (o61 P) (.node (o77 P) (.node (o115 P) (.node (o184 P) (.node (o318 P) .nil .nil) .nil) (.node (o250 P) (.node (o384 P) .nil .nil) .nil)) (.node (o150 P) (.node (o216 P) (.node (o350 P) .nil .nil) .nil) (.node (o284 P) .nil .nil))) (.node (o96 P) (.node (o134 P) (.node (o200 P) (.node (o334 P) .nil .nil) .nil) (.node (o266 P) (.node (o400 P) .nil .nil) .nil)) (.node (o168 P) (.node (o234 P) (.node (o368 P) .nil .nil) .nil) (.node (o302 P) .nil .nil))))) (.node (o352 P) (.node (o57 P) (.node (o73 P) (.node (o111 P) (.node (o180 P) (.node (o314 P) .nil .nil) .nil) (.node (o246 P) (.node (o380 P) .nil .nil) .nil)) (.node (o146 P) (.node (o212 P) (.node (o346 P) .nil .nil) .nil) (.node (o280 P) .nil .nil))) (.node (o92 P) (.node (o130 P) (.node (o196 P) (.node (o330 P) .nil .nil) .nil) (.node (o262 P) (.node (o396 P) .nil .nil) .nil)) (.node (o162 P) (.node (o230 P) (.node (o364 P) .nil .nil) .nil) (.node (o298 P) .nil .nil)))) (.node (o65 P) (.node (o81 P) (.node (o122 P) (.node (o188 P) (.node (o322 P) .nil .nil) .nil) (.node (o254 P) (.node (o388 P) .nil .nil) .nil)) (.node (o154 P) (.node (o220 P) (.node (o356 P) .nil .nil) .nil) (.node (o288 P) .nil .nil))) (.node (o100 P) (.node (o138 P) (.node (o204 P) (.node (o338 P) .nil .nil) .nil) (.node (o270 P) .nil .nil)) (.node (o172 P) (.node (o238 P) (.node (o372 P) .nil .nil) .nil) (.node (o306 P) .nil .nil)))))) (.node (boot_o_6 P) (.node (boot_o_10 P) (.node (o55 P) (.node (o71 P) (.node (o109 P) (.node (o178 P) (.node (o312 P) .nil .nil) .nil) (.node (o244 P) (.node (o378 P) .nil .nil) .nil)) (.node (o144 P) (.node (o210 P) (.node (o344 P) .nil .nil) .nil) (.node (o276 P) .nil .nil))) (.node (o87 P) (.node (o128 P) (.node (o194 P) (.node (o328 P) .nil .nil) .nil) (.node (o260 P) (.node (o394 P) .nil .nil) .nil)) (.node (o160 P) (.node (o228 P) (.node (o362 P) .nil .nil) .nil) (.node (o296 P) .nil .nil)))) (.node (o63 P) (.node (o79 P) (.node (o117 P) (.node (o186 P) (.node (o320 P) .nil .nil) .nil) (.node (o252 P) (.node (o386 P) .nil .nil) .nil)) (.node (o152 P) (.node (o218 P) (.node (o354 P) .nil .nil) .nil) (.node (o286 P) .nil .nil))) (.node (o98 P) (.node (o136 P) (.node (o202 P) (.node (o336 P) .nil .nil) .nil) (.node (o268 P) .nil .nil)) (.node (o170 P) (.node (o236 P) (.node (o370 P) .nil .nil) .nil) (.node (o304 P) .nil .nil))))) (.node (o46 P) (.node (o59 P) (.node (o75 P) (.node (o113 P) (.node (o182 P) (.node (o316 P) .nil .nil) .nil) (.node (o248 P) (.node (o382 P) .nil .nil) .nil)) (.node (o148 P) (.node (o214 P) (.node (o348 P) .nil .nil) .nil) (.node (o282 P) .nil .nil))) (.node (o94 P) (.node (o132 P) (.node (o198 P) (.node (o332 P) .nil .nil) .nil) (.node (o264 P) (.node (o398 P) .nil .nil) .nil)) (.node (o164 P) (.node (o232 P) (.node (o366 P) .nil .nil) .nil) (.node (o300 P) .nil .nil)))) (.node (o67 P) (.node (o83 P) (.node (o124 P) (.node (o190 P) (.node (o324 P) .nil .nil) .nil) (.node (o256 P) (.node (o390 P) .nil .nil) .nil)) (.node (o156 P) (.node (o222 P) (.node (o358 P) .nil .nil) .nil) (.node (o290 P) .nil .nil))) (.node (o102 P) (.node (o140 P) (.node (o206 P) (.node (o340 P) .nil .nil) .nil) (.node (o272 P) .nil .nil)) (.node (o174 P) (.node (o240 P) (.node (o374 P) .nil .nil) .nil) (.node (o308 P) .nil .nil))))))))
noncomputable def tree459 (P : Params) : BT := (.node (boot_o_0 P) (.node (boot_o_1 P) (.node (o402 P) (.node (boot_o_7 P) (.node (o52 P) (.node (o68 P) (.node (o106 P) (.node (o175 P) (.node (o309 P) .nil .nil) (.node (o441 P) .nil .nil)) (.node (o241 P) (.node (o375 P) .nil .nil) .nil)) (.node (o141 P) (.node (o207 P) (.node (o341 P) .nil .nil) .nil) (.node (o273 P) (.node (o409 P) .nil .nil) .nil))) (.node (o120 P) (.node (o125 P) (.node (o191 P) (.node (o325 P) .nil .nil) (.node (o457 P) .nil .nil)) (.node (o257 P) (.node (o391 P) .nil .nil) .nil)) (.node (o157 P) (.node (o223 P) (.node (o359 P) .nil .nil) .nil) (.node (o291 P) (.node (o425 P) .nil .nil) .nil)))) (.node (o60 P) (.node (o76 P) (.node (o114 P) (.node (o183 P) (.node (o317 P) .nil .nil) (.node (o449 P) .nil .nil)) (.node (o249 P) (.node (o383 P) .nil .nil) .nil)) (.node (o149 P) (.node (o215 P) (.node (o349 P) .nil .nil) .nil) (.node (o283 P) (.node (o417 P) .nil .nil) .nil))) (.node (o95 P) (.node (o133 P) (.node (o199 P) (.node (o333 P) .nil .nil) .nil) (.node (o265 P) (.node (o399 P) .nil .nil) .nil)) (.node (o165 P) (.node (o233 P) (.node (o367 P) .nil .nil) .nil) (.node (o301 P) (.node (o433 P) .nil .nil) .nil))))) (.node (o43 P) (.node (o56 P) (.node (o72 P) (.node (o110 P) (.node (o179 P) (.node (o313 P) .nil .nil) (.node (o445 P) .nil .nil)) (.node (o245 P) (.node (o379 P) .nil .nil) .nil)) (.node (o145 P) (.node (o211 P) (.node (o345 P) .nil .nil) .nil) (.node (o279 P) (.node (o413 P) .nil .nil) .nil))) (.node (o91 P) (.node (o129 P) (.node (o195 P) (.node (o329 P) .nil .nil) .nil) (.node (o261 P) (.node (o395 P) .nil .nil) .nil)) (.node (o161 P) (.node (o229 P) (.node (o363 P) .nil .nil) .nil) (.node (o297 P) (.node (o429 P) .nil .nil) .nil)))) (.node (o64 P) (.node (o80 P) (.node (o121 P) (.node (o187 P) (.node (o321 P) .nil .nil) (.node (o453 P) .nil .nil)) (.node (o253 P) (.node (o387 P) .nil .nil) .nil)) (.node (o153 P) (.node (o219 P) (.node (o355 P) .nil .nil) .nil) (.node (o287 P) (.node (o421 P) .nil .nil) .nil))) (.node (o99 P) (.node (o137 P) (.node (o203 P) (.node (o337 P) .nil .nil) .nil) (.node (o269 P) (.node (o405 P) .nil .nil) .nil)) (.node (o171 P) (.node (o237 P) (.node (o371 P) .nil .nil) .nil) (.node (o305 P) (.node (o437 P) .nil .nil) .nil)))))) (.node (boot_o_5 P) (.node (boot_o_9 P) (.node (o54 P) (.node (o70 P) (.node (o108 P) (.node (o177 P) (.node (o311 P) .nil .nil) (.node (o443 P) .nil .nil)) (.node (o243 P) (.node (o377 P) .nil .nil) .nil)) (.node (o143 P) (.node (o209 P) (.node (o343 P) .nil .nil) .nil) (.node (o275 P) (.node (o411 P) .nil .nil) .nil))) (.node (o86 P) (.node (o127 P) (.node (o193 P) (.node (o327 P) .nil .nil) (.node (o459 P) .nil .nil)) (.node (o259 P) (.node (o393 P) .nil .nil) .nil)) (.node (o159 P) (.node (o227 P) (.node (o361 P) .nil .nil) .nil) (.node (o295 P) (.node (o427 P) .nil .nil) .nil)))) (.node (o62 P) (.node (o78 P) (.node (o116 P) (.node (o185 P) (.node (o319 P) .nil .nil) (.node (o451 P) .nil .nil)) (.node (o251 P) (.node (o385 P) .nil .nil) .nil)) (.node (o151 P) (.node (o217 P) (.node (o353 P) .nil .nil) .nil) (.node (o285 P) (.node (o419 P) .nil .nil) .nil))) (.node (o97 P) (.node (o135 P) (.node (o201 P) (.node (o335 P) .nil .nil) .nil) (.node (o267 P) (.node (o401 P) .nil .nil) .nil)) (.node (o169 P) (.node (o235 P) (.node (o369 P) .nil .nil) .nil) (.node (o303 P) (.node (o435 P) .nil .nil) .nil))))) (.node (o45 P) (.node (o58 P) (.node (o74 P) (.node (o112 P) (.node (o181 P) (.node (o315 P) .nil .nil) (.node (o447 P) .nil .nil)) (.node (o247 P) (.node (o381 P) .nil .nil) .nil)) (.node (o147 P) (.node (o213 P) (.node (o347 P) .nil .nil) .nil) (.node (o281 P) (.node (o415 P) .nil .nil) .nil))) (.node (o93 P) (.node (o131 P) (.node (o197 P) (.node (o331 P) .nil .nil) .nil) (.node (o263 P) (.node (o397 P) .nil .nil) .nil)) (.node (o163 P) (.node (o231 P) (.node (o365 P) .nil .nil) .nil) (.node (o299 P) (.node (o431 P) .nil .nil) .nil)))) (.node (o66 P) (.node (o82 P) (.node (o123 P) (.node (o189 P) (.node (o323 P) .nil .nil) (.node (o455 P) .nil .nil)) (.node (o255 P) (.node (o389 P) .nil .nil) .nil)) (.node (o155 P) (.node (o221 P) (.node (o357 P) .nil .nil) .nil) (.node (o289 P) (.node (o423 P) .nil .nil) .nil))) (.node (o101 P) (.node (o139 P) (.node (o205 P) (.node (o339 P) .nil .nil) .nil) (.node (o271 P) (.node (o407 P) .nil .nil) .nil)) (.node (o173 P) (.node (o239 P) (.node (o373 P) .nil .nil) .nil) (.node (o307 P) (.node (o439 P) .nil .nil) .nil))))))) (.node (o49 P) (.node (boot_o_4 P) (.node (boot_o_8 P) (.node (o53 P) (.node (o69 P) (.node (o107 P) (.node (o176 P) (.node (o310 P) .nil .nil) (.node (o442 P) .nil .nil)) (.node (o242 P) (.node (o376 P) .nil .nil) .nil)) (.node (o142 P) (.node (o208 P) (.node (o342 P) .nil .nil) .nil) (.node (o274 P) (.node (o410 P) .nil .nil) .nil))) (.node (o85 P) (.node (o126 P) (.node (o192 P) (.node (o326 P) .nil .nil) (.node (o458 P) .nil .nil)) (.node (o258 P) (.node (o392 P) .nil .nil) .nil)) (.node (o158 P) (.node (o224 P) (.node (o360 P) .nil .nil) .nil) (.node (o292 P) (.node (o426 P) .nil .nil) .nil)))) (.node (o61 P) (.node (o77 P) (.node (o115 P) (.node (o184 P) (.node (o318 P) .nil .nil) (.node (o450 P) .nil .nil)) (.node (o250 P) (.node (o384 P) .nil .nil) .nil)) (.node (o150 P) (.node (o216 P) (.node (o350 P) .nil .nil) .nil) (.node (o284 P) (.node (o418 P) .nil .nil) .nil))) (.node (o96 P) (.node (o134 P) (.node (o200 P) (.node (o334 P) .nil .nil) .nil) (.node (o266 P) (.node (o400 P) .nil .nil) .nil)) (.node (o168 P) (.node (o234 P) (.node (o368 P) .nil .nil) .nil) (.node (o302 P) (.node (o434 P) .nil .nil) .nil))))) (.node (o403 P) (.node (o57 P) (.node (o73 P) (.node (o111 P) (.node (o180 P) (.node (o314 P) .nil .nil) (.node (o446 P) .nil .nil)) (.node (o246 P) (.node (o380 P) .nil .nil) .nil)) (.node (o146 P) (.node (o212 P) (.node (o346 P) .nil .nil) .nil) (.node (o280 P) (.node (o414 P) .nil .nil) .nil))) (.node (o92 P) (.node (o130 P) (.node (o196 P) (.node (o330 P) .nil .nil) .nil) (.node (o262 P) (.node (o396 P) .nil .nil) .nil)) (.node (o162 P) (.node (o230 P) (.node (o364 P) .nil .nil) .nil) (.node (o298 P) (.node (o430 P) .nil .nil) .nil)))) (.node (o65 P) (.node (o81 P) (.node (o122 P) (.node (o188 P) (.node (o322 P) .nil .nil) (.node (o454 P) .nil .nil)) (.node (o254 P) (.node (o388 P) .nil .nil) .nil)) (.node (o154 P) (.node (o220 P) (.node (o356 P) .nil .nil) .nil) (.node (o288 P) (.node (o422 P) .nil .nil) .nil))) (.node (o100 P) (.node (o138 P) (.node (o204 P) (.node (o338 P) .nil .nil) .nil) (.node (o270 P) (.node (o406 P) .nil .nil) .nil)) (.node (o172 P) (.node (o238 P) (.node (o372 P) .nil .nil) .nil) (.node (o306 P) (.node (o438 P) .nil .nil) .nil)))))) (.node (boot_o_6 P) (.node (boot_o_10 P) (.node (o55 P) (.node (o71 P) (.node (o109 P) (.node (o178 P) (.node (o312 P) .nil .nil) (.node (o444 P) .nil .nil)) (.node (o244 P) (.node (o378 P) .nil .nil) .nil)) (.node (o144 P) (.node (o210 P) (.node (o344 P) .nil .nil) .nil) (.node (o276 P) (.node (o412 P) .nil .nil) .nil))) (.node (o87 P) (.node (o128 P) (.node (o194 P) (.node (o328 P) .nil .nil) .nil) (.node (o260 P) (.node (o394 P) .nil .nil) .nil)) (.node (o160 P) (.node (o228 P) (.node (o362 P) .nil .nil) .nil) (.node (o296 P) (.node (o428 P) .nil .nil) .nil)))) (.node (o63 P) (.node (o79 P) (.node (o117 P) (.node (o186 P) (.node (o320 P) .nil .nil) (.node (o452 P) .nil .nil)) (.node (o252 P) (.node (o386 P) .nil .nil) .nil)) (.node (o152 P) (.node (o218 P) (.node (o354 P) .nil .nil) .nil) (.node (o286 P) (.node (o420 P) .nil .nil) .nil))) (.node (o98 P) (.node (o136 P) (.node (o202 P) (.node (o336 P) .nil .nil) .nil) (.node (o268 P) (.node (o404 P) .nil .nil) .nil)) (.node (o170 P) (.node (o236 P) (.node (o370 P) .nil .nil) .nil) (.node (o304 P) (.node (o436 P) .nil .nil) .nil))))) (.node (o46 P) (.node (o59 P) (.node (o75 P) (.node (o113 P) (.node (o182 P) (.node (o316 P) .nil .nil) (.node (o448 P) .nil .nil)) (.node (o248 P) (.node (o382 P) .nil .nil) .nil)) (.node (o148 P) (.node (o214 P) (.node (o348 P) .nil .nil) .nil) (.node (o282 P) (.node (o416 P) .nil .nil) .nil))) (.node (o94 P) (.node (o132 P) (.node (o198 P) (.node (o332 P) .nil .nil) .nil) (.node (o264 P) (.node (o398 P) .nil .nil) .nil)) (.node (o164 P) (.node (o232 P) (.node (o366 P) .nil .nil) .nil) (.node (o300 P) (.node (o432 P) .nil .nil) .nil)))) (.node (o67 P) (.node (o83 P) (.node (o124 P) (.node (o190 P) (.node (o324 P) .nil .nil) (.node (o456 P) .nil .nil)) (.node (o256 P) (.node (o390 P) .nil .nil) .nil)) (.node (o156 P) (.node (o222 P) (.node (o358 P) .nil .nil) .nil) (.node (o290 P) (.node (o424 P) .nil .nil) .nil))) (.node (o102 P) (.node (o140 P) (.node (o206 P) (.node (o340 P) .nil .nil) .nil) (.node (o272 P) (.node (o408 P) .nil .nil) .nil)) (.node (o174 P) (.node (o240 P) (.node (o374 P) .nil .nil) .nil) (.node (o308 P) (.node (o440 P) .nil .nil) .nil))))))))
noncomputable def heap46 (P : Params) : Heap := (.mk #[(boot_o_0 P), (boot_o_1 P), (boot_o_2 P), (boot_o_3 P), (boot_o_4 P), (boot_o_5 P), (boot_o_6 P), (boot_o_7 P), (boot_o_8 P), (boot_o_9 P), (boot_o_10 P), (o43 P), (o44 P), (o45 P), (o46 P)] (.mk [] [] [] 0 [] [] false #[] [] 0 false false false 0 [2000, 10, 10] false 0 true [] [] 0 false))
noncomputable def hd.heap_39 (P : Params) : Frag := [(2, o49 P), (3, o402 P), (15, o52 P), (17, o54 P), (18, o55 P), (20, o57 P), (21, o58 P), (22, o59 P), (25, o62 P), (30, o67 P), (31, o68 P), (33, o70 P), (34, o71 P), (36, o73 P), (37, o74 P), (38, o75 P), (40, o77 P), (41, o78 P), (43, o80 P), (44, o81 P), (45, o82 P), (46, o83 P), (47, o120 P), (48, o85 P), (51, o91 P), (58, o98 P), (59, o99 P), (60, o100 P), (63, o106 P), (70, o113 P), (71, o114 P), (72, o115 P), (75, o121 P), (78, o124 P), (83, o129 P), (84, o130 P), (86, o132 P), (87, o133 P), (89, o135 P), (90, o136 P), (91, o137 P), (93, o139 P), (94, o140 P), (96, o142 P), (97, o143 P), (98, o144 P), (99, o145 P), (100, o146 P), (103, o149 P), (105, o151 P), (106, o152 P), (108, o154 P), (109, o155 P), (110, o156 P), (113, o159 P), (114, o160 P), (115, o161 P), (118, o164 P), (119, o165 P), (120, o168 P), (123, o171 P), (124, o172 P), (125, o173 P), (127, o175 P), (128, o176 P), (130, o178 P), (131, o179 P), (132, o180 P), (134, o182 P), (135, o183 P), (137, o185 P), (138, o186 P), (139, o187 P), (141, o189 P), (142, o190 P), (144, o192 P), (145, o193 P), (146, o194 P), (148, o196 P), (149, o197 P), (151, o199 P), (152, o200 P), (153, o201 P), (156, o204 P), (157, o205 P), (158, o206 P), (160, o208 P), (161, o209 P), (163, o211 P), (164, o212 P), (165, o213 P), (168, o216 P), (169, o217 P), (170, o218 P), (172, o220 P), (173, o221 P), (175, o223 P), (176, o224 P), (184, o234 P), (186, o236 P), (187, o237 P), (189, o239 P), (190, o240 P), (191, o241 P), (193, o243 P), (194, o244 P), (196, o246 P), (197, o247 P), (198, o248 P), (201, o251 P), (202, o252 P), (203, o253 P), (206, o256 P), (207, o257 P), (208, o258 P), (211, o261 P), (212, o262 P), (213, o263 P), (215, o265 P), (216, o266 P), (218, o268 P), (219, o269 P), (220, o270 P), (221, o271 P), (222, o272 P), (223, o273 P), (224, o274 P), (227, o279 P), (229, o281 P), (230, o282 P), (232, o284 P), (233, o285 P), (234, o286 P), (236, o288 P), (237, o289 P), (239, o291 P), (240, o292 P), (248, o302 P), (250, o304 P), (251, o305 P), (253, o307 P), (254, o308 P), (255, o309 P), (257, o311 P), (258, o312 P), (260, o314 P), (261, o315 P), (262, o316 P), (264, o318 P), (265, o319 P), (267, o321 P), (268, o322 P), (269, o323 P), (271, o325 P), (272, o326 P), (274, o328 P), (275, o329 P), (276, o330 P), (278, o332 P), (279, o333 P), (281, o335 P), (282, o336 P), (283, o337 P), (285, o339 P), (286, o340 P), (288, o342 P), (289, o343 P), (290, o344 P), (291, o345 P), (292, o346 P), (293, o347 P), (294, o348 P), (304, o360 P), (307, o363 P), (308, o364 P), (309, o365 P), (311, o367 P), (312, o368 P), (314, o370 P), (315, o371 P), (316, o372 P), (317, o373 P), (318, o374 P), (319, o375 P), (320, o376 P), (323, o379 P), (324, o380 P), (325, o381 P), (326, o382 P), (327, o383 P), (328, o384 P), (329, o385 P), (330, o386 P), (331, o387 P), (332, o388 P), (333, o389 P), (334, o390 P), (335, o391 P), (336, o392 P), (337, o393 P), (338, o394 P), (339, o395 P), (340, o396 P), (341, o397 P), (342, o398 P), (343, o399 P), (344, o400 P), (345, o401 P), (346, o404 P), (347, o405 P), (348, o406 P), (349, o407 P), (350, o408 P), (351, o409 P), (352, o410 P), (353, o411 P), (354, o412 P), (356, o414 P), (357, o415 P), (359, o417 P), (360, o418 P), (361, o419 P), (364, o422 P), (365, o423 P), (366, o424 P), (369, o427 P), (370, o428 P), (371, o429 P), (374, o432 P), (375, o433 P), (376, o434 P), (378, o436 P), (379, o437 P), (381, o439 P), (382, o440 P), (383, o441 P), (385, o443 P), (386, o444 P), (388, o446 P), (389, o447 P), (390, o448 P), (392, o450 P), (393, o451 P), (395, o453 P), (396, o454 P), (397, o455 P), (400, o458 P), (401, o459 P)]
end Mine
set_option maxRecDepth 100000
set_option maxHeartbeats 8000000
namespace Mine
open PySem PySem.W PyProof.Rows

/-! ## the top's run, piece by piece; the library's twins of its functions, the data plain -/
abbrev prK : Program := PySem.Challenge.pw_pq0057_01
noncomputable def envK : Env := { scope := prK.main.scope, locals := mainNs, globals := mainNs, cells := [], code := .ref 13, frame := some 14 }
noncomputable def cdK : Code := .body (behindTheImports prK) envK
def p0 : Pos := ⟨0, 0, 0, 0⟩
noncomputable def SK (T : Params → BT) (n t : Nat) (w : World) (os : OsState) : SharedT := ⟨T w.params, n, {}, #[], {}, t, os⟩

def Piece (w : World) (N : Nat) (l : List Stmt) (T : Params → BT) (n t : Nat) (pos : Pos) (T' : Params → BT) (n' t' : Nat) (pos' : Pos) : Prop :=
  (fun os => segRunT treeTable prK w 11 (some (.ref 6)) 1 N (SK T n t w os) (piecesOf l envK cdK pos [topFrame p0])) = fun os => some (.next, SK T' n' t' w os, cdK, pos')
def PieceF (w : World) (N : Nat) (l : List Stmt) (T : Params → BT) (n t : Nat) (pos : Pos) (T' : Params → BT) (n' t' : Nat) (pos' : Pos) : Prop :=
  (fun os => Fast.tw10110043849684766642 Fast.tw14364793385576792824 prK w 11 (some (.ref 6)) 1 N (SK T n t w os) (piecesOf l envK cdK pos [topFrame p0])) = fun os => some (.next, SK T' n' t' w os, cdK, pos')
theorem Piece.of {w : World} {N : Nat} {l : List Stmt} {T : Params → BT} {n t : Nat} {pos : Pos} {T' : Params → BT} {n' t' : Nat} {pos' : Pos} (h : PieceF w N l T n t pos T' n' t' pos') : Piece w N l T n t pos T' n' t' pos' := by
  unfold Piece
  rw [Fast.te10110043849684766642, Fast.te14364793385576792824]
  exact h
theorem pc1 (w : World) : Piece w 314 [st 0, st 1, st 2] tree47 15 187 p0 tree87 51 234 ⟨5, 0, 12, 24⟩ := Piece.of (by unfold PieceF; kernel_rfl)
theorem pc2 (w : World) : Piece w 214 [st 3] tree87 51 234 ⟨5, 0, 12, 24⟩ tree102 63 250 ⟨13, 0, 14, 8⟩ := Piece.of (by unfold PieceF; kernel_rfl)
theorem pc3 (w : World) : Piece w 214 [st 4] tree102 63 250 ⟨13, 0, 14, 8⟩ tree117 75 266 ⟨15, 0, 16, 8⟩ := Piece.of (by unfold PieceF; kernel_rfl)
theorem pc4 (w : World) : Piece w 384 [st 5, st 6, st 7, st 8, st 9] tree117 75 266 ⟨15, 0, 16, 8⟩ tree165 120 322 ⟨30, 0, 35, 28⟩ := Piece.of (by unfold PieceF; kernel_rfl)
theorem pc5 (w : World) : Piece w 272 [st 10, st 11, st 12, st 13, st 14, st 15, st 16, st 17, st 18, st 19] tree165 120 322 ⟨30, 0, 35, 28⟩ tree224 177 394 ⟨94, 0, 96, 38⟩ := Piece.of (by unfold PieceF; kernel_rfl)
theorem pc6 (w : World) : Piece w 374 [st 20] tree224 177 394 ⟨94, 0, 96, 38⟩ tree276 227 460 ⟨97, 0, 143, 16⟩ := Piece.of (by unfold PieceF; kernel_rfl)
theorem pc7 (w : World) : Piece w 61 [st 21, st 22] tree276 227 460 ⟨97, 0, 143, 16⟩ tree292 241 476 ⟨146, 0, 153, 16⟩ := Piece.of (by unfold PieceF; kernel_rfl)
theorem pc8 (w : World) : Piece w 394 [st 23] tree292 241 476 ⟨146, 0, 153, 16⟩ tree350 297 556 ⟨154, 0, 187, 16⟩ := Piece.of (by unfold PieceF; kernel_rfl)
theorem pc9 (w : World) : Piece w 346 [st 24, st 25, st 26, st 27] tree350 297 556 ⟨154, 0, 187, 16⟩ tree401 346 619 ⟨210, 0, 210, 10⟩ := Piece.of (by unfold PieceF; kernel_rfl)
theorem pc10f (w : World) : Piece (w.withFollow "special-get-raises" false) 297 [st 28, st 29, st 30, st 31, st 32, st 33, st 34, st 35, st 36] tree401 346 619 ⟨210, 0, 210, 10⟩ tree459 402 700 ⟨259, 0, 273, 97⟩ := Piece.of (by unfold PieceF; kernel_rfl)
theorem pc10t (w : World) : Piece (w.withFollow "special-get-raises" true) 297 [st 28, st 29, st 30, st 31, st 32, st 33, st 34, st 35, st 36] tree401 346 619 ⟨210, 0, 210, 10⟩ tree459 402 700 ⟨259, 0, 273, 97⟩ := Piece.of (by unfold PieceF; kernel_rfl)
end Mine
set_option maxRecDepth 100000
set_option maxHeartbeats 8000000
namespace Mine
open PySem PySem.W PyProof.Rows

theorem pc10 (w : World) : Piece w 297 [st 28, st 29, st 30, st 31, st 32, st 33, st 34, st 35, st 36] tree401 346 619 ⟨210, 0, 210, 10⟩ tree459 402 700 ⟨259, 0, 273, 97⟩ :=
  byRow2 (P := fun w => Piece w 297 [st 28, st 29, st 30, st 31, st 32, st 33, st 34, st 35, st 36] tree401 346 619 ⟨210, 0, 210, 10⟩ tree459 402 700 ⟨259, 0, 273, 97⟩) "special-get-raises" pc10f pc10t w
noncomputable def H1 (P : Params) : Heap := absHeap (tree459 P) 402 {}
theorem pre0 (w : World) : (fun os => topGo treeTable prK w 11 (some (.ref 6)) 12 ⟨boot_heap w.params, #[], boot_drawn, boot_toks, os⟩ (topStub prK)) = fun os => some (⟨heap46 w.params, #[], {}, 187, os⟩, ⟨denote treeTable cdK, cdK, p0, [topFrame p0]⟩) := by
  rw [Fast.te15667345088766844465, Fast.te11892475500146522536, Fast.te14364793385576792824]
  kernel_rfl
theorem blk0 (w : World) : (fun os => segRun treeTable prK w 11 (some (.ref 6)) 1 1 ⟨heap46 w.params, #[], {}, 187, os⟩ (blockOf (behindTheImports prK) envK cdK p0 [topFrame p0])) = fun os => some (.next, (SK tree47 15 187 w os).abs, cdK, p0) := by
  rw [Fast.te14374325043358763698, Fast.te14364793385576792824]
  kernel_rfl
theorem fin0 (w : World) : (fun os => topRun treeTable prK w 11 (some (.ref 6)) 2 (SK tree459 402 700 w os).abs ⟨doneF .next, cdK, ⟨259, 0, 273, 97⟩, [topFrame p0]⟩) = fun os => some ⟨H1 w.params, #[], {}, 700, os⟩ := by
  rw [Fast.te14082659384304107361, Fast.te14364793385576792824]
  kernel_rfl
theorem cut0 : behindTheImports prK = [st 0, st 1, st 2] ++ ([st 3] ++ ([st 4] ++ ([st 5, st 6, st 7, st 8, st 9] ++ ([st 10, st 11, st 12, st 13, st 14, st 15, st 16, st 17, st 18, st 19] ++ ([st 20] ++ ([st 21, st 22] ++ ([st 23] ++ ([st 24, st 25, st 26, st 27] ++
  ([st 28, st 29, st 30, st 31, st 32, st 33, st 34, st 35, st 36] ++ []))))))))) := by kernel_rfl

theorem app0 {w : World} {os : OsState} {N M : Nat} {l rest : List Stmt} {T : Params → BT} {n t : Nat} {pos : Pos} {T' : Params → BT} {n' t' : Nat} {pos' : Pos} {r : Shared} (h : Piece w N l T n t pos T' n' t' pos')
    (k : topRun treeTable prK w 11 (some (.ref 6)) M (SK T' n' t' w os).abs (restOf rest envK cdK pos' [topFrame p0]) = some r) :
    topRun treeTable prK w 11 (some (.ref 6)) (N + M) (SK T n t w os).abs (restOf (l ++ rest) envK cdK pos [topFrame p0]) = some r := piece_app (segRun_of (congrFun h os)) k
theorem run0 (w : World) (os : OsState) : topRun treeTable prK w 11 (some (.ref 6)) (12 + (1 + (314 + (214 + (214 + (384 + (272 + (374 + (61 + (394 + (346 + (297 + 2)))))))))))) ⟨boot_heap w.params, #[], boot_drawn, boot_toks, os⟩ (topStub prK) = some ⟨H1 w.params, #[], {}, 700, os⟩ := by
  refine go_top (congrFun (pre0 w) os) (piece_block (c := cdK) (congrFun (blk0 w) os) ?_)
  rw [cut0]
  exact app0 (pc1 w) (app0 (pc2 w) (app0 (pc3 w) (app0 (pc4 w) (app0 (pc5 w) (app0 (pc6 w) (app0 (pc7 w) (app0 (pc8 w) (app0 (pc9 w) (app0 (pc10 w) (congrFun (fin0 w) os))))))))))

/-! ## what is seen of it -/
noncomputable def hd.view_39 : Program := view prK [0, 2, 3, 4, 5, 7, 8, 9, 10, 11, 12, 14, 15, 16, 17, 18, 19, 20, 21, 22, 23, 25, 27, 28, 29, 30, 31, 32, 33, 34, 35, 36]
def loose0 : List Str := [Str.ofString "_law_told"]
noncomputable def SH (w : World) (os : OsState) : Shared := ⟨H1 w.params, #[], {}, 700, os⟩
section
variable (w : World) (os : OsState)
theorem lk0 : (staticsOk (importedModules prK.main.body) (boot_heap w.params) (H1 w.params) && namesBound prK (H1 w.params) && gensDone (SH w os) && laidKept (boot_heap w.params) (H1 w.params)) = true := by
  rw [Fast.te5923862056798008813]
  kernel_rfl
theorem lk1 : seen ((recsOf hd.view_39).map (·.name)) (ownsOf hd.view_39) [] { (SH w os) with gens := #[] } = expectedOf hd.view_39 := by
  rw [Fast.te5160383126252970620, Fast.te3399658132070893891, Fast.te5991557255702980513]
  kernel_rfl
theorem lk2 : (SH w os).heap.bltView = bltViewBooted := by kernel_rfl
theorem lk3 : ((SH w os).heap.keysOk (looseW hd.view_39 loose0) ((recsOf hd.view_39).map (·.name)) ((litsOf hd.view_39).map (·.1)) ((clssOf hd.view_39 (looseW hd.view_39 loose0)).map (·.name)) && (SH w os).heap.accountedOkI (importedModules prK.main.body) && (SH w os).heap.isNs mainGlobals && (SH w os).heap.isNs builtinsNs &&
    tablesOk hd.view_39 (SH w os).heap && (xlAt hd.view_39 [] (SH w os) && recOk PySem.Challenge.rw_pq0057_01.row.records (SH w os)) && (if true then (SH w os).gens.size == 0 else !leftWithCleanup (SH w os).gens)) = true := by
  rw [Fast.te10880121769531294198, Fast.te821141287760084731, Fast.te3399658132070893891, Fast.te7409074990110511671, Fast.te13664370479719496447, Fast.te14722251495701143533, Fast.te5923862056798008813, Fast.te10994771534591457954]
  kernel_rfl
theorem lk4 : tabsOk hd.view_39 (SH w os) = true := by
  rw [Fast.te479339242167458305]
  kernel_rfl
theorem lk5 : pinSeenD hd.view_39 (drecsOf hd.view_39) (SH w os) = pinGoodD (drecsOf hd.view_39) := by
  rw [Fast.te16090120013241838585, Fast.te3247288618530077131]
  kernel_rfl
theorem lk6 : plainSeenE hd.view_39 (looseW hd.view_39 loose0) (SH w os) = plainGoodE hd.view_39 (looseW hd.view_39 loose0) := by
  rw [Fast.te2386780881361962483, Fast.te821141287760084731]
  kernel_rfl
theorem lk7 : plainSeenD hd.view_39 loose0 (SH w os) = plainGoodD hd.view_39 loose0 := by
  rw [Fast.te11698064438423848299]
  kernel_rfl
theorem lk8 : wideSeen hd.view_39 (SH w os) = wideGood hd.view_39 := by
  rw [Fast.te7317090234206586261]
  kernel_rfl
theorem lk9 : clsSeenW hd.view_39 loose0 (SH w os) = clsGoodW hd.view_39 loose0 := by
  rw [Fast.te7369524293546568484]
  kernel_rfl
end
end Mine
set_option maxRecDepth 100000
set_option maxHeartbeats 8000000
namespace Mine
open PySem PySem.W PyProof.Rows

noncomputable def adK : List Addr := [2,3,15,17,18,20,21,22,25,30,31,33,34,36,37,38,40,41,43,44,45,46,47,48,51,58,59,60,63,70,71,72,75,78,83,84,86,87,89,90,91,93,94,96,97,98,99,100,103,105,106,108,109,110,113,114,115,118,119,120,123,124,125,127,128,130,131,132,134,135,137,138,139,141,142,144,145,146,148,149,151,152,153,156,157,158,160,161,163,164,165,168,169,170,172,173,175,176,184,186,187,189,190,191,193,194,196,197,198,201,202,203,206,207,208,211,212,213,215,216,218,219,220,221,222,223,224,227,229,230,232,233,234,236,237,239,240,248,250,251,253,254,255,257,258,260,261,262,264,265,267,268,269,271,272,274,275,276,278,279,281,282,283,285,286,288,289,290,291,292,293,294,304,307,308,309,311,312,314,315,316,317,318,319,320,323,324,325,326,327,328,329,330,331,332,333,334,335,336,337,338,339,340,341,342,343,344,345,346,347,348,349,350,351,352,353,354,356,357,359,360,361,364,365,366,369,370,371,374,375,376,378,379,381,382,383,385,386,388,389,390,392,393,395,396,397,400,401]
theorem adK_eq (P : Params) : adK = (hd.heap_39 P).map (·.1) := by kernel_rfl
noncomputable def HK : Hook := kHook hd.heap_39 adK adK_eq
theorem lk10 (w : World) (os : OsState) : HK.obs (SH w os) = HK.val w := by
  show adK.map (SH w os).heap.get? = (hd.heap_39 w.params).map fun p => some p.2
  kernel_rfl
theorem size0 (w : World) : ((boot_heap w.params).isNs mainGlobals && (#[] : Array GenState).size == 0, (boot_heap w.params).objs.size, (boot_heap w.params).nsMap mainGlobals "__annotations__") = (true, 11, some (.ref 6)) := by
  rw [Fast.te8920871248978507458]
  kernel_rfl
theorem open0 : opening prK = plainProg prK.main.scope.names := by kernel_rfl
theorem fence0 (s : Shared) : fenceModules? prK s = some s := by
  rw [Fast.te14289696077712309145]
  kernel_rfl
noncomputable abbrev XtK : Shared → Bool := fun s => xlAt hd.view_39 [] s && recOk PySem.Challenge.rw_pq0057_01.row.records s
theorem left0 : LeftO prK hd.view_39 loose0 XtK HK.obs HK.val 6000 :=
  LeftO.of_pieces (H₀ := boot_heap) (H₁ := H1) (boot_open open0 rfl fence0) size0 run0 rfl fun w => funext fun os =>
    looks_pair (lk0 w os) (looks_pair (looks_pair (lk1 w os) (looks_pair (lk2 w os) (looks_pair (lk3 w os) (looks_pair (lk4 w os) (looks_pair (lk5 w os) (looks_pair (lk6 w os) (looks_pair (lk7 w os) (looks_pair (lk8 w os) (lk9 w os))))))))) (lk10 w os))

noncomputable def dLaw : DefRec := ⟨Str.ofString "law", fP (st 36), fB (st 36), fS (st 36), (st 36).pos⟩
theorem def0 : defOf hd.view_39 (Str.ofString "law") = some (dLaw, []) := by kernel_rfl
theorem the0 : prK.theDef (Str.ofString "law") = some (dLaw.params, dLaw.body, dLaw.scope) := by
  rw [Fast.te10235530238920679567]
  kernel_rfl
theorem kw0 : kwWritten? dLaw.params.kwonlyargs dLaw.params.kw_defaults = some [] := by kernel_rfl
theorem said0 : PySem.Challenge.rw_pq0057_01.wellSaid = true := by
  unfold OpenLaw.wellSaid OpenRow.wellSaid OpenRow.partSaid looksOpen
  repeat' (with_reducible refine look_both ?_ ?_)
  all_goals as_aux_lemma =>
    try rw [Fast.named_eq]
    try rw [Fast.te10501279942588096481]
    try rw [Fast.te8179353310426384613]
    try rw [Fast.te8326940854005059898]
    try rw [Fast.te9558739934217749035]
    try rw [Fast.te16286561074155671207]
    try rw [Fast.te6984425678791042302]
    try rw [Fast.te12879404354523853263]
    try rw [Fast.te482687673346738481]
    try rw [Fast.te17119622794617984870]
    try rw [Fast.te10792542408131684335]
    try rw [Fast.te18344453789297297638]
    try rw [Fast.te12749700546528644094]
    try rw [Fast.te11788848310118352699]
    try rw [Fast.te9807087744658564304]
    try rw [Fast.te12862048085361865435]
    try rw [Fast.te8377067652309620493]
    try rw [Fast.te14412699480532031325]
    try rw [Fast.te13343964577679436407]
    try rw [Fast.te17868728402115742887]
    kernel_rfl
theorem ok0 : (chainsOk hd.view_39 && opensWell prK && (frees PySem.Challenge.rw_pq0057_01.row.toRowW && PySem.Challenge.rw_pq0057_01.row.within.isEmpty)) = true := by
  repeat' (with_reducible refine look_both ?_ ?_)
  all_goals as_aux_lemma => kernel_rfl
theorem bare0 : prK.bare := ⟨rfl, rfl, rfl, rfl, rfl, by kernel_rfl⟩

theorem hd (walk : WalkO hd.view_39 loose0 (XL hd.view_39 []) HK.says PySem.Challenge.rw_pq0057_01.row.toRowW dLaw [] fun f vs => PySem.call f vs) : PySem.Challenge.rw_pq0057_01.Holds :=
  holds_law said0 fun said => holds_open (r := PySem.Challenge.rw_pq0057_01.row) (q := hd.view_39) (loose := loose0) (Xt := XtK) (XP := XL hd.view_39 []) (Yf := HK.obs) (Ya := HK.val) (YP := HK.says) (d := dLaw) (kwd := []) (N := 6000)
    left0 HK.of HK.keeps (fun s e => xl_of s (Bool.and_eq_true_iff.mp e).1) XL.keeps def0 the0 kw0 (fun s e => recFacts_of (Bool.and_eq_true_iff.mp e).2) rfl said ok0 bare0 ⟨[.list []], by decide +kernel, by decide +kernel⟩ walk
end Mine
set_option maxRecDepth 10000
namespace Mine
open PySem PySem.W PyProof.Rows

/-! what a value reads as; every tuple and list of it has no dict of its own -/
mutual
inductive Reads (h : Heap) : Value → PyData → List Addr → Prop
  | none : Reads h .none .none []
  | bool (b) : Reads h (.bool b) (.bool b) []
  | int (i t) : Reads h (.int i t) (.int i) []
  | str (x t) : Reads h (.str x t) (.str x) []
  | list {a o vs n xs as} : h.get? a = some o → o.cls = .type "list" → o.data = .seq vs n → ReadsAll h vs.toList xs as → (hd : o.dict = Option.none := by rfl) → Reads h (.ref a) (.list xs) (a :: as)
  | tuple {a o vs n xs as} : h.get? a = some o → o.cls = .type "tuple" → o.data = .seq vs n → ReadsAll h vs.toList xs as → (hd : o.dict = Option.none := by rfl) → Reads h (.ref a) (.tuple xs) as
inductive ReadsAll (h : Heap) : List Value → List PyData → List Addr → Prop
  | nil : ReadsAll h [] [] []
  | cons {v vs d ds as bs} : Reads h v d as → ReadsAll h vs ds bs → ReadsAll h (v :: vs) (d :: ds) (as ++ bs)
end
theorem Reads.keeps {P P' : Heap} (hk : P.StaysIn P') {v d as} (r : Reads P v d as) : Reads P' v d as :=
  Reads.rec (motive_1 := fun v d as _ => Reads P' v d as) (motive_2 := fun vs ds as _ => ReadsAll P' vs ds as) .none (fun b => .bool b) (fun i t => .int i t) (fun x t => .str x t)
    (fun h1 h2 h3 _ h5 ih => .list (hk _ _ h1) h2 h3 ih h5) (fun h1 h2 h3 _ h5 ih => .tuple (hk _ _ h1) h2 h3 ih h5) .nil (fun _ _ a r => .cons a r) r
theorem ReadsAll.keeps {P P' : Heap} (hk : P.StaysIn P') {v d as} (r : ReadsAll P v d as) : ReadsAll P' v d as :=
  ReadsAll.rec (motive_1 := fun v d as _ => Reads P' v d as) (motive_2 := fun vs ds as _ => ReadsAll P' vs ds as) .none (fun b => .bool b) (fun i t => .int i t) (fun x t => .str x t)
    (fun h1 h2 h3 _ h5 ih => .list (hk _ _ h1) h2 h3 ih h5) (fun h1 h2 h3 _ h5 ih => .tuple (hk _ _ h1) h2 h3 ih h5) .nil (fun _ _ a r => .cons a r) r
theorem Reads.lib {P : Heap} {v d as} (r : Reads P v d as) : PySem.Reads P v d as :=
  Reads.rec (motive_1 := fun v d as _ => PySem.Reads P v d as) (motive_2 := fun vs ds as _ => PySem.ReadsAll P vs ds as) .none (fun b => .bool b) (fun i t => .int i t) (fun x t => .str x t)
    (fun h1 h2 h3 _ _ ih => .list h1 h2 h3 ih) (fun h1 h2 h3 _ _ ih => .tuple h1 h2 h3 ih) .nil (fun _ _ a r => .cons a r) r
theorem ReadsAll.lib {P : Heap} {vs ds as} (r : ReadsAll P vs ds as) : PySem.ReadsAll P vs ds as :=
  ReadsAll.rec (motive_1 := fun v d as _ => PySem.Reads P v d as) (motive_2 := fun vs ds as _ => PySem.ReadsAll P vs ds as) .none (fun b => .bool b) (fun i t => .int i t) (fun x t => .str x t)
    (fun h1 h2 h3 _ _ ih => .list h1 h2 h3 ih) (fun h1 h2 h3 _ _ ih => .tuple h1 h2 h3 ih) .nil (fun _ _ a r => .cons a r) r
theorem ReadsAll.ind {P : Heap} {M : List Value → List PyData → List Addr → Prop} (h0 : M [] [] []) (h1 : ∀ {v vs d ds as bs}, Reads P v d as → ReadsAll P vs ds bs → M vs ds bs → M (v :: vs) (d :: ds) (as ++ bs)) {vs ds as} (r : ReadsAll P vs ds as) : M vs ds as :=
  ReadsAll.rec (motive_1 := fun _ _ _ _ => True) (motive_2 := fun vs ds as _ => M vs ds as) trivial (fun _ => trivial) (fun _ _ => trivial) (fun _ _ => trivial)
    (fun _ _ _ _ _ _ => trivial) (fun _ _ _ _ _ _ => trivial) h0 (fun a r _ ih => h1 a r ih) r

/-- abstract values: frozen data; an exact value; a frozen object of a class; a frozen dict with text keys -/
inductive V where
  | d (x : PyData)
  | c (v : Value)
  | inst (C : Addr) (fs : List (Str × V))
  | dct (kvs : List (Str × V))
  | pr (x y : PyData)

mutual
inductive VRel (w : World) (P : Heap) : V → Value → Prop
  | d {x c as} : Reads P c x as → VRel w P (.d x) c
  | c (v) : VRel w P (.c v) v
  | inst {C a dx es n fs} : P.get? a = some (instObj C dx) → P.get? dx = some (dictOf es n) → EntRel w P fs es → VRel w P (.inst C fs) (.ref a)
  | dct {a es n kvs} : a ≠ sysModules → P.get? a = some (dictOf es n) → EntRel w P kvs es → VRel w P (.dct kvs) (.ref a)
  | pr {a o vs n x y as} : P.get? a = some o → o.cls = .type "tuple" → o.data = .seq vs n → ReadsAll P vs.toList [x, y] as → VRel w P (.pr x y) (.ref a)
inductive EntRel (w : World) (P : Heap) : List (Str × V) → List DictEntry → Prop
  | nil : EntRel w P [] []
  | cons {x t v c r es} : VRel w P v c → EntRel w P r es → EntRel w P ((x, v) :: r) (⟨PyData.keyHash w.params x, .str x t, c⟩ :: es)
end

theorem VRel.keeps {w : World} {P P' : Heap} (hk : P.StaysIn P') {v c} (r : VRel w P v c) : VRel w P' v c :=
  VRel.rec (motive_1 := fun v c _ => VRel w P' v c) (motive_2 := fun v c _ => EntRel w P' v c) (fun r => .d (Reads.keeps hk r)) (fun v => .c v) (fun h1 h2 _ ih => .inst (hk _ _ h1) (hk _ _ h2) ih)
    (fun h0 h1 _ ih => .dct h0 (hk _ _ h1) ih) (fun h1 h2 h3 h4 => .pr (hk _ _ h1) h2 h3 (ReadsAll.keeps hk h4)) .nil (fun _ _ a r => .cons a r) r
theorem EntRel.ind {w : World} {P : Heap} {M : List (Str × V) → List DictEntry → Prop} (h0 : M [] []) (h1 : ∀ {x t v c r es}, VRel w P v c → EntRel w P r es → M r es → M ((x, v) :: r) (⟨PyData.keyHash w.params x, .str x t, c⟩ :: es)) {kvs es} (r : EntRel w P kvs es) : M kvs es :=
  EntRel.rec (motive_1 := fun _ _ _ => True) (motive_2 := fun v c _ => M v c) (fun _ => trivial) (fun _ => trivial) (fun _ _ _ _ => trivial) (fun _ _ _ _ => trivial) (fun _ _ _ _ => trivial) h0 (fun a r _ ih => h1 a r ih) r
theorem EntRel.keeps {w : World} {P P' : Heap} (hk : P.StaysIn P') {v c} (r : EntRel w P v c) : EntRel w P' v c := EntRel.ind (M := fun v c => EntRel w P' v c) .nil (fun a _ ih => .cons (a.keeps hk) ih) r

theorem stays_refl (h : Heap) : h.StaysIn h := fun _ _ e => e
theorem stays_trans {a b c : Heap} (x : a.StaysIn b) (y : b.StaysIn c) : a.StaysIn c := fun _ _ e => y _ _ (x _ _ e)

/-- what the call may change -/
inductive MO where
  | lst (xs : List PyData)
  | dct (kvs : List (Str × V))
  | raw (o : Obj)

abbrev Led := Addr → Option MO
def Led.set (σ : Led) (a : Addr) (o : MO) : Led := fun b => if b = a then some o else σ b
def Led.del (σ : Led) (a : Addr) : Led := fun b => if b = a then none else σ b
def Led.nil : Led := fun _ => none
@[simp] theorem Led.set_self (σ : Led) (a : Addr) (o : MO) : σ.set a o a = some o := by simp [Led.set]
theorem Led.set_ne (σ : Led) {a b : Addr} (o : MO) (h : b ≠ a) : σ.set a o b = σ b := by simp [Led.set, h]
@[simp] theorem Led.set_set (σ : Led) (a : Addr) (o o' : MO) : (σ.set a o).set a o' = σ.set a o' := by funext b; by_cases h : b = a <;> simp [Led.set, h]
theorem Led.del_set (σ : Led) (a : Addr) (o : MO) (h : σ a = none) : (σ.set a o).del a = σ := by
  funext b; by_cases h' : b = a
  · subst h'; simp [Led.del, h]
  · simp [Led.del, Led.set, h']

/-- an object's dict stands at dx; a mutable list, dict -/
def MoIs (w : World) (P : Heap) (o : MO) (h : Heap) (a : Addr) : Prop := match o with
  | .lst xs => ∃ vs n as, h.get? a = some (listOf vs n) ∧ ReadsAll P vs.toList xs as
  | .dct kvs => ∃ es n, h.get? a = some (dictOf es n) ∧ EntRel w P kvs es
  | .raw o => h.get? a = some o

/-- the fixed part: program, world, the heap before the call, the streams -/
structure Cx where
  prog : Program
  w : World
  base : Heap
  os : OsState
  mg : Str → Option Value
  mb : Str → Option Value
  K : Frag
  g : base.Ns mainGlobals mg
  b : base.Ns builtinsNs mb
  nolimit : base.NoLimit
  KIn : K.In base
  big : ∃ b o, sysModules ≤ b ∧ base.get? b = some o

abbrev Cx.M (X : Cx) : PySem.Model := model X.prog X.w

structure RelC (X : Cx) (P : Heap) (F : Addr → Option Obj) (σ : Led) (s : Shared) : Prop where
  base : X.base.StaysIn P
  stays : P.StaysIn s.heap
  fr : ∀ a o, F a = some o → s.heap.get? a = some o ∧ P.get? a = none ∧ σ a = none
  own : ∀ a o, σ a = some o → MoIs X.w P o s.heap a ∧ P.get? a = none
  gens : s.gens = #[]
  os : s.os = X.os


open Classical in
noncomputable def pick (h : Heap) (p : Addr → Prop) : Heap := ⟨h.objs.mapIdx fun b o => if p b then o else { o with data := .freed }, h.life⟩

theorem pick_get (h : Heap) (p : Addr → Prop) (b : Addr) [Decidable (p b)] : (pick h p).get? b = if p b then h.get? b else none := by
  unfold pick Heap.get?
  simp only [Array.getElem?_mapIdx]
  cases e : h.objs[b]? with
  | none => simp
  | some o =>
    by_cases hp : p b
    · simp [hp]
    · simp [hp]

theorem MoIs.keeps {w : World} {P P' : Heap} (hk : P.StaysIn P') {o : MO} {h h' : Heap} {a : Addr} (ha : ∀ o, h.get? a = some o → h'.get? a = some o) (x : MoIs w P o h a) : MoIs w P' o h' a := by
  cases o with
  | lst xs => obtain ⟨vs, n, as, h1, h2⟩ := x; exact ⟨vs, n, as, ha _ h1, ReadsAll.keeps hk h2⟩
  | dct kvs => obtain ⟨es, n, h1, h2⟩ := x; exact ⟨es, n, ha _ h1, EntRel.keeps hk h2⟩
  | raw o => exact ha _ x
theorem MoIs.some {w : World} {P : Heap} {o : MO} {h : Heap} {a : Addr} (x : MoIs w P o h a) : ∃ o, h.get? a = some o := by
  cases o with
  | lst xs => obtain ⟨vs, n, as, h1, h2⟩ := x; exact ⟨_, h1⟩
  | dct kvs => obtain ⟨es, n, h1, h2⟩ := x; exact ⟨_, h1⟩
  | raw o => exact ⟨_, x⟩

/-- the persistent heap after a move: what was, and all that is new and not written -/
noncomputable def nextP (P h h' : Heap) (W : Addr → Prop) : Heap := pick h' fun b => (P.get? b).isSome ∨ (h.get? b = none ∧ ¬ W b)

section
variable {X : Cx} {P : Heap} {F : Addr → Option Obj} {σ σ' : Led} {s : Shared} {h' : Heap} {W : Addr → Prop} {tk : Nat}

theorem nextP_get_old {h : Heap} {b : Addr} {o : Obj} (e : P.get? b = some o) (e' : h'.get? b = some o) : (nextP P h h' W).get? b = some o := by
  classical
  unfold nextP
  rw [pick_get, if_pos (.inl (by rw [e]; rfl)), e']
theorem nextP_get_new {h : Heap} {b : Addr} {o : Obj} (e : h.get? b = none) (hw : ¬ W b) (e' : h'.get? b = some o) : (nextP P h h' W).get? b = some o := by
  classical
  unfold nextP
  rw [pick_get, if_pos (.inr ⟨e, hw⟩), e']
theorem nextP_none {h : Heap} {b : Addr} (e : P.get? b = none) (hn : h.get? b ≠ none ∨ W b) : (nextP P h h' W).get? b = none := by
  classical
  unfold nextP
  rw [pick_get, if_neg]
  rintro (h1 | ⟨h1, h2⟩)
  · rw [e] at h1; cases h1
  · exact hn.elim (fun x => x h1) h2
theorem nextP_of {h : Heap} {b : Addr} {o : Obj} (e : (nextP P h h' W).get? b = some o) : h'.get? b = some o := by
  classical
  unfold nextP at e
  rw [pick_get] at e
  split at e
  · exact e
  · cases e

theorem RelC.stays_next (R : RelC X P F σ s) (hk : ∀ b o, ¬ W b → s.heap.get? b = some o → h'.get? b = some o) (hW : ∀ b, W b → P.get? b = none) : P.StaysIn (nextP P s.heap h' W) :=
  fun b o e => nextP_get_old e (hk b o (fun w => by rw [hW b w] at e; cases e) (R.stays b o e))

theorem RelC.move (R : RelC X P F σ s) (hk : ∀ b o, ¬ W b → s.heap.get? b = some o → h'.get? b = some o) (hW : ∀ b, W b → P.get? b = none ∧ F b = none)
    (hσ : ∀ a o, σ' a = some o → (¬ W a ∧ σ a = some o) ∨ (W a ∧ MoIs X.w (nextP P s.heap h' W) o h' a)) :
    RelC X (nextP P s.heap h' W) F σ' { s with heap := h', toks := tk } := by
  have st := R.stays_next hk fun b hb => (hW b hb).1
  refine ⟨stays_trans R.base st, fun b o e => nextP_of e, fun a o e => ?_, fun a o e => ?_, R.gens, R.os⟩
  · obtain ⟨h1, h2, h3⟩ := R.fr a o e
    have nw : ¬ W a := fun w => by rw [(hW a w).2] at e; cases e
    refine ⟨hk _ _ nw h1, nextP_none h2 (.inl (by rw [h1]; exact fun x => nomatch x)), ?_⟩
    cases q : σ' a with
    | none => rfl
    | some m =>
      rcases hσ a m q with ⟨_, q'⟩ | ⟨w, _⟩
      · rw [h3] at q'; cases q'
      · exact absurd w nw
  · rcases hσ a o e with ⟨nw, q⟩ | ⟨w, q⟩
    · obtain ⟨h1, h2⟩ := R.own a o q
      obtain ⟨o', ho'⟩ := h1.some
      exact ⟨h1.keeps st fun o e => hk _ _ nw e, nextP_none h2 (.inl (by rw [ho']; exact fun x => nomatch x))⟩
    · exact ⟨q, nextP_none (hW a w).1 (.inr w)⟩

theorem RelC.toks (R : RelC X P F σ s) : RelC X P F σ { s with toks := tk } := ⟨R.base, R.stays, R.fr, R.own, R.gens, R.os⟩

/-- nothing written: only new objects, all persistent -/
theorem RelC.grow (R : RelC X P F σ s) (hk : s.heap.StaysIn h') : P.StaysIn (nextP P s.heap h' fun _ => False) ∧ RelC X (nextP P s.heap h' fun _ => False) F σ { s with heap := h', toks := tk } :=
  ⟨R.stays_next (fun b o _ e => hk b o e) (fun _ x => x.elim), R.move (fun b o _ e => hk b o e) (fun _ x => x.elim) fun a o e => .inl ⟨fun x => x, e⟩⟩
end

/-- room: frames, units, nothing handled -/
structure Ok (A : Around) (n : Nat) : Prop where
  handled : A.handled = none
  depth : A.depth + n ≤ 990
  units : A.units + 20 * n ≤ 9800

theorem Ok.le {A : Around} {n m : Nat} (h : Ok A n) (hm : m ≤ n) : Ok A m := ⟨h.1, by have := h.2; omega, by have := h.3; omega⟩
theorem Ok.deeper {A : Around} {n : Nat} {env : Env} (h : Ok A (n + 1)) : Ok (A.deeper env) n := ⟨h.1, by have := h.2; show A.depth + 1 + n ≤ _; omega, by have := h.3; show A.units + 3 + _ ≤ _; omega⟩
theorem Ok.room {A : Around} {n : Nat} (h : Ok A n) : A.depth < recursionLimit := by have := h.2; show _ < 1000; omega
theorem Ok.line64 {A : Around} {n : Nat} (h : Ok A n) : A.units + 64 < cLine := by have := h.3; show _ < 9900; omega
theorem Ok.line65 {A : Around} {n : Nat} (h : Ok A n) : A.units + 65 < cLine := by have := h.3; show _ < 9900; omega

/-- the own objects of a frame -/
def Own (env : Env) (a : Addr) : Prop := a = env.locals ∨ a ∈ env.cells.map (·.2)

structure EnvIs (X : Cx) (P : Heap) (F : Addr → Option Obj) (σ : Led) (env : Env) (m : List (Str × V)) (h : Heap) : Prop where
  kind : env.scope.kind = .function
  glob : env.globals = mainGlobals
  blt : env.builtins = builtinsNs
  ns : ∃ cm, h.Ns env.locals cm ∧ ∀ x v, m.lookup x = some v → env.kindOf x = some .local → ∃ c, cm x = some c ∧ VRel X.w P v c
  cells : ∀ x v, m.lookup x = some v → env.kindOf x = some .cell → ∃ a c, env.cells.lookup x = some a ∧ h.IsCell a (some c) ∧ VRel X.w P v c
  kinds : ∀ x v, m.lookup x = some v → env.kindOf x = some .local ∨ env.kindOf x = some .cell
  cellObj : ∀ p ∈ env.cells, ∃ v, h.IsCell p.2 v
  apart : ∀ a, Own env a → P.get? a = none ∧ F a = none ∧ σ a = none
  dist : (env.locals :: env.cells.map (·.2)).Nodup

end Mine
set_option maxRecDepth 10000
namespace Mine
open PySem PySem.W PyProof.Rows

section
variable {X : Cx} {P P' : Heap} {F : Addr → Option Obj} {σ σ' : Led} {s s' : Shared} {h' : Heap} {W : Addr → Prop} {tk : Nat} {env : Env} {m : List (Str × V)}

theorem RelC.stay (R : RelC X P F σ s) : X.base.StaysIn s.heap := stays_trans R.base R.stays
theorem RelC.g (R : RelC X P F σ s) : s.heap.Ns mainGlobals X.mg := X.g.keeps R.stay
theorem RelC.b (R : RelC X P F σ s) : s.heap.Ns builtinsNs X.mb := X.b.keeps R.stay
theorem RelC.nolimit (R : RelC X P F σ s) : s.heap.NoLimit := X.nolimit.keeps R.stay
theorem RelC.KIn (R : RelC X P F σ s) : X.K.In s.heap := X.KIn.keeps R.stay
theorem RelC.fresh (R : RelC X P F σ s) {a : Addr} (ha : s.heap.get? a = none) : P.get? a = none ∧ F a = none ∧ σ a = none := by
  refine ⟨?_, ?_, ?_⟩
  · cases q : P.get? a with
    | none => rfl
    | some o => rw [R.stays _ _ q] at ha; cases ha
  · cases q : F a with
    | none => rfl
    | some o => rw [(R.fr _ _ q).1] at ha; cases ha
  · cases q : σ a with
    | none => rfl
    | some o => obtain ⟨o', e⟩ := (R.own _ _ q).1.some; rw [e] at ha; cases ha
theorem size_none (h : Heap) {a : Addr} (ha : h.objs.size ≤ a) : h.get? a = none := Heap.get?_none_of_le ha

theorem EnvIs.has (E : EnvIs X P F σ env m s.heap) {a : Addr} (ha : Own env a) : ∃ o, s.heap.get? a = some o := by
  rcases ha with rfl | ha
  · obtain ⟨cm, ⟨o, _, _, ho, _⟩, _⟩ := E.ns; exact ⟨o, ho⟩
  · obtain ⟨p, hp, rfl⟩ := List.mem_map.mp ha
    obtain ⟨v, o, ho, _⟩ := E.cellObj p hp; exact ⟨o, ho⟩

/-- the frame's own objects, exact -/
noncomputable def withEnv (F : Addr → Option Obj) (env : Env) (h : Heap) : Addr → Option Obj := by
  classical exact fun a => if Own env a then h.get? a else F a

theorem withEnv_own {a : Addr} {h : Heap} (ha : Own env a) : withEnv F env h a = h.get? a := by unfold withEnv; simp [ha]
theorem withEnv_not {a : Addr} {h : Heap} (ha : ¬ Own env a) : withEnv F env h a = F a := by unfold withEnv; simp [ha]

theorem lift (R : RelC X P F σ s) (E : EnvIs X P F σ env m s.heap) : RelC X P (withEnv F env s.heap) σ s := by
  refine ⟨R.base, R.stays, fun a o e => ?_, R.own, R.gens, R.os⟩
  by_cases ha : Own env a
  · rw [withEnv_own ha] at e; exact ⟨e, (E.apart a ha).1, (E.apart a ha).2.2⟩
  · rw [withEnv_not ha] at e; exact R.fr a o e

theorem EnvIs.at (E : EnvIs X P F σ env m s.heap) {h' : Heap} {F' : Addr → Option Obj} (hP : P.StaysIn P') (hk : ∀ a o, Own env a → s.heap.get? a = some o → h'.get? a = some o ∧ P'.get? a = none ∧ F' a = none ∧ σ' a = none) : EnvIs X P' F' σ' env m h' := by
  obtain ⟨cm, hn, hl⟩ := E.ns
  refine ⟨E.kind, E.glob, E.blt, ⟨cm, hn.at' fun o e => (hk _ o (.inl rfl) e).1, fun x v h1 h2 => ?_⟩, fun x v h1 h2 => ?_, E.kinds, fun p hp => ?_, fun a ha => ?_, E.dist⟩
  · obtain ⟨c, h3, h4⟩ := hl x v h1 h2; exact ⟨c, h3, h4.keeps hP⟩
  · obtain ⟨a, c, h3, ⟨o, ho, hd⟩, h5⟩ := E.cells x v h1 h2
    have hm : (x, a) ∈ env.cells := by
      clear hl hn h5 ho hd h1 h2
      revert h3
      generalize env.cells = l
      intro h3
      induction l with
      | nil => cases h3
      | cons p r ih =>
        obtain ⟨y, b⟩ := p
        rw [List.lookup_cons] at h3
        by_cases q : (x == y) = true
        · simp only [q] at h3; cases h3; rw [beq_iff_eq.mp q]; exact .head _
        · simp only [Bool.not_eq_true] at q; simp only [q] at h3; exact .tail _ (ih h3)
    exact ⟨a, c, h3, ⟨o, (hk a o (.inr (List.mem_map.mpr ⟨_, hm, rfl⟩)) ho).1, hd⟩, h5.keeps hP⟩
  · obtain ⟨v, o, ho, hd⟩ := E.cellObj p hp
    exact ⟨v, o, (hk p.2 o (.inr (List.mem_map.mpr ⟨_, hp, rfl⟩)) ho).1, hd⟩
  · obtain ⟨o, ho⟩ := E.has ha
    exact (hk a o ha ho).2

theorem unlift (R : RelC X P F σ s) (E : EnvIs X P F σ env m s.heap) (R' : RelC X P' (withEnv F env s.heap) σ' s') (hP : P.StaysIn P') : RelC X P' F σ' s' ∧ EnvIs X P' F σ' env m s'.heap := by
  have hno : ∀ a o, F a = some o → ¬ Own env a := fun a o e ha => by rw [(E.apart a ha).2.1] at e; cases e
  refine ⟨⟨R'.base, R'.stays, fun a o e => R'.fr a o (by rw [withEnv_not (hno a o e)]; exact e), R'.own, R'.gens, R'.os⟩, E.at hP fun a o ha e => ?_⟩
  obtain ⟨h1, h2, h3⟩ := R'.fr a o (by rw [withEnv_own ha]; exact e)
  exact ⟨h1, h2, (E.apart a ha).2.1, h3⟩

/-- the value and the state behind a primitive -/
def PostO (X : Cx) (P : Heap) (F : Addr → Option Obj) (Q : V → Led → Prop) (c : Value) (s' : Shared) : Prop :=
  ∃ P' v σ', P.StaysIn P' ∧ VRel X.w P' v c ∧ RelC X P' F σ' s' ∧ Q v σ'
def PostV (X : Cx) (P : Heap) (F : Addr → Option Obj) (env : Env) (m : List (Str × V)) (Q : V → Led → Prop) (c : Value) (s' : Shared) : Prop :=
  ∃ P' v σ', P.StaysIn P' ∧ VRel X.w P' v c ∧ RelC X P' F σ' s' ∧ EnvIs X P' F σ' env m s'.heap ∧ Q v σ'
def PostB (X : Cx) (P : Heap) (F : Addr → Option Obj) (env : Env) (m : List (Str × V)) (Q : Bool → Led → Prop) (c : Bool) (s' : Shared) : Prop :=
  ∃ P' σ', P.StaysIn P' ∧ RelC X P' F σ' s' ∧ EnvIs X P' F σ' env m s'.heap ∧ Q c σ'

abbrev NoE : Value → Shared → Prop := fun _ _ => False

theorem PostO.intro {Q : V → Led → Prop} {c : Value} {v : V} (R : RelC X P F σ s) (hv : VRel X.w P v c) (h : Q v σ) : PostO X P F Q c s := ⟨P, v, σ, stays_refl _, hv, R, h⟩
theorem PostO.up {Q : V → Led → Prop} {c : Value} (hP : P.StaysIn P') (h : PostO X P' F Q c s) : PostO X P F Q c s := let ⟨P'', v, σ', a, b⟩ := h; ⟨P'', v, σ', stays_trans hP a, b⟩
theorem PostV.up {Q : V → Led → Prop} {c : Value} (hP : P.StaysIn P') (h : PostV X P' F env m Q c s) : PostV X P F env m Q c s := let ⟨P'', v, σ', a, b⟩ := h; ⟨P'', v, σ', stays_trans hP a, b⟩
theorem PostB.up {Q : Bool → Led → Prop} {c : Bool} (hP : P.StaysIn P') (h : PostB X P' F env m Q c s) : PostB X P F env m Q c s := let ⟨P'', σ', a, b⟩ := h; ⟨P'', σ', stays_trans hP a, b⟩

def Op1 (X : Cx) (n : Nat) (f : Value → Sem Value) (v : V) (σ : Led) (Q : V → Led → Prop) : Prop :=
  ∀ A, Ok A n → ∀ P F s c, RelC X P F σ s → VRel X.w P v c → wpAny X.M A (f c) (PostO X P F Q) NoE s
def Op2 (X : Cx) (n : Nat) (f : Value → Value → Sem Value) (v1 v2 : V) (σ : Led) (Q : V → Led → Prop) : Prop :=
  ∀ A, Ok A n → ∀ P F s c1 c2, RelC X P F σ s → VRel X.w P v1 c1 → VRel X.w P v2 c2 → wpAny X.M A (f c1 c2) (PostO X P F Q) NoE s

def Ev (X : Cx) (n : Nat) (env : Env) (t : Sem Value) (m : List (Str × V)) (σ : Led) (Q : V → Led → Prop) : Prop :=
  ∀ A, Ok A n → ∀ P F s, RelC X P F σ s → EnvIs X P F σ env m s.heap → wpAny X.M A t (PostV X P F env m Q) NoE s
/-- truth -/
def Tr (X : Cx) (n : Nat) (env : Env) (t : Sem Bool) (m : List (Str × V)) (σ : Led) (Q : Bool → Led → Prop) : Prop :=
  ∀ A, Ok A n → ∀ P F s, RelC X P F σ s → EnvIs X P F σ env m s.heap → wpAny X.M A t (PostB X P F env m Q) NoE s

theorem wpM {α : Type} {M : Model} {A : Around} {t : Sem α} {Q Q' : α → Shared → Prop} {s : Shared} (h : wpAny M A t Q NoE s) (hQ : ∀ a s, Q a s → Q' a s) : wpAny M A t Q' NoE s := wpAny_mono h hQ fun _ _ x => x

theorem Ev.mono {n : Nat} {t : Sem Value} {Q Q' : V → Led → Prop} (h : Ev X n env t m σ Q) (hQ : ∀ v σ, Q v σ → Q' v σ) : Ev X n env t m σ Q' :=
  fun A ok P F s R E => wpM (h A ok P F s R E) fun _ _ ⟨P', v, σ', a, b, c, d, e⟩ => ⟨P', v, σ', a, b, c, d, hQ _ _ e⟩
theorem Tr.mono {n : Nat} {t : Sem Bool} {Q Q' : Bool → Led → Prop} (h : Tr X n env t m σ Q) (hQ : ∀ v σ, Q v σ → Q' v σ) : Tr X n env t m σ Q' :=
  fun A ok P F s R E => wpM (h A ok P F s R E) fun _ _ ⟨P', σ', a, c, d, e⟩ => ⟨P', σ', a, c, d, hQ _ _ e⟩

/-- a primitive run in a frame -/
theorem inEnv {A : Around} {t : Sem Value} {Q : V → Led → Prop} (R : RelC X P F σ s) (E : EnvIs X P F σ env m s.heap)
    (h : wpAny X.M A t (PostO X P (withEnv F env s.heap) Q) NoE s) : wpAny X.M A t (PostV X P F env m Q) NoE s :=
  wpM h fun c s' ⟨P', v, σ', a, b, r, q⟩ => let ⟨r', e'⟩ := unlift R E r a; ⟨P', v, σ', a, b, r', e', q⟩

theorem op1_in {A : Around} {n : Nat} (ok : Ok A n) {f : Value → Sem Value} {v : V} {c : Value} {Q : V → Led → Prop} (h : Op1 X n f v σ Q) (R : RelC X P F σ s) (E : EnvIs X P F σ env m s.heap) (r : VRel X.w P v c) :
    wpAny X.M A (f c) (PostV X P F env m Q) NoE s := inEnv R E (h A ok _ _ _ _ (lift R E) r)
theorem op2_in {A : Around} {n : Nat} (ok : Ok A n) {f : Value → Value → Sem Value} {v v' : V} {c c' : Value} {Q : V → Led → Prop} (h : Op2 X n f v v' σ Q) (R : RelC X P F σ s) (E : EnvIs X P F σ env m s.heap)
    (r : VRel X.w P v c) (r' : VRel X.w P v' c') : wpAny X.M A (f c c') (PostV X P F env m Q) NoE s := inEnv R E (h A ok _ _ _ _ _ (lift R E) r r')

/-! ## expressions -/
variable {n : Nat} {Q : V → Led → Prop}

theorem Ev_Name {x : Str} {pos : Pos} {v : V} (hv : m.lookup x = some v) (h : Q v σ) (hd : (x == ("__debug__" : Str)) = false := by decide) : Ev X n env (eval (.Name x pos) env) m σ Q := by
  intro A ok P F s R E
  refine wpAny_Name ?_ hd
  rcases E.kinds x v hv with hk | hk
  · obtain ⟨cm, hn, hl⟩ := E.ns
    obtain ⟨c, h1, h2⟩ := hl x v hv hk
    exact wpAny_loadName_local E.kind hk hn h1 ⟨P, v, σ, stays_refl _, h2, R, E, h⟩
  · obtain ⟨a, c, h1, h2, h3⟩ := E.cells x v hv hk
    exact wpAny_loadName_cell E.kind hk h1 h2 ⟨P, v, σ, stays_refl _, h3, R, E, h⟩
theorem Ev_Glob {x : Str} {pos : Pos} {c : Value} {v : V} (hk : env.kindOf x = some .globalImplicit) (hg : X.mg x = some c) (hv : VRel X.w X.base v c) (h : Q v σ) (hd : (x == ("__debug__" : Str)) = false := by decide) :
    Ev X n env (eval (.Name x pos) env) m σ Q := fun A ok P F s R E =>
  Calls.Name_function_global E.kind hk (Calls.loadGlobal_global (E.glob ▸ R.g) hg ⟨P, v, σ, stays_refl _, hv.keeps R.base, R, E, h⟩) hd
theorem Ev_Blt {x : Str} {pos : Pos} {c : Value} (hk : env.kindOf x = some .globalImplicit) (hg : X.mg x = none) (hb : X.mb x = some c) (h : Q (.c c) σ) (hd : (x == ("__debug__" : Str)) = false := by decide) :
    Ev X n env (eval (.Name x pos) env) m σ Q := fun A ok P F s R E =>
  Calls.Name_function_global E.kind hk (Calls.loadGlobal_builtin (E.glob ▸ R.g) hg (E.blt ▸ R.b) hb ⟨P, _, σ, stays_refl _, .c c, R, E, h⟩) hd

theorem Ev_Int {i : Int} {k pos} (h : Q (.d (.int i)) σ) : Ev X n env (eval (.Constant (.int i) k pos) env) m σ Q := fun A ok P F s R E =>
  wpAny_Constant_int ⟨P, _, σ, stays_refl _, .d (.int _ _), R.toks, E, h⟩
theorem Ev_Str {x : Str} {k pos} (h : Q (.d (.str x)) σ) : Ev X n env (eval (.Constant (.str x) k pos) env) m σ Q := fun A ok P F s R E =>
  wpAny_Constant_str ⟨P, _, σ, stays_refl _, .d (.str _ _), R.toks, E, h⟩
theorem Ev_Bool {b : Bool} {k pos} (h : Q (.d (.bool b)) σ) : Ev X n env (eval (.Constant (.bool b) k pos) env) m σ Q := fun A ok P F s R E =>
  wpAny_Constant_bool ⟨P, _, σ, stays_refl _, .d (.bool _), R, E, h⟩
theorem Ev_None {k pos} (h : Q (.d .none) σ) : Ev X n env (eval (.Constant .none k pos) env) m σ Q := fun A ok P F s R E =>
  wpAny_Constant_none ⟨P, _, σ, stays_refl _, .d .none, R, E, h⟩

theorem Ev_BinOp {l r : Expr} {op : Operator} {pos : Pos} (h : Ev X n env (eval l env) m σ fun v1 σ1 => Ev X n env (eval r env) m σ1 fun v2 σ2 => Op2 X n (binaryOp op) v1 v2 σ2 Q) :
    Ev X n env (eval (.BinOp l op r pos) env) m σ Q := by
  intro A ok P F s R E
  refine wpAny_BinOp (wpM (h A ok P F s R E) ?_)
  rintro c1 s1 ⟨P1, v1, σ1, p1, r1, R1, E1, h1⟩
  refine wpM (h1 A ok P1 F s1 R1 E1) ?_
  rintro c2 s2 ⟨P2, v2, σ2, p2, r2, R2, E2, h2⟩
  exact wpM (op2_in ok h2 R2 E2 (r1.keeps p2) r2) fun _ _ => PostV.up (stays_trans p1 p2)

theorem Ev_Cmp {l r : Expr} {op : CmpOp} {pos : Pos} (h : Ev X n env (eval l env) m σ fun v1 σ1 => Ev X n env (eval r env) m σ1 fun v2 σ2 => Op2 X n (compareOp op) v1 v2 σ2 Q)
    (hm : behindInMarks op r = false := by with_unfolding_all rfl) : Ev X n env (eval (.Compare l [op] [r] pos) env) m σ Q := by
  intro A ok P F s R E
  refine wpAny_Compare1 (wpM (h A ok P F s R E) ?_) hm
  rintro c1 s1 ⟨P1, v1, σ1, p1, r1, R1, E1, h1⟩
  refine wpM (h1 A ok P1 F s1 R1 E1) ?_
  rintro c2 s2 ⟨P2, v2, σ2, p2, r2, R2, E2, h2⟩
  exact wpM (op2_in ok h2 R2 E2 (r1.keeps p2) r2) fun _ _ => PostV.up (stays_trans p1 p2)

theorem Tr_Cmp {l r : Expr} {op : CmpOp} {pos : Pos} {whole : Sem Value} {Q : Bool → Led → Prop} (h : Ev X n env (eval l env) m σ fun v1 σ1 => Ev X n env (eval r env) m σ1 fun v2 σ2 => Op2 X n (compareOp op) v1 v2 σ2 fun v σ3 => ∃ b, v = .d (.bool b) ∧ Q b σ3)
    (hm : behindInMarks op r = false := by with_unfolding_all rfl) : Tr X n env (isTrue (.Compare l [op] [r] pos) env whole) m σ Q := by
  intro A ok P F s R E
  refine wpAny_isTrue_Compare1 (wpM (h A ok P F s R E) ?_) hm
  rintro c1 s1 ⟨P1, v1, σ1, p1, r1, R1, E1, h1⟩
  refine wpM (h1 A ok P1 F s1 R1 E1) ?_
  rintro c2 s2 ⟨P2, v2, σ2, p2, r2, R2, E2, h2⟩
  refine wpM (op2_in ok h2 R2 E2 (r1.keeps p2) r2) ?_
  rintro c s3 ⟨P3, v, σ3, p3, r3, R3, E3, b, rfl, hb⟩
  cases r3 with | d r3 => cases r3 with | bool b => exact wpAny_truthy_bool ⟨P3, σ3, stays_trans p1 (stays_trans p2 p3), R3, E3, hb⟩

theorem Tr_Not {x : Expr} {pos : Pos} {whole : Sem Value} {Q : Bool → Led → Prop} (h : Tr X n env (isTrue x env (eval x env)) m σ fun b => Q (!b)) : Tr X n env (isTrue (.UnaryOp .Not x pos) env whole) m σ Q := fun A ok P F s R E =>
  wpAny_isTrue_Not (h A ok P F s R E)

theorem Tr_Bool {op : BoolOp} {values : List Expr} {pos : Pos} {whole : Sem Value} {Q : Bool → Led → Prop} (h : Tr X n env (allTrue op values env) m σ Q) : Tr X n env (isTrue (.BoolOp op values pos) env whole) m σ Q := fun A ok P F s R E =>
  wpAny_isTrue_BoolOp (h A ok P F s R E)
theorem Tr_and_nil {Q : Bool → Led → Prop} (h : Q true σ) : Tr X n env (allTrue .And [] env) m σ Q := fun A ok P F s R E => wpAny_allTrue_And_nil ⟨P, σ, stays_refl _, R, E, h⟩
theorem Tr_or_nil {Q : Bool → Led → Prop} (h : Q false σ) : Tr X n env (allTrue .Or [] env) m σ Q := fun A ok P F s R E => wpAny_allTrue_Or_nil ⟨P, σ, stays_refl _, R, E, h⟩
theorem Tr_and {x : Expr} {rest : List Expr} {Q : Bool → Led → Prop} (h : Tr X n env (isTrue x env (eval x env)) m σ fun b σ1 => if b then Tr X n env (allTrue .And rest env) m σ1 Q else Q false σ1) : Tr X n env (allTrue .And (x :: rest) env) m σ Q := by
  intro A ok P F s R E
  refine wpAny_allTrue_And_cons (wpM (h A ok P F s R E) ?_)
  rintro b s1 ⟨P1, σ1, p1, R1, E1, h1⟩
  cases b with
  | true => exact wpM (h1 A ok P1 F s1 R1 E1) fun _ _ => PostB.up p1
  | false => exact ⟨P1, σ1, p1, R1, E1, h1⟩
theorem Tr_or {x : Expr} {rest : List Expr} {Q : Bool → Led → Prop} (h : Tr X n env (isTrue x env (eval x env)) m σ fun b σ1 => if b then Q true σ1 else Tr X n env (allTrue .Or rest env) m σ1 Q) : Tr X n env (allTrue .Or (x :: rest) env) m σ Q := by
  intro A ok P F s R E
  refine wpAny_allTrue_Or_cons (wpM (h A ok P F s R E) ?_)
  rintro b s1 ⟨P1, σ1, p1, R1, E1, h1⟩
  cases b with
  | false => exact wpM (h1 A ok P1 F s1 R1 E1) fun _ _ => PostB.up p1
  | true => exact ⟨P1, σ1, p1, R1, E1, h1⟩

/-- a plain bool value as a test -/
theorem Tr_val {e : Expr} {whole : Sem Value} {Q : Bool → Led → Prop} (h : Ev X n env whole m σ fun v σ1 => ∃ b, v = .d (.bool b) ∧ Q b σ1)
    (he : isTrue e env whole = (do let v ← whole; standAt e.pos; holding [v] (truthy v)) := by rfl) : Tr X n env (isTrue e env whole) m σ Q := by
  intro A ok P F s R E
  refine wpAny_isTrue_value (wpM (h A ok P F s R E) ?_) he
  rintro c s1 ⟨P1, v, σ1, p1, r1, R1, E1, b, rfl, hb⟩
  cases r1 with | d r1 => cases r1 with | bool b => exact wpAny_truthy_bool ⟨P1, σ1, p1, R1, E1, hb⟩

theorem Ev_If {test body orelse : Expr} {pos : Pos} (h : Tr X n env (isTrue test env (eval test env)) m σ fun b σ1 => if b then Ev X n env (eval body env) m σ1 Q else Ev X n env (eval orelse env) m σ1 Q) :
    Ev X n env (eval (.IfExp test body orelse pos) env) m σ Q := by
  intro A ok P F s R E
  refine wpAny_IfExp (wpM (h A ok P F s R E) ?_)
  rintro b s1 ⟨P1, σ1, p1, R1, E1, h1⟩
  cases b with
  | true => exact wpM (h1 A ok P1 F s1 R1 E1) fun _ _ => PostV.up p1
  | false => exact wpM (h1 A ok P1 F s1 R1 E1) fun _ _ => PostV.up p1

theorem Ev_Un {x : Expr} {op : UnaryOp} {pos : Pos} (h : Ev X n env (eval x env) m σ fun v σ1 => Op1 X n (unaryOp op) v σ1 Q) : Ev X n env (eval (.UnaryOp op x pos) env) m σ Q := by
  intro A ok P F s R E
  refine wpAny_UnaryOp (wpM (h A ok P F s R E) ?_)
  rintro c s1 ⟨P1, v, σ1, p1, r1, R1, E1, h1⟩
  exact wpM (op1_in ok h1 R1 E1 r1) fun _ _ => PostV.up p1
end
end Mine
set_option maxRecDepth 10000
namespace Mine
open PySem PySem.W PyProof.Rows

theorem wpE {α : Type} {M : Model} {A : Around} {t : Sem α} {Q Q' : α → Shared → Prop} {E : Value → Shared → Prop} {s : Shared} (h : wpAny M A t Q NoE s) (hQ : ∀ a s, Q a s → Q' a s) : wpAny M A t Q' E s := wpAny_mono h hQ fun _ _ x => x.elim

inductive Fl where
  | next | brk | cont
  | ret (v : V)
inductive FRel (w : World) (P : Heap) : Fl → Flow → Prop
  | next : FRel w P .next .next
  | brk : FRel w P .brk .brk
  | cont : FRel w P .cont .cont
  | ret {v c} : VRel w P v c → FRel w P (.ret v) (.ret c)

section
variable {X : Cx} {P P' : Heap} {F : Addr → Option Obj} {σ σ' : Led} {s s' : Shared} {h' : Heap} {W : Addr → Prop} {tk : Nat} {env : Env} {m : List (Str × V)} {n : Nat}

/-! ## a set of addresses laid by, exact -/
noncomputable def withS (F : Addr → Option Obj) (S : Addr → Prop) (h : Heap) : Addr → Option Obj := by
  classical exact fun a => if S a then h.get? a else F a
theorem withS_in {S : Addr → Prop} {a : Addr} {h : Heap} (ha : S a) : withS F S h a = h.get? a := by unfold withS; simp [ha]
theorem withS_out {S : Addr → Prop} {a : Addr} {h : Heap} (ha : ¬ S a) : withS F S h a = F a := by unfold withS; simp [ha]

theorem liftS {S : Addr → Prop} (R : RelC X P F σ s) (hS : ∀ a, S a → P.get? a = none ∧ σ a = none) : RelC X P (withS F S s.heap) σ s := by
  refine ⟨R.base, R.stays, fun a o e => ?_, R.own, R.gens, R.os⟩
  by_cases ha : S a
  · rw [withS_in ha] at e; exact ⟨e, (hS a ha).1, (hS a ha).2⟩
  · rw [withS_out ha] at e; exact R.fr a o e
theorem unliftS {S : Addr → Prop} {h : Heap} (R' : RelC X P' (withS F S h) σ' s') (hF : ∀ a, S a → F a = none) :
    RelC X P' F σ' s' ∧ ∀ a o, S a → h.get? a = some o → s'.heap.get? a = some o ∧ P'.get? a = none ∧ σ' a = none := by
  have hno : ∀ a o, F a = some o → ¬ S a := fun a o e ha => by rw [hF a ha] at e; cases e
  refine ⟨⟨R'.base, R'.stays, fun a o e => R'.fr a o (by rw [withS_out (hno a o e)]; exact e), R'.own, R'.gens, R'.os⟩, fun a o ha e => ?_⟩
  exact R'.fr a o (by rw [withS_in ha]; exact e)

/-- heaps that differ in objects of nobody's -/
theorem RelC.but (R : RelC X P F σ s) (hW : ∀ b, W b → P.get? b = none ∧ F b = none ∧ σ b = none) (hk : ∀ b o, ¬ W b → s.heap.get? b = some o → h'.get? b = some o) : RelC X P F σ { s with heap := h', toks := tk } := by
  refine ⟨R.base, fun b o e => hk b o (fun w => by rw [(hW b w).1] at e; cases e) (R.stays b o e), fun a o e => ?_, fun a o e => ?_, R.gens, R.os⟩
  · obtain ⟨h1, h2, h3⟩ := R.fr a o e
    exact ⟨hk a o (fun w => by rw [(hW a w).2.1] at e; cases e) h1, h2, h3⟩
  · obtain ⟨h1, h2⟩ := R.own a o e
    exact ⟨h1.keeps (stays_refl P) (fun o' e' => hk a o' (fun w => by rw [(hW a w).2.2] at e; cases e) e'), h2⟩
theorem EnvIs.but (E : EnvIs X P F σ env m s.heap) (hW : ∀ b, W b → ¬ Own env b) (hk : ∀ b o, ¬ W b → s.heap.get? b = some o → h'.get? b = some o) : EnvIs X P F σ env m h' :=
  E.at (stays_refl P) fun a o ha e => ⟨hk a o (fun w => hW a w ha) e, E.apart a ha⟩

/-- the lists of variables: fewer will do -/
def Sub (m' m : List (Str × V)) : Prop := ∀ x v, m'.lookup x = some v → m.lookup x = some v
theorem EnvIs.sub {h : Heap} {m' : List (Str × V)} (E : EnvIs X P F σ env m h) (hs : Sub m' m) : EnvIs X P F σ env m' h :=
  ⟨E.kind, E.glob, E.blt, let ⟨cm, a, b⟩ := E.ns; ⟨cm, a, fun x v e => b x v (hs x v e)⟩, fun x v e => E.cells x v (hs x v e), fun x v e => E.kinds x v (hs x v e), E.cellObj, E.apart, E.dist⟩
def SubL : List (Str × V) → List (Str × V) → Prop
  | [], _ => True
  | (x, v) :: r, m => m.lookup x = some v ∧ SubL r m
theorem SubL.sub : ∀ {m' m : List (Str × V)}, SubL m' m → Sub m' m
  | [], _, _, _, _, e => by cases e
  | (y, u) :: r, m, h, x, v, e => by
    rw [List.lookup_cons] at e
    by_cases q : (x == y) = true
    · simp only [q] at e; cases e; rw [beq_iff_eq.mp q]; exact h.1
    · simp only [Bool.not_eq_true] at q; simp only [q] at e; exact SubL.sub h.2 x v e

/-! ## names are bound -/
def mset (m : List (Str × V)) (x : Str) (v : V) : List (Str × V) := (x, v) :: m

theorem lookup_mset {x y : Str} {v : V} : ((x, v) :: m).lookup y = if y = x then some v else m.lookup y := by
  rw [List.lookup_cons]
  by_cases h : y = x
  · simp [h]
  · have : (y == x) = false := by simpa using h
    simp [this, h]

theorem lookup_mem {x : Str} {a : Addr} : ∀ {l : List (Str × Addr)}, l.lookup x = some a → (x, a) ∈ l
  | (y, b) :: r, h => by
    rw [List.lookup_cons] at h
    by_cases q : (x == y) = true
    · simp only [q] at h; cases h; rw [beq_iff_eq.mp q]; exact .head _
    · simp only [Bool.not_eq_true] at q; simp only [q] at h; exact .tail _ (lookup_mem h)

/-- where a name is kept -/
def Binds (env : Env) (x : Str) : Prop := env.kindOf x = some .local ∨ (env.kindOf x = some .cell ∧ (env.cells.lookup x).isSome = true)

theorem store_rule {A : Around} {x : Str} {v : V} {c : Value} (hb : Binds env x) (R : RelC X P F σ s) (E : EnvIs X P F σ env m s.heap) (hv : VRel X.w P v c) :
    wpAny X.M A (storeName env x c) (fun _ s' => RelC X P F σ s' ∧ EnvIs X P F σ env ((x, v) :: m) s'.heap) NoE s := by
  obtain ⟨cm, hn, hl⟩ := E.ns
  rcases hb with hk | ⟨hk, hc⟩
  · refine wpAny_storeName_local hk hn (fun h' hn' hs => ?_) (by rw [E.kind]; rfl)
    have own : Own env env.locals := .inl rfl
    refine ⟨R.but (W := fun b => b = env.locals) (fun b e => e ▸ E.apart _ own) fun b o hne e => hs.extBut b o hne e, ?_⟩
    have oth : ∀ p ∈ env.cells, p.2 ≠ env.locals := fun p hp e => by
      have := E.dist
      rw [List.nodup_cons] at this
      exact this.1 (e ▸ List.mem_map_of_mem hp)
    refine ⟨E.kind, E.glob, E.blt, ⟨_, hn', fun y u h1 h2 => ?_⟩, fun y u h1 h2 => ?_, fun y u h1 => ?_, fun p hp => ?_, E.apart, E.dist⟩
    · rw [lookup_mset] at h1
      by_cases q : y = x
      · subst q; simp at h1; subst h1; exact ⟨c, by simp, hv⟩
      · simp only [q, if_false] at h1 ⊢; exact hl y u h1 h2
    · rw [lookup_mset] at h1
      by_cases q : y = x
      · subst q; rw [hk] at h2; cases h2
      · simp only [q, if_false] at h1
        obtain ⟨a, c', h3, h4, h5⟩ := E.cells y u h1 h2
        exact ⟨a, c', h3, h4.sameBut hs (oth _ (lookup_mem h3)), h5⟩
    · rw [lookup_mset] at h1
      by_cases q : y = x
      · subst q; exact .inl hk
      · simp only [q, if_false] at h1; exact E.kinds y u h1
    · obtain ⟨v', h1⟩ := E.cellObj p hp; exact ⟨v', h1.sameBut hs (oth p hp)⟩
  · obtain ⟨a, ha⟩ := Option.isSome_iff_exists.mp hc
    have hm := lookup_mem ha
    obtain ⟨v₀, h₀⟩ := E.cellObj _ hm
    refine wpAny_storeName_cell E.kind hk ha h₀ fun h' hc' hs => ?_
    have own : Own env a := .inr (List.mem_map.mpr ⟨_, hm, rfl⟩)
    have hd := E.dist
    rw [List.nodup_cons] at hd
    have hLa : env.locals ≠ a := fun e => hd.1 (e ▸ List.mem_map.mpr ⟨_, hm, rfl⟩)
    have hinj : ∀ y b, (y, b) ∈ env.cells → b = a → y = x := fun y b hyb e => by
      subst e
      have hp : env.cells.Pairwise (fun p q => p.2 ≠ q.2) := List.pairwise_map.mp hd.2
      generalize env.cells = l at hp hm hyb
      induction l with
      | nil => cases hm
      | cons p r ih =>
        rw [List.pairwise_cons] at hp
        rcases List.mem_cons.mp hm with h1 | h1 <;> rcases List.mem_cons.mp hyb with h2 | h2
        · rw [← h1] at h2; exact congrArg Prod.fst h2
        · exact absurd (by rw [← h1]) (hp.1 _ h2)
        · exact absurd (by rw [← h2]) (hp.1 _ h1)
        · exact ih hp.2 h1 h2
    refine ⟨R.but (W := fun b => b = a) (tk := s.toks) (fun b e => e ▸ E.apart _ own) fun b o hne e => hs.extBut b o hne e, ?_⟩
    refine ⟨E.kind, E.glob, E.blt, ⟨cm, hn.sameBut hs hLa, fun y u h1 h2 => ?_⟩, fun y u h1 h2 => ?_, fun y u h1 => ?_, fun p hp => ?_, E.apart, E.dist⟩
    · rw [lookup_mset] at h1
      by_cases q : y = x
      · subst q; rw [hk] at h2; cases h2
      · simp only [q, if_false] at h1; exact hl y u h1 h2
    · rw [lookup_mset] at h1
      by_cases q : y = x
      · subst q; simp at h1; subst h1; exact ⟨a, c, ha, hc', hv⟩
      · simp only [q, if_false] at h1
        obtain ⟨b, c', h3, h4, h5⟩ := E.cells y u h1 h2
        exact ⟨b, c', h3, h4.sameBut hs (fun e => q (hinj _ _ (lookup_mem h3) e)), h5⟩
    · rw [lookup_mset] at h1
      by_cases q : y = x
      · subst q; exact .inr hk
      · simp only [q, if_false] at h1; exact E.kinds y u h1
    · by_cases q : p.2 = a
      · exact ⟨_, q ▸ hc'⟩
      · obtain ⟨v', h1⟩ := E.cellObj p hp; exact ⟨v', h1.sameBut hs q⟩

/-! ## statements -/
def PostF (X : Cx) (P : Heap) (F : Addr → Option Obj) (env : Env) (Q : Fl → List (Str × V) → Led → Prop) (fl : Flow) (s' : Shared) : Prop :=
  ∃ P' f m' σ', P.StaysIn P' ∧ FRel X.w P' f fl ∧ RelC X P' F σ' s' ∧ EnvIs X P' F σ' env m' s'.heap ∧ Q f m' σ'
def PostA (X : Cx) (P : Heap) (F : Addr → Option Obj) (env : Env) (Q : List (Str × V) → Led → Prop) (s' : Shared) : Prop :=
  ∃ P' m' σ', P.StaysIn P' ∧ RelC X P' F σ' s' ∧ EnvIs X P' F σ' env m' s'.heap ∧ Q m' σ'
theorem PostF.up {Q : Fl → List (Str × V) → Led → Prop} {fl : Flow} (hP : P.StaysIn P') (h : PostF X P' F env Q fl s) : PostF X P F env Q fl s := let ⟨P'', f, m', σ', a, b⟩ := h; ⟨P'', f, m', σ', stays_trans hP a, b⟩
theorem PostA.up {Q : List (Str × V) → Led → Prop} (hP : P.StaysIn P') (h : PostA X P' F env Q s) : PostA X P F env Q s := let ⟨P'', m', σ', a, b⟩ := h; ⟨P'', m', σ', stays_trans hP a, b⟩

def Ex (X : Cx) (n : Nat) (env : Env) (t : Sem Flow) (m : List (Str × V)) (σ : Led) (Q : Fl → List (Str × V) → Led → Prop) : Prop :=
  ∀ A, Ok A n → ∀ P F s, RelC X P F σ s → EnvIs X P F σ env m s.heap → wpAny X.M A t (PostF X P F env Q) NoE s
/-- a target is stored to -/
def As (X : Cx) (n : Nat) (env : Env) (t : Value → Sem Unit) (v : V) (m : List (Str × V)) (σ : Led) (Q : List (Str × V) → Led → Prop) : Prop :=
  ∀ A, Ok A n → ∀ P F s c, RelC X P F σ s → EnvIs X P F σ env m s.heap → VRel X.w P v c → wpAny X.M A (t c) (fun _ => PostA X P F env Q) NoE s

variable {Q : Fl → List (Str × V) → Led → Prop}
theorem Ex.mono {t : Sem Flow} {Q' : Fl → List (Str × V) → Led → Prop} (h : Ex X n env t m σ Q) (hQ : ∀ f m σ, Q f m σ → Q' f m σ) : Ex X n env t m σ Q' :=
  fun A ok P F s R E => wpM (h A ok P F s R E) fun _ _ ⟨P', f, m', σ', a, b, c, d, e⟩ => ⟨P', f, m', σ', a, b, c, d, hQ _ _ _ e⟩
theorem As.mono {t : Value → Sem Unit} {v : V} {Q Q' : List (Str × V) → Led → Prop} (h : As X n env t v m σ Q) (hQ : ∀ m σ, Q m σ → Q' m σ) : As X n env t v m σ Q' :=
  fun A ok P F s c R E r => wpM (h A ok P F s c R E r) fun _ _ ⟨P', m', σ', a, b, c, d⟩ => ⟨P', m', σ', a, b, c, hQ _ _ d⟩

/-- forget variables -/
theorem Ex_sub {t : Sem Flow} (m' : List (Str × V)) (hs : SubL m' m) (h : Ex X n env t m' σ Q) : Ex X n env t m σ Q := fun A ok P F s R E => h A ok P F s R (E.sub hs.sub)

theorem Ex_nil (h : Q .next m σ) : Ex X n env (execs [] env) m σ Q := fun A ok P F s R E => wpAny_execs_nil ⟨P, .next, m, σ, stays_refl _, .next, R, E, h⟩
theorem Ex_cons {st : Stmt} {rest : List Stmt} (h : Ex X n env (exec st env) m σ fun f m1 σ1 => match f with | .next => Ex X n env (execs rest env) m1 σ1 Q | f => Q f m1 σ1) : Ex X n env (execs (st :: rest) env) m σ Q := by
  intro A ok P F s R E
  refine wpAny_execs_cons (wpM (h A ok P F s R E) ?_)
  rintro fl s1 ⟨P1, f, m1, σ1, p1, f1, R1, E1, h1⟩
  cases f1 with
  | next => exact wpM (h1 A ok P1 F s1 R1 E1) fun _ _ => PostF.up p1
  | brk => exact ⟨P1, _, m1, σ1, p1, .brk, R1, E1, h1⟩
  | cont => exact ⟨P1, _, m1, σ1, p1, .cont, R1, E1, h1⟩
  | ret r => exact ⟨P1, _, m1, σ1, p1, .ret r, R1, E1, h1⟩
theorem Ex_Return {e : Expr} {pos : Pos} (h : Ev X n env (eval e env) m σ fun v σ1 => Q (.ret v) m σ1) : Ex X n env (exec (.Return (some e) pos) env) m σ Q := by
  intro A ok P F s R E
  refine wpAny_Return_some (wpM (h A ok P F s R E) ?_)
  rintro c s1 ⟨P1, v, σ1, p1, r1, R1, E1, h1⟩
  exact ⟨P1, _, m, σ1, p1, .ret r1, R1, E1, h1⟩
theorem Ex_If {test : Expr} {body orelse : List Stmt} {pos : Pos} (h : Tr X n env (isTrue test env (eval test env)) m σ fun b σ1 => if b then Ex X n env (execs body env) m σ1 Q else Ex X n env (execs orelse env) m σ1 Q) :
    Ex X n env (exec (.If test body orelse pos) env) m σ Q := by
  intro A ok P F s R E
  refine wpAny_If (wpM (h A ok P F s R E) ?_)
  rintro b s1 ⟨P1, σ1, p1, R1, E1, h1⟩
  cases b with
  | true => exact wpM (h1 A ok P1 F s1 R1 E1) fun _ _ => PostF.up p1
  | false => exact wpM (h1 A ok P1 F s1 R1 E1) fun _ _ => PostF.up p1
theorem Ex_Assign {x : Str} {pos' pos : Pos} {value : Expr} (hb : Binds env x) (h : Ev X n env (eval value env) m σ fun v σ1 => Q .next ((x, v) :: m) σ1)
    (hs : swapsWith value (some (.Name x pos')) pos.line env = pure false := by rfl) : Ex X n env (exec (.Assign [.Name x pos'] value pos) env) m σ Q := by
  intro A ok P F s R E
  refine wpAny_Assign_Name (wpM (h A ok P F s R E) ?_) hs
  rintro c s1 ⟨P1, v, σ1, p1, r1, R1, E1, h1⟩
  exact wpM (store_rule hb R1 E1 r1) fun _ s2 ⟨R2, E2⟩ => ⟨P1, .next, _, σ1, p1, .next, R2, E2, h1⟩

theorem As_Name {x : Str} {pos : Pos} {v : V} {Q : List (Str × V) → Led → Prop} (hb : Binds env x) (h : Q ((x, v) :: m) σ) : As X n env (assign (.Name x pos) env) v m σ Q := fun A ok P F s c R E r =>
  PySem.wpAny_assign_Name (wpM (store_rule hb R E r) fun _ s' ⟨R', E'⟩ => ⟨P, _, σ, stays_refl _, R', E', h⟩)

/-- the stores of a tuple's items, in order -/
def AsAll (X : Cx) (n : Nat) (env : Env) : List (Value → Sem Unit) → List V → List (Str × V) → Led → (List (Str × V) → Led → Prop) → Prop
  | t :: ts, v :: vs, m, σ, Q => As X n env t v m σ fun m1 σ1 => AsAll X n env ts vs m1 σ1 Q
  | _, _, m, σ, Q => Q m σ

theorem paired_up {w : World} (hP : P.StaysIn P') {vs : List V} {cs : List Value} (h : Paired (fun v c => VRel w P v c) vs cs) : Paired (fun v c => VRel w P' v c) vs cs := by
  induction h with
  | nil => exact .nil
  | cons a _ ih => exact .cons (a.keeps hP) ih
theorem inOrder {A : Around} (ok : Ok A n) {Q : List (Str × V) → Led → Prop} {F : Addr → Option Obj} (ts : List (Value → Sem Unit)) : ∀ (vs : List V) (cs : List Value) (m : List (Str × V)) (σ : Led) (P : Heap) (s : Shared),
    AsAll X n env ts vs m σ Q → RelC X P F σ s → EnvIs X P F σ env m s.heap → Paired (fun v c => VRel X.w P v c) vs cs → wpAny X.M A (assignInOrder ts cs) (fun _ => PostA X P F env Q) NoE s := by
  induction ts with
  | nil =>
    intro vs cs m σ P s h R E r
    have : AsAll X n env [] vs m σ Q = Q m σ := by cases vs <;> rfl
    rw [this] at h
    have e : assignInOrder [] cs = pure () := by cases cs <;> rfl
    rw [e]; exact wpAny_pure ⟨P, m, σ, stays_refl _, R, E, h⟩
  | cons t ts ih =>
    intro vs cs m σ P s h R E r
    cases r with
    | nil => exact wpAny_pure ⟨P, m, σ, stays_refl _, R, E, h⟩
    | @cons v c vs cs r rs =>
      show wpAny X.M A (holding cs (t c) >>= fun _ => assignInOrder ts cs) _ _ s
      refine wpAny_bind (wpAny_holding (wpM (h A ok P F s c R E r) ?_))
      rintro _ s1 ⟨P1, m1, σ1, p1, R1, E1, h1⟩
      exact wpM (ih vs cs m1 σ1 P1 s1 h1 R1 E1 (paired_up p1 rs)) fun _ _ => PostA.up p1

theorem readsAll_len {P : Heap} {vs : List Value} {ds : List PyData} {as : List Addr} (r : ReadsAll P vs ds as) : vs.length = ds.length :=
  ReadsAll.ind (M := fun vs ds _ => vs.length = ds.length) rfl (fun _ _ ih => congrArg (· + 1) ih) r
theorem reads_paired {w : World} {P : Heap} {vs : List Value} {ds : List PyData} {as : List Addr} (r : ReadsAll P vs ds as) : Paired (fun v c => VRel w P v c) (ds.map V.d) vs :=
  ReadsAll.ind (M := fun vs ds _ => Paired (fun v c => VRel w P v c) (ds.map V.d) vs) .nil (fun a _ ih => .cons (.d a) ih) r

theorem As_Tuple {elts : List Expr} {k : Nat} {pos : Pos} {ds : List PyData} {Q : List (Str × V) → Led → Prop} (h : AsAll X n env ((assignEach elts env).map (·.2)) (ds.map V.d) m σ Q)
    (hn : (assignEach elts env).length = ds.length := by rfl) (hst : (assignEach elts env).findIdx? (·.1) = none := by rfl) : As X n env (assign (.Tuple elts k pos) env) (.d (.tuple ds)) m σ Q := by
  intro A ok P F s c R E r
  cases r with | d r => cases r with | @tuple a o vs k xs as e1 e2 e3 e4 =>
    have hlen : vs.size = ds.length := by
      have := readsAll_len e4
      simpa using this
    refine wpAny_assign_Tuple (items := vs) ok.handled ⟨o, R.stays _ _ e1, e2, _, e3⟩ (hn.trans hlen.symm) hst fun h' hx => ?_
    have fr := R.fresh (size_none s.heap (Nat.le_refl _))
    have ow : ¬ Own env s.heap.objs.size := fun ho => by
      obtain ⟨o, e⟩ := E.has ho
      exact absurd (Heap.lt_size e) (Nat.lt_irrefl _)
    refine inOrder ok _ _ _ _ _ _ _ h (R.but (W := fun b => b = s.heap.objs.size) (tk := s.toks) (fun b e => e ▸ fr) fun b o hne e => hx b o hne e) (E.but (W := fun b => b = s.heap.objs.size) (fun b e => e ▸ ow) fun b o hne e => hx b o hne e) ?_
    exact reads_paired e4

theorem As_Pair {elts : List Expr} {k : Nat} {pos : Pos} {x y : PyData} {Q : List (Str × V) → Led → Prop} (h : AsAll X n env ((assignEach elts env).map (·.2)) ([x, y].map V.d) m σ Q)
    (hn : (assignEach elts env).length = 2 := by rfl) (hst : (assignEach elts env).findIdx? (·.1) = none := by rfl) : As X n env (assign (.Tuple elts k pos) env) (.pr x y) m σ Q := by
  intro A ok P F s c R E r
  cases r with | @pr a o vs k _ _ as e1 e2 e3 e4 =>
    have hlen : vs.size = 2 := by
      have := readsAll_len e4
      simpa using this
    refine wpAny_assign_Tuple (items := vs) ok.handled ⟨o, R.stays _ _ e1, e2, _, e3⟩ (hn.trans hlen.symm) hst fun h' hx => ?_
    have fr := R.fresh (size_none s.heap (Nat.le_refl _))
    have ow : ¬ Own env s.heap.objs.size := fun ho => by
      obtain ⟨o, e⟩ := E.has ho
      exact absurd (Heap.lt_size e) (Nat.lt_irrefl _)
    refine inOrder ok _ _ _ _ _ _ _ h (R.but (W := fun b => b = s.heap.objs.size) (tk := s.toks) (fun b e => e ▸ fr) fun b o hne e => hx b o hne e) (E.but (W := fun b => b = s.heap.objs.size) (fun b e => e ▸ ow) fun b o hne e => hx b o hne e) ?_
    exact reads_paired e4

theorem Ex_AssignT {elts : List Expr} {k : Nat} {tpos pos : Pos} {value : Expr} (h : Ev X n env (eval value env) m σ fun v σ1 => As X n env (assign (.Tuple elts k tpos) env) v m σ1 fun m2 σ2 => Q .next m2 σ2)
    (hs : swapsWithSole [.Tuple elts k tpos] value pos.line env = pure false := by rfl) (hw : swappedStores [.Tuple elts k tpos] value env = pure none := by rfl) : Ex X n env (exec (.Assign [.Tuple elts k tpos] value pos) env) m σ Q := by
  intro A ok P F s R E
  refine Assign_Tuple (wpM (h A ok P F s R E) ?_) hs hw
  rintro c s1 ⟨P1, v, σ1, p1, r1, R1, E1, h1⟩
  exact wpM (h1 A ok P1 F s1 c R1 E1 r1) fun _ s2 ⟨P2, m2, σ2, p2, R2, E2, h2⟩ => ⟨P2, .next, m2, σ2, stays_trans p1 p2, .next, R2, E2, h2⟩
end
end Mine
set_option maxRecDepth 10000
namespace Mine
open PySem PySem.W PyProof.Rows

section
variable {X : Cx} {P P' : Heap} {F : Addr → Option Obj} {σ σ' : Led} {s s' : Shared} {h' : Heap} {W : Addr → Prop} {tk : Nat} {env : Env} {m : List (Str × V)} {n : Nat}

/-- an iterator: what it yields, what it writes -/
structure Itr (X : Cx) (n : Nat) (P : Heap) (I : Addr) (items : List V) (W : Addr → Prop) (St : Nat → Heap → Prop) (target : Expr) : Prop where
  frame : ∀ i h h' P', St i h → (∀ b o, W b → h.get? b = some o → h'.get? b = some o) → P.StaysIn P' → P'.StaysIn h' → St i h'
  next : ∀ A, Ok A n → ∀ i v s P', items[i]? = some v → St i s.heap → P.StaysIn P' → P'.StaysIn s.heap →
    wpAny X.M A (pyNext (.ref I)) (fun r s1 => ∃ c, r = some c ∧ wpAny X.M A (letOwnedTupleGo target (.ref I) c) (fun _ s2 => ∃ h' tk, s2 = { s with heap := h', toks := tk } ∧ St (i + 1) h' ∧
      (∀ b o, ¬ W b → s.heap.get? b = some o → h'.get? b = some o) ∧ VRel X.w (nextP P' s.heap h' W) v c) NoE s1) NoE s
  done : ∀ A, Ok A n → ∀ s, St items.length s.heap → P.StaysIn s.heap →
    wpAny X.M A (pyNext (.ref I)) (fun r s1 => r = none ∧ ∃ h' tk, s1 = { s with heap := h', toks := tk } ∧ ∀ b o, ¬ W b → s.heap.get? b = some o → h'.get? b = some o) NoE s
  self : ∀ A, Ok A n → ∀ i s, St i s.heap → wpAny X.M A (pyIter (.ref I)) (fun r s1 => r = .ref I ∧ s1 = s) NoE s
  live : ∀ i h, St i h → ∀ a, W a → ∃ o, h.get? a = some o

theorem lotg {M : Model} {A : Around} {target : Expr} {I : Addr} {c : Value} {o : Obj} {T : String} {Q : Unit → Shared → Prop} {E : Value → Shared → Prop} (ho : s.heap.get? I = some o) (hc : o.cls = .type T)
    (hT : (["enumerate", "zip", "dict_itemiterator", "dict_reverseitemiterator", "odict_iterator", "itertools.zip_longest", "itertools.pairwise"].contains T) = false) (h : Q () s) :
    wpAny M A (letOwnedTupleGo target (.ref I) c) Q E s := by
  have main : ∀ a, wpAny M A (do
      let o ← load I
      match o.cls, o.data with
      | .type n, .fields vs =>
        if ["enumerate", "zip", "dict_itemiterator", "dict_reverseitemiterator", "odict_iterator", "itertools.zip_longest", "itertools.pairwise"].contains n && vs[0]? == some (rawInt a) then
          rule "for.unpacks-the-owned-tuple"
          updateField I 0 .none
      | _, _ => pure ()) Q E s := by
    intro a
    refine wpAny_bind (wpAny_load ho ?_)
    obtain ⟨oc, od, oda, osl⟩ := o
    dsimp only at hc
    subst hc
    cases oda <;> try exact wpAny_pure h
    dsimp only
    rw [hT, Bool.false_and, if_neg (by decide)]
    exact wpAny_pure h
  unfold letOwnedTupleGo
  split
  · cases c <;> first | exact main _ | exact wpAny_pure h
  · cases c <;> first | exact main _ | exact wpAny_pure h
  · exact wpAny_pure h


theorem reads_get {w : World} {vs : List Value} {ds : List PyData} {as : List Addr} (r : ReadsAll P vs ds as) : ∀ (i : Nat), (∀ v, (ds.map V.d)[i]? = some v → ∃ c, vs[i]? = some c ∧ VRel w P v c) :=
  ReadsAll.ind (M := fun vs ds _ => ∀ (i : Nat), (∀ v, (ds.map V.d)[i]? = some v → ∃ c, vs[i]? = some c ∧ VRel w P v c)) (fun i v e => by cases e)
    (fun {_ _ _ _ _ _} a _ ih i v e => by cases i with
      | zero => cases e; exact ⟨_, rfl, .d a⟩
      | succ i => exact ih i v e) r

theorem itr_list {a : Addr} {o : Obj} {vs : Array Value} {k : Nat} {ds : List PyData} {as : List Addr} {I : Addr} {target : Expr} (ho : P.get? a = some o) (hc : o.cls = .type "list") (hd : o.data = .seq vs k) (hr : ReadsAll P vs.toList ds as) (hI : P.get? I = none) :
    Itr X n P I (ds.map V.d) (fun b => b = I) (fun i h => h.IsListIter I a i ∧ P.StaysIn h) target where
  frame := fun i h h' P' st hW p1 p2 => ⟨st.1.at fun o e => hW I o rfl e, stays_trans p1 p2⟩
  next := fun A ok i v s P' hv st p1 p2 => by
    obtain ⟨c, hc', hv'⟩ := reads_get (w := X.w) hr i v hv
    have hl : s.heap.IsList a vs := ⟨o, p2 _ _ (p1 _ _ ho), hc, _, hd⟩
    refine wpAny_pyNext_list_item st.1 hl (x := c) (by simpa using hc') fun h' hit' hs' => ⟨c, rfl, ?_⟩
    obtain ⟨oi, hoi, hci, _⟩ := id hit'
    refine lotg (s := { s with heap := h' }) hoi hci (by decide) ⟨h', s.toks, rfl, ⟨hit', fun b o e => hs'.extBut b o (fun q => by rw [q, hI] at e; cases e) (p2 _ _ (p1 _ _ e))⟩, fun b o hb e => hs'.extBut b o hb e, ?_⟩
    refine VRel.keeps ?_ hv'
    exact fun b o e => nextP_get_old (p1 _ _ e) (hs'.extBut b o (fun q => by rw [q, hI] at e; cases e) (p2 _ _ (p1 _ _ e)))
  done := fun A ok s st p1 => by
    have hl : s.heap.IsList a vs := ⟨o, p1 _ _ ho, hc, _, hd⟩
    refine wpAny_pyNext_list_end ok.handled st.1 hl (by rw [List.length_map, ← readsAll_len hr]; simp) fun h' he' => ⟨rfl, h', s.toks, rfl, fun b o hb e => he' b o hb e⟩
  self := fun A ok i s st => wpAny_pyIter_listiter st.1 ⟨rfl, rfl⟩
  live := fun i h st a ha => ha ▸ let ⟨o, ho, _⟩ := st.1; ⟨o, ho⟩

theorem wpAny_pyIter_tupiter {prog : Program} {w : World} {A : Around} {E : Value → Shared → Prop} {it t : Addr} {i : Nat} {Q : Value → Shared → Prop} (hit : s.heap.IsTupleIter it t i) (h : Q (.ref it) s) :
    wpAny (model prog w) A (pyIter (.ref it)) Q E s := by
  refine wpAny_pyIter_slot hit.typeIs PySem.F.slot_tuple_iterator_iter (wpAny_call_entry PySem.F.slot_tuple_iterator_iter hit.typeIs PySem.F.entry_tuple_iterator_iter ?_ (PySem.F.args_tuple_iterator_iter_1 _))
  show wpAny _ _ (ret (.ref it)) _ _ s
  exact wpAny_pure ⟨_, rfl, "tuple_iterator", _, hit.typeIs, PySem.F.slot_tuple_iterator_next.lookup, h⟩

theorem IsTupleIter_at {h h' : Heap} {a t i} (x : h.IsTupleIter a t i) (hk : ∀ o, h.get? a = some o → h'.get? a = some o) : h'.IsTupleIter a t i := let ⟨o, ho, r⟩ := x; ⟨o, hk o ho, r⟩

theorem itr_tuple {a : Addr} {o : Obj} {vs : Array Value} {k : Nat} {ds : List PyData} {as : List Addr} {I : Addr} {target : Expr} (ho : P.get? a = some o) (hc : o.cls = .type "tuple") (hd : o.data = .seq vs k) (hr : ReadsAll P vs.toList ds as) (hI : P.get? I = none) :
    Itr X n P I (ds.map V.d) (fun b => b = I) (fun i h => h.IsTupleIter I a i ∧ P.StaysIn h) target where
  frame := fun i h h' P' st hW p1 p2 => ⟨IsTupleIter_at st.1 fun o e => hW I o rfl e, stays_trans p1 p2⟩
  next := fun A ok i v s P' hv st p1 p2 => by
    obtain ⟨c, hc', hv'⟩ := reads_get (w := X.w) hr i v hv
    have hl : s.heap.IsTuple a vs := ⟨o, p2 _ _ (p1 _ _ ho), hc, _, hd⟩
    refine wpAny_pyNext_tuple_item st.1 hl (x := c) (by simpa using hc') fun h' hit' hs' => ⟨c, rfl, ?_⟩
    obtain ⟨oi, hoi, hci, _⟩ := id hit'
    refine lotg (s := { s with heap := h' }) hoi hci (by decide) ⟨h', s.toks, rfl, ⟨hit', fun b o e => hs'.extBut b o (fun q => by rw [q, hI] at e; cases e) (p2 _ _ (p1 _ _ e))⟩, fun b o hb e => hs'.extBut b o hb e, ?_⟩
    refine VRel.keeps ?_ hv'
    exact fun b o e => nextP_get_old (p1 _ _ e) (hs'.extBut b o (fun q => by rw [q, hI] at e; cases e) (p2 _ _ (p1 _ _ e)))
  done := fun A ok s st p1 => by
    have hl : s.heap.IsTuple a vs := ⟨o, p1 _ _ ho, hc, _, hd⟩
    refine wpAny_pyNext_tuple_end ok.handled st.1 hl (by rw [List.length_map, ← readsAll_len hr]; simp) fun h' he' => ⟨rfl, h', s.toks, rfl, fun b o hb e => he' b o hb e⟩
  self := fun A ok i s st => wpAny_pyIter_tupiter st.1 ⟨rfl, rfl⟩
  live := fun i h st a ha => ha ▸ let ⟨o, ho, _⟩ := st.1; ⟨o, ho⟩

theorem wpAny_pyIter_rangeiter {prog : Program} {w : World} {A : Around} {E : Value → Shared → Prop} {it : Addr} {x left step : Int} {Q : Value → Shared → Prop} (hit : IsRangeIter s.heap it x left step) (h : Q (.ref it) s) :
    wpAny (model prog w) A (pyIter (.ref it)) Q E s := by
  have hT : s.TypeIs (.ref it) "range_iterator" := ⟨_, hit, rfl⟩
  refine wpAny_pyIter_slot hT PySem.F.slot_range_iterator_iter (wpAny_call_entry PySem.F.slot_range_iterator_iter hT PySem.F.entry_range_iterator_iter ?_ (PySem.F.args_range_iterator_iter_1 _))
  show wpAny _ _ (ret (.ref it)) _ _ s
  exact wpAny_pure ⟨_, rfl, "range_iterator", _, hT, PySem.F.slot_range_iterator_next.lookup, h⟩

/-- the ints from a on -/
def rng (a : Int) (k : Nat) : List V := (List.range k).map fun (i : Nat) => V.d (.int (a + (i : Int)))

theorem itr_range {I : Addr} {a : Int} {k : Nat} {target : Expr} (hI : P.get? I = none) :
    Itr X n P I (rng a k) (fun b => b = I) (fun i h => IsRangeIter h I (a + (i : Nat)) ((k : Int) - (i : Nat)) 1) target where
  frame := fun i h h' P' st hW p1 p2 => hW I _ rfl st
  next := fun A ok i v s P' hv st p1 p2 => by
    have hik : i < k := by
      have := (List.getElem?_eq_some_iff.mp hv).1
      simpa [rng] using this
    have hv' : v = V.d (.int (a + i)) := by
      have : (rng a k)[i]? = some (V.d (.int (a + i))) := by simp [rng, hik]
      rw [this] at hv; exact (Option.some.inj hv).symm
    subst hv'
    refine wpAny_pyNext_range_item st (by omega) fun h' hit' hs' => ⟨_, rfl, ?_⟩
    refine lotg (s := { s with heap := h', toks := s.toks + 1 }) hit' rfl (by decide) ⟨h', _, rfl, ?_, fun b o hb e => hs'.extBut b o hb e, .d (.int _ _)⟩
    have e1 : a + ((i + 1 : Nat) : Int) = a + (i : Int) + 1 := by push_cast; omega
    have e2 : (k : Int) - ((i + 1 : Nat) : Int) = (k : Int) - (i : Int) - 1 := by push_cast; omega
    rw [e1, e2]; exact hit'
  done := fun A ok s st p1 => by
    refine wpAny_pyNext_range_end ok.handled st ?_ fun h' he' => ⟨rfl, h', s.toks, rfl, fun b o hb e => he' b o hb e⟩
    simp [rng]
  self := fun A ok i s st => wpAny_pyIter_rangeiter st ⟨rfl, rfl⟩
  live := fun i h st a ha => ha ▸ ⟨_, st⟩

/-! enumerate -/
def enumV (i : Nat) : List PyData → List V
  | [] => []
  | x :: r => V.pr (.int i) x :: enumV (i + 1) r
theorem enumV_get : ∀ (ds : List PyData) (j i : Nat) (v : V), (enumV j ds)[i]? = some v → ∃ d, ds[i]? = some d ∧ v = V.pr (.int ((j + i : Nat) : Int)) d
  | [], j, i, v, h => by simp [enumV] at h
  | d :: r, j, 0, v, h => by simp [enumV] at h; exact ⟨d, rfl, by simp [h]⟩
  | d :: r, j, i + 1, v, h => by
    obtain ⟨d', h1, h2⟩ := enumV_get r (j + 1) i v (by simpa [enumV] using h)
    exact ⟨d', by simpa using h1, by rw [h2, show j + 1 + i = j + (i + 1) by omega]⟩
theorem enumV_length : ∀ (ds : List PyData) (j : Nat), (enumV j ds).length = ds.length
  | [], _ => rfl
  | _ :: r, j => by simp [enumV, enumV_length r]
theorem reads_data {vs : List Value} {ds : List PyData} {as : List Addr} (r : ReadsAll P vs ds as) : ∀ (i : Nat) (d : PyData), ds[i]? = some d → ∃ c bs, vs[i]? = some c ∧ Reads P c d bs :=
  ReadsAll.ind (M := fun vs ds _ => ∀ (i : Nat) (d : PyData), ds[i]? = some d → ∃ c bs, vs[i]? = some c ∧ Reads P c d bs) (fun i v e => by cases e)
    (fun {_ _ _ _ _ _} a _ ih i v e => by cases i with
      | zero => cases e; exact ⟨_, _, rfl, a⟩
      | succ i => exact ih i v e) r

/-- an enumerate over anything that draws -/
theorem itr_enum {e it : Addr} {fp : List Addr} {ds : List PyData} {as : List Addr} {vs : Array Value} {St : Nat → Heap → Prop} {elts : List Expr} {kk : Nat} {pos : Pos}
    (D : ∀ A, A.handled = none → Draws X.prog X.w A it fp vs.size (fun i v => vs[i]? = some v) St) (hfp : ∀ b ∈ fp, b = it ∨ ∃ o, P.get? b = some o) (hr : ReadsAll P vs.toList ds as)
    (hei : e ≠ it) (heP : P.get? e = none) (hif : it ∈ fp) (hitP : P.get? it = none) :
    Itr X n P e (enumV 0 ds) (fun b => b = e ∨ b = it) (fun i h => ((∃ old, IsEnum h e it i old) ∧ St i h) ∧ P.StaysIn h) (.Tuple elts kk pos) := by
  have hef : e ∉ fp := fun hm => by
    rcases hfp e hm with h | ⟨o, h⟩
    · exact hei h
    · rw [heP] at h; cases h
  have hlen : vs.size = ds.length := by simpa using readsAll_len hr
  have nw : ∀ b o, P.get? b = some o → b ∉ [e, it] := fun b o h hm => by
    rcases List.mem_cons.mp hm with q | q
    · rw [q, heP] at h; cases h
    · rw [List.mem_singleton.mp q, hitP] at h; cases h
  have T : ∀ A, Ok A n → _ := fun A (ok : Ok A n) => WalksT.enumerateD (D A.in1 ok.handled) e hei hef hif
  refine ⟨?_, ?_, ?_, ?_, ?_⟩
  · intro i h h' P' st hW p1 p2
    obtain ⟨⟨⟨old, he⟩, hs⟩, hp⟩ := st
    refine ⟨⟨⟨old, hW e _ (.inl rfl) he⟩, (D { depth := 0 } rfl).frame _ _ _ hs fun b hb o x => ?_⟩, stays_trans p1 p2⟩
    rcases hfp b hb with q | ⟨o', q⟩
    · exact hW b o (.inr q) x
    · have := hp b o' q; rw [this] at x; cases x; exact p2 _ _ (p1 _ _ q)
  · intro A ok i v s P' hv st p1 p2
    obtain ⟨d, hd, rfl⟩ := enumV_get ds 0 i v hv
    obtain ⟨c, bs, hc, hcr⟩ := reads_data hr i d hd
    have hi : i < vs.size := by have := (List.getElem?_eq_some_iff.mp hd).1; omega
    refine (T A ok).item i s _ _ hi st.1 fun TT vals h1 tk1 hPt hTfresh hTup hmid hk => ⟨.ref TT, rfl, ?_⟩
    obtain ⟨t, x, hx, rfl⟩ := hPt
    have hxc : x = c := by
      have h2 : vs[i]? = some c := by simpa using hc
      rw [h2] at hx; exact (Option.some.inj hx).symm
    subst hxc
    refine (T A ok).go elts kk pos i TT { s with heap := h1, toks := tk1 } _ _ hmid fun h2 st2 hk2 => ⟨h2, tk1, rfl, ⟨st2, fun b o q => ?_⟩, fun b o hb q => ?_, ?_⟩
    · exact hk2 b o (nw b o q) (hk b o (nw b o q) (p2 _ _ (p1 _ _ q)))
    · have hb' : b ∉ [e, it] := fun hm => hb (by simpa using hm)
      exact hk2 b o hb' (hk b o hb' q)
    · obtain ⟨oT, hoT, hcT, kT, hdT⟩ := hTup
      have hTw : TT ∉ [e, it] := (T A ok).apart i TT h1 hmid
      have hT2 := hk2 TT oT hTw hoT
      have hTn : s.heap.get? TT = none := size_none _ hTfresh
      have pp : P.StaysIn (nextP P' s.heap h2 fun b => b = e ∨ b = it) := fun b o q => nextP_get_old (p1 _ _ q) (hk2 b o (nw b o q) (hk b o (nw b o q) (p2 _ _ (p1 _ _ q))))
      refine VRel.pr (as := [] ++ (bs ++ [])) (nextP_get_new hTn (fun q => hTw (by simpa using q)) hT2) hcT hdT ?_
      have h0 : ((0 + i : Nat) : Int) = (i : Int) := by simp
      rw [h0]
      exact .cons (.int _ _) (.cons (Reads.keeps pp hcr) .nil)
  · intro A ok s st p1
    have e2 : (enumV 0 ds).length = vs.size := by rw [enumV_length, hlen]
    rw [e2] at st
    refine (T A ok).done s _ _ st.1 fun h1 tk1 hk => ⟨rfl, h1, tk1, rfl, fun b o hb q => hk b o (fun hm => hb (by simpa using hm)) q⟩
  · intro A ok i s st
    exact (T A ok).self i s _ _ st.1 ⟨rfl, rfl⟩
  · intro i h st a ha
    obtain ⟨⟨⟨old, he⟩, hs⟩, hp⟩ := st
    rcases ha with rfl | rfl
    · exact ⟨_, he⟩
    · exact (D { depth := 0 } rfl).live _ _ hs
end
end Mine
set_option maxRecDepth 10000
namespace Mine
open PySem PySem.W PyProof.Rows

section
variable {X : Cx} {P P' : Heap} {F : Addr → Option Obj} {σ σ' : Led} {s s' : Shared} {h' : Heap} {W : Addr → Prop} {tk : Nat} {env : Env} {m : List (Str × V)} {n : Nat}

/-! ## loops -/
/-- what an iterator owns, apart from all else -/
def Free (P : Heap) (F : Addr → Option Obj) (σ : Led) (env : Env) (W : Addr → Prop) : Prop :=
  ∀ a, W a → P.get? a = none ∧ F a = none ∧ σ a = none ∧ ¬ Own env a

/-- an iterator is made -/
def PostI (X : Cx) (n : Nat) (P : Heap) (F : Addr → Option Obj) (env : Env) (m : List (Str × V)) (target : Expr) (Q : List V → Led → Prop) (it : Value) (s' : Shared) : Prop :=
  ∃ P' I items W St σ', it = .ref I ∧ P.StaysIn P' ∧ Itr X n P' I items W St target ∧ St 0 s'.heap ∧ Free P' F σ' env W ∧ RelC X P' F σ' s' ∧ EnvIs X P' F σ' env m s'.heap ∧ Q items σ'
theorem PostI.up {target : Expr} {Q : List V → Led → Prop} {c : Value} (hP : P.StaysIn P') (h : PostI X n P' F env m target Q c s) : PostI X n P F env m target Q c s := by
  obtain ⟨P'', I, items, W, St, σ', a, b, c⟩ := h
  exact ⟨P'', I, items, W, St, σ', a, stays_trans hP b, c⟩

def It (X : Cx) (n : Nat) (env : Env) (iter target : Expr) (m : List (Str × V)) (σ : Led) (Q : List V → Led → Prop) : Prop :=
  ∀ A, Ok A n → ∀ P F s, RelC X P F σ s → EnvIs X P F σ env m s.heap → wpAny X.M A (eval iter env) (fun x s1 => wpAny X.M A (pyIter x) (PostI X n P F env m target Q) NoE s1) NoE s

/-- the turns of a loop, in order -/
def Loop (X : Cx) (n : Nat) (env : Env) (target : Expr) (body : List Stmt) (Q : Fl → List (Str × V) → Led → Prop) : List V → List (Str × V) → Led → Prop
  | [], m, σ => Q .next m σ
  | v :: vs, m, σ => As X n env (assign target env) v m σ fun m1 σ1 => Ex X n env (execs body env) m1 σ1 fun f m2 σ2 => match f with
      | .next | .cont => Loop X n env target body Q vs m2 σ2
      | .brk => Q .next m2 σ2
      | .ret v => Q (.ret v) m2 σ2

theorem codeAny_forLoopT {prog : Program} {w : World} {A : Around} {R : Result → Shared → Prop} {target it body orelse env} (I : Nat → Shared → Prop)
    (turn : ∀ n s, I n s → wpAny (model prog w) A (pyNext it) (fun r s₁ => match r with
      | none => wpAny (model prog w) A (execs orelse env) (fun f s₃ => R (.ok f) s₃) NoE s₁
      | some v => wpAny (model prog w) A (letOwnedTupleGo target it v) (fun _ s₁ => wpAny (model prog w) A (assign target env v) (fun _ s₂ => wpAny (model prog w) A (execs body env) (fun f s₃ => match f with
          | .next | .cont => ∃ m, m < n ∧ I m s₃
          | .brk => R (.ok .next) s₃
          | .ret v => R (.ok (.ret v)) s₃) NoE s₂) NoE s₁) NoE s₁) NoE s)
    (n : Nat) (h : I n s) : codeAny (model prog w) A (.forLoop target it body orelse env) R s := by
  refine codeAny_loop' rfl I (fun n s hI => ?_) n h
  show wpAny _ _ ((forTurn target it body orelse env).onRaise (fun x => do noteFrame x env; theTreesLotGoes x)) _ _ s
  refine wpAny_noted ?_
  simp only [forTurn]
  refine wpAny_bind (wpAny_standAt (wpAny_bind (wpAny_onRaise (wpAny_mono (turn n s hI) (fun r s₁ h₁ => ?_) fun _ _ h' => h'.elim))))
  cases r with
  | none => exact wpAny_pure (.inr ⟨rfl, codeAny_block (wpAny_mono h₁ (fun _ _ x => x) fun _ _ x => x.elim)⟩)
  | some v =>
    refine wpAny_bind (wpAny_mono h₁ (fun _ s₁ h₁ => ?_) fun _ _ x => x.elim)
    refine wpAny_bind (wpAny_mono h₁ (fun _ s₂ h₂ => wpAny_bind (wpAny_mono h₂ (fun f s₃ h₃ => ?_) fun _ _ h' => h'.elim)) fun _ _ h' => h'.elim)
    cases f with
    | next => exact wpAny_pure (.inl ⟨rfl, h₃⟩)
    | cont => exact wpAny_pure (.inl ⟨rfl, h₃⟩)
    | brk => exact wpAny_pure h₃
    | ret v => exact wpAny_pure h₃

theorem withS_env {S : Addr → Prop} {h h₂ : Heap} (E : EnvIs X P F σ env m h₂) (hS : ∀ a, S a → ¬ Own env a) : EnvIs X P (withS F S h) σ env m h₂ :=
  ⟨E.kind, E.glob, E.blt, E.ns, E.cells, E.kinds, E.cellObj, fun a ha => ⟨(E.apart a ha).1, by rw [withS_out (fun x => hS a x ha)]; exact (E.apart a ha).2.1, (E.apart a ha).2.2⟩, E.dist⟩
theorem unS_env {S : Addr → Prop} {h h₂ : Heap} (E : EnvIs X P (withS F S h) σ env m h₂) (hF : ∀ a, S a → F a = none) : EnvIs X P F σ env m h₂ := by
  refine ⟨E.kind, E.glob, E.blt, E.ns, E.cells, E.kinds, E.cellObj, fun a ha => ⟨(E.apart a ha).1, ?_, (E.apart a ha).2.2⟩, E.dist⟩
  have := (E.apart a ha).2.1
  by_cases hs : S a
  · exact hF a hs
  · rwa [withS_out hs] at this

/-- behind a step of the iterator -/
theorem Free.step (Fr : Free P F σ env W) (R : RelC X P F σ s) (E : EnvIs X P F σ env m s.heap) (hk : ∀ b o, ¬ W b → s.heap.get? b = some o → h'.get? b = some o) (tk : Nat) :
    RelC X (nextP P s.heap h' W) F σ { s with heap := h', toks := tk } ∧ EnvIs X (nextP P s.heap h' W) F σ env m h' ∧ P.StaysIn (nextP P s.heap h' W) ∧ Free (nextP P s.heap h' W) F σ env W := by
  have st := R.stays_next hk fun b hb => (Fr b hb).1
  have R1 : RelC X (nextP P s.heap h' W) F σ { s with heap := h', toks := tk } :=
    R.move hk (fun b hb => ⟨(Fr b hb).1, (Fr b hb).2.1⟩) fun a o e => .inl ⟨fun w => (by rw [(Fr a w).2.2.1] at e; cases e), e⟩
  refine ⟨R1, E.at st fun a o ha e => ⟨hk a o (fun w => (Fr a w).2.2.2 ha) e, ?_, (E.apart a ha).2⟩, st, fun a ha => ⟨nextP_none (Fr a ha).1 (.inr ha), (Fr a ha).2⟩⟩
  obtain ⟨o', ho'⟩ := E.has ha
  exact nextP_none (E.apart a ha).1 (.inl (by rw [ho']; exact fun x => nomatch x))

/-- behind something run with the iterator laid by -/
theorem Free.back {σ₂ : Led} {s₂ : Shared} {h : Heap} (Fr : Free P F σ env W) (live : ∀ a, W a → ∃ o, h.get? a = some o) (R : RelC X P' (withS F W h) σ₂ s₂) :
    RelC X P' F σ₂ s₂ ∧ Free P' F σ₂ env W ∧ ∀ b o, W b → h.get? b = some o → s₂.heap.get? b = some o := by
  obtain ⟨R1, k⟩ := unliftS R fun a ha => (Fr a ha).2.1
  refine ⟨R1, fun a ha => ?_, fun b o hb e => (k b o hb e).1⟩
  obtain ⟨o, ho⟩ := live a ha
  exact ⟨(k a o ha ho).2.1, (Fr a ha).2.1, (k a o ha ho).2.2, (Fr a ha).2.2.2⟩

theorem For_rule {target iter : Expr} {body : List Stmt} {pos : Pos} {Q : Fl → List (Str × V) → Led → Prop} (h : It X n env iter target m σ fun items σ1 => Loop X n env target body Q items m σ1)
    (hs : ∀ x, foldedSetIterable iter env x = pure x := by intro _; rfl) : Ex X n env (exec (.For target iter body [] pos) env) m σ Q := by
  intro A ok P F s R E
  refine wpAny_For ((wpM (h A ok P F s R E) ?_)) hs
  intro x s1 h1
  refine wpM h1 ?_
  rintro it s2 ⟨P2, I, items, W, St, σ2, rfl, p2, IT, st2, Fr2, R2, E2, hL⟩
  refine codeAny_forLoopT (fun k s' => ∃ i m' σ' P', k = items.length - i ∧ i ≤ items.length ∧ St i s'.heap ∧ P2.StaysIn P' ∧ Free P' F σ' env W ∧ RelC X P' F σ' s' ∧ EnvIs X P' F σ' env m' s'.heap ∧ Loop X n env target body Q (items.drop i) m' σ') ?_
    items.length ⟨0, m, σ2, P2, by omega, Nat.zero_le _, st2, stays_refl _, Fr2, R2, E2, hL⟩
  rintro k s3 ⟨i, m3, σ3, P3, rfl, hi, st3, p3, Fr3, R3, E3, L3⟩
  by_cases hlt : i < items.length
  · have hd : items.drop i = items[i] :: items.drop (i + 1) := List.drop_eq_getElem_cons hlt
    rw [hd] at L3
    refine wpM (IT.next A ok i items[i] s3 P3 (by simp [hlt]) st3 p3 R3.stays) ?_
    rintro r s4 ⟨c, rfl, h4⟩
    refine wpM h4 ?_
    rintro _ s5 ⟨h5, tk5, rfl, st5, k5, v5⟩
    obtain ⟨R5, E5, p5, Fr5⟩ := Fr3.step R3 E3 k5 tk5
    have live5 := IT.live _ _ st5
    have R6 := liftS (S := W) R5 fun a ha => ⟨(Fr5 a ha).1, (Fr5 a ha).2.2.1⟩
    have E6 := withS_env (h := h5) E5 fun a ha => (Fr5 a ha).2.2.2
    refine wpM (L3 A ok _ _ _ c R6 E6 v5) ?_
    rintro _ s7 ⟨P7, m7, σ7, p7, R7, E7, L7⟩
    refine wpM (L7 A ok _ _ _ R7 E7) ?_
    rintro fl s8 ⟨P8, f8, m8, σ8, p8, f8r, R8, E8, L8⟩
    obtain ⟨R9, Fr9, k9⟩ := Fr5.back live5 R8
    have E9 := unS_env E8 fun a ha => (Fr5 a ha).2.1
    have p9 := stays_trans p5 (stays_trans p7 p8)
    have st9 : St (i + 1) s8.heap := IT.frame _ _ _ P8 st5 k9 (stays_trans p3 p9) R9.stays
    have p10 : P.StaysIn P8 := stays_trans p2 (stays_trans p3 p9)
    cases f8r with
    | next => exact ⟨_, by omega, i + 1, m8, σ8, P8, rfl, hlt, st9, stays_trans p3 p9, Fr9, R9, E9, L8⟩
    | cont => exact ⟨_, by omega, i + 1, m8, σ8, P8, rfl, hlt, st9, stays_trans p3 p9, Fr9, R9, E9, L8⟩
    | brk => exact ⟨P8, .next, m8, σ8, p10, .next, R9, E9, L8⟩
    | ret r => exact ⟨P8, _, m8, σ8, p10, .ret r, R9, E9, L8⟩
  · have he : i = items.length := by omega
    subst he
    rw [List.drop_length] at L3
    refine wpM (IT.done A ok s3 st3 (stays_trans p3 R3.stays)) ?_
    rintro r s4 ⟨rfl, h4, tk4, rfl, k4⟩
    obtain ⟨R5, E5, p5, Fr5⟩ := Fr3.step R3 E3 k4 tk4
    exact wpAny_execs_nil ⟨_, .next, m3, σ3, stays_trans p2 (stays_trans p3 p5), .next, R5, E5, L3⟩
end
end Mine
set_option maxRecDepth 10000
namespace Mine
open PySem PySem.W PyProof.Rows

section
variable {X : Cx} {P P' : Heap} {F : Addr → Option Obj} {σ σ' : Led} {s s' : Shared} {h' : Heap} {W : Addr → Prop} {tk : Nat} {env : Env} {m : List (Str × V)} {n : Nat}

theorem new_free (R : RelC X P F σ s) (E : EnvIs X P F σ env m s.heap) (hnew : ∀ a, W a → s.heap.get? a = none) : Free P F σ env W := fun a ha => by
  obtain ⟨h1, h2, h3⟩ := R.fresh (hnew a ha)
  refine ⟨h1, h2, h3, fun ho => ?_⟩
  obtain ⟨o, e⟩ := E.has ho
  rw [hnew a ha] at e; cases e
theorem made (R : RelC X P F σ s) (E : EnvIs X P F σ env m s.heap) (hk : s.heap.StaysIn h') (hnew : ∀ a, W a → s.heap.get? a = none) (tk : Nat) :
    RelC X (nextP P s.heap h' W) F σ { s with heap := h', toks := tk } ∧ EnvIs X (nextP P s.heap h' W) F σ env m h' ∧ P.StaysIn (nextP P s.heap h' W) ∧ Free (nextP P s.heap h' W) F σ env W :=
  (new_free R E hnew).step R E (fun b o _ e => hk b o e) tk

/-- a value is walked -/
def Iv (X : Cx) (n : Nat) (env : Env) (target : Expr) (v : V) (m : List (Str × V)) (σ : Led) (Q : List V → Led → Prop) : Prop :=
  ∀ A, Ok A n → ∀ P F s c, RelC X P F σ s → EnvIs X P F σ env m s.heap → VRel X.w P v c → wpAny X.M A (pyIter c) (PostI X n P F env m target Q) NoE s
theorem It_val {iter target : Expr} {Q : List V → Led → Prop} (h : Ev X n env (eval iter env) m σ fun v σ1 => Iv X n env target v m σ1 Q) : It X n env iter target m σ Q := by
  intro A ok P F s R E
  refine wpM (h A ok P F s R E) ?_
  rintro c s1 ⟨P1, v, σ1, p1, r1, R1, E1, h1⟩
  exact wpM (h1 A ok P1 F s1 c R1 E1 r1) fun _ _ => PostI.up p1

theorem Iv_list {target : Expr} {ds : List PyData} {Q : List V → Led → Prop} (h : Q (ds.map V.d) σ) : Iv X n env target (.d (.list ds)) m σ Q := by
  intro A ok P F s c R E r
  cases r with | d r => cases r with | @list a o vs k xs as e1 e2 e3 e4 =>
    refine wpAny_pyIter_list (items := vs) ⟨o, R.stays _ _ e1, e2, _, e3⟩ ?_
    have hk : s.heap.StaysIn (s.heap.push { cls := .type "list_iterator", data := .fields #[.ref a, .int 0 0] }) := fun b o e => Heap.get?_push_of_some _ e
    obtain ⟨R1, E1, p1, F1⟩ := made (W := fun b => b = s.heap.objs.size) R E hk (fun a ha => ha ▸ size_none _ (Nat.le_refl _)) s.toks
    refine ⟨_, s.heap.objs.size, _, _, _, σ, rfl, p1, itr_list (p1 _ _ e1) e2 e3 (ReadsAll.keeps p1 e4) (F1 _ rfl).1, ?_, F1, R1, E1, h⟩
    exact ⟨⟨_, Heap.get?_push_size _ rfl, rfl, rfl⟩, R1.stays⟩
theorem Iv_tuple {target : Expr} {ds : List PyData} {Q : List V → Led → Prop} (h : Q (ds.map V.d) σ) : Iv X n env target (.d (.tuple ds)) m σ Q := by
  intro A ok P F s c R E r
  cases r with | d r => cases r with | @tuple a o vs k xs as e1 e2 e3 e4 =>
    refine wpAny_pyIter_tuple (items := vs) ⟨o, R.stays _ _ e1, e2, _, e3⟩ ?_
    have hk : s.heap.StaysIn (s.heap.push { cls := .type "tuple_iterator", data := .fields #[.ref a, .int 0 0] }) := fun b o e => Heap.get?_push_of_some _ e
    obtain ⟨R1, E1, p1, F1⟩ := made (W := fun b => b = s.heap.objs.size) R E hk (fun a ha => ha ▸ size_none _ (Nat.le_refl _)) s.toks
    refine ⟨_, s.heap.objs.size, _, _, _, σ, rfl, p1, itr_tuple (p1 _ _ e1) e2 e3 (ReadsAll.keeps p1 e4) (F1 _ rfl).1, ?_, F1, R1, E1, h⟩
    exact ⟨⟨_, Heap.get?_push_size _ rfl, rfl, rfl⟩, R1.stays⟩

/-! ## while -/
theorem While_rule {test : Expr} {body : List Stmt} {pos : Pos} {Q : Fl → List (Str × V) → Led → Prop} (inv : Nat → List (Str × V) → Led → Prop)
    (turn : ∀ k m σ, inv k m σ → Tr X n env (isTrue test env (eval test env)) m σ fun b σ1 => if b then Ex X n env (execs body env) m σ1 fun f m2 σ2 => match f with
        | .next | .cont => ∃ k', k' < k ∧ inv k' m2 σ2
        | .brk => Q .next m2 σ2
        | .ret v => Q (.ret v) m2 σ2
      else Q .next m σ1) (k : Nat) (h : inv k m σ) : Ex X n env (exec (.While test body [] pos) env) m σ Q := by
  intro A ok P F s R E
  refine wpAny_While ?_
  refine codeAny_whileLoop (fun k s' => ∃ P' m' σ', P.StaysIn P' ∧ RelC X P' F σ' s' ∧ EnvIs X P' F σ' env m' s'.heap ∧ inv k m' σ') ?_ k ⟨P, m, σ, stays_refl _, R, E, h⟩
  rintro k s1 ⟨P1, m1, σ1, p1, R1, E1, h1⟩
  refine wpE (turn k m1 σ1 h1 A ok P1 F s1 R1 E1) ?_
  rintro b s2 ⟨P2, σ2, p2, R2, E2, h2⟩
  cases b with
  | false => exact wpAny_execs_nil ⟨P2, .next, m1, σ2, stays_trans p1 p2, .next, R2, E2, h2⟩
  | true =>
    refine wpE (h2 A ok P2 F s2 R2 E2) ?_
    rintro fl s3 ⟨P3, f3, m3, σ3, p3, f3r, R3, E3, h3⟩
    have p : P.StaysIn P3 := stays_trans p1 (stays_trans p2 p3)
    cases f3r with
    | next => obtain ⟨k', hk', h3⟩ := h3; exact ⟨k', hk', P3, m3, σ3, p, R3, E3, h3⟩
    | cont => obtain ⟨k', hk', h3⟩ := h3; exact ⟨k', hk', P3, m3, σ3, p, R3, E3, h3⟩
    | brk => exact ⟨P3, .next, m3, σ3, p, .next, R3, E3, h3⟩
    | ret r => exact ⟨P3, _, m3, σ3, p, .ret r, R3, E3, h3⟩

/-! ## calls -/
/-- a call of anything, the arguments by place -/
def Cl (X : Cx) (n : Nat) (f : Value) (vs : List V) (σ : Led) (Q : V → Led → Prop) : Prop :=
  ∀ A, Ok A n → ∀ P F s cs, RelC X P F σ s → Paired (fun v c => VRel X.w P v c) vs cs → wpAny X.M A (call f cs) (PostO X P F Q) NoE s

def EvL (X : Cx) (n : Nat) (env : Env) : List Expr → List (Str × V) → Led → (List V → Led → Prop) → Prop
  | [], m, σ, Q => Q [] σ
  | e :: r, m, σ, Q => Ev X n env (eval e env) m σ fun v σ1 => EvL X n env r m σ1 fun vs σ2 => Q (v :: vs) σ2

def plainArgs : List Expr → Bool
  | [] => true
  | .Starred .. :: _ => false
  | _ :: r => plainArgs r
theorem star_cons {e : Expr} {r : List Expr} (h : plainArgs (e :: r) = true) : starEach (e :: r) env = (false, eval e env) :: starEach r env ∧ plainArgs r = true := by
  cases e <;> first | exact ⟨rfl, h⟩ | cases h
theorem star_plain {pos : Pos} : ∀ {es : List Expr}, plainArgs es = true → (backTo pos (starEach es env)).any (·.1) = false
  | [], _ => rfl
  | e :: r, h => by
    obtain ⟨h1, h2⟩ := star_cons (env := env) h
    rw [h1]
    show (false || _) = false
    rw [Bool.false_or]
    exact star_plain h2

def PostL (X : Cx) (P : Heap) (F : Addr → Option Obj) (env : Env) (m : List (Str × V)) (Q : List V → Led → Prop) (cs : List Value) (s' : Shared) : Prop :=
  ∃ P' vs σ', P.StaysIn P' ∧ Paired (fun v c => VRel X.w P' v c) vs cs ∧ RelC X P' F σ' s' ∧ EnvIs X P' F σ' env m s'.heap ∧ Q vs σ'
theorem EvL_run {A : Around} (ok : Ok A n) {pos : Pos} : ∀ {es : List Expr} {σ : Led} {Q : List V → Led → Prop} {P : Heap} {s : Shared}, plainArgs es = true → EvL X n env es m σ Q → RelC X P F σ s → EnvIs X P F σ env m s.heap →
    wpAny X.M A (spliced (backTo pos (starEach es env))) (PostL X P F env m Q) NoE s := by
  intro es
  induction es with
  | nil => intro σ Q P s _ h R E; exact wpAny_items_nil ⟨P, [], σ, stays_refl _, .nil, R, E, h⟩
  | cons e r ih =>
    intro σ Q P s hp h R E
    obtain ⟨h1, h2⟩ := star_cons (env := env) hp
    refine wpAny_items_cons (wpM (h A ok P F s R E) ?_) h1
    rintro c s1 ⟨P1, v, σ1, p1, r1, R1, E1, h3⟩
    refine wpM (ih h2 h3 R1 E1) ?_
    rintro cs s2 ⟨P2, vs, σ2, p2, r2, R2, E2, h4⟩
    exact ⟨P2, v :: vs, σ2, stays_trans p1 p2, .cons (r1.keeps p2) r2, R2, E2, h4⟩

/-- what may be called -/
inductive Callee (X : Cx) : Value → Prop
  | blt (id) : Callee X (.builtin id)
  | typ (T) : Callee X (.type T)
  | fn {f} : keepIn X.K f = true → Callee X f

theorem callWith_any {A : Around} {pos : Pos} {f : Value} {first : List Value} {args : List Expr} {Q : Value → Shared → Prop} {E : Value → Shared → Prop} (hc : Callee X f) (hp : plainArgs args = true) (hX : X.K.In s.heap)
    (h : wpAny X.M A (spliced (backTo pos (starEach args env))) (fun vs s₁ => X.K.In s₁.heap ∧ wpAny X.M A (call f (first ++ vs)) Q E s₁) E s) :
    wpAny X.M A (callWith pos f first (backTo pos (starEach args env)) []) Q E s := by
  cases args with
  | nil =>
    have h' : wpAny X.M A (call f (first ++ [])) Q E s := by
      refine fun Γ p hΓ => ?_
      have := h Γ p hΓ
      exact this.2 Γ p hΓ
    cases hc with
    | blt id => exact Calls.callWith_builtin (args := []) rfl (PyProof.Rows.evalArgs_none (by simpa using h'))
    | typ T => exact PySem.callWith_type (args := []) rfl (PyProof.Rows.evalArgs_none (by simpa using h'))
    | fn hk => exact callWith_K0 hX hk h'
  | cons e r =>
    obtain ⟨h1, h2⟩ := star_cons (env := env) hp
    have hpl := star_plain (env := env) (pos := pos) h2
    cases hc with
    | blt id => exact callWith_method1 (wpAny_mono h (fun _ _ x => x.2) fun _ _ x => x) h1 hpl
    | typ T =>
      rw [h1] at h ⊢
      exact PySem.callWith_type (by show (false || (backTo pos (starEach r env)).any (·.1)) = false; rw [hpl]; rfl) (Calls.evalArgs_plain (wpAny_mono h (fun _ _ x => x.2) fun _ _ x => x))
    | fn hk => exact callWith_K hX hk h h1 hpl

theorem Ev_Call {func : Expr} {args : List Expr} {pos : Pos} {Q : V → Led → Prop} (hp : plainArgs args = true)
    (h : Ev X n env (eval func env) m σ fun fv σ1 => ∃ f, fv = .c f ∧ Callee X f ∧ EvL X n env args m σ1 fun vs σ2 => Cl X n f vs σ2 Q)
    (he : eval (.Call func args [] pos) env = (do callWith pos (← eval func env) [] (backTo pos (starEach args env)) (backToKw pos (keywordEach [] env))) := by rfl) :
    Ev X n env (eval (.Call func args [] pos) env) m σ Q := by
  intro A ok P F s R E
  rw [he]
  refine wpAny_bind (wpM (h A ok P F s R E) ?_)
  rintro c s1 ⟨P1, v, σ1, p1, r1, R1, E1, f, rfl, hc, h1⟩
  cases r1
  refine callWith_any hc hp R1.KIn (wpM (EvL_run ok hp h1 R1 E1) ?_)
  rintro cs s2 ⟨P2, vs, σ2, p2, r2, R2, E2, h2⟩
  refine ⟨R2.KIn, ?_⟩
  exact wpM (inEnv R2 E2 (h2 A ok P2 _ s2 cs (lift R2 E2) r2)) fun _ _ => PostV.up (stays_trans p1 p2)

/-- a method is found -/
def Mt (X : Cx) (n : Nat) (v : V) (name : Str) (f : Value) (σ : Led) : Prop :=
  ∀ A, Ok A n → ∀ P F s c pl, RelC X P F σ s → VRel X.w P v c → wpAny X.M A (getMethod c name pl) (fun fx s' => fx = (f, [c]) ∧ s' = s) NoE s

theorem Ev_CallM {o : Expr} {name : Str} {apos pos : Pos} {args : List Expr} {pl : Sem Bool} {Q : V → Led → Prop} (hp : plainArgs args = true)
    (h : Ev X n env (eval o env) m σ fun ov σ1 => ∃ f, Mt X n ov name f σ1 ∧ Callee X f ∧ EvL X n env args m σ1 fun vs σ2 => Cl X n f (ov :: vs) σ2 Q)
    (he : eval (.Call (.Attribute o name apos) args [] pos) env = (do
      let ov ← eval o env
      standAt apos.atName
      let (f, first) ← holding [ov] (getMethod ov name pl)
      callWith pos f first (backTo pos (starEach args env)) []) := by rfl) :
    Ev X n env (eval (.Call (.Attribute o name apos) args [] pos) env) m σ Q := by
  intro A ok P F s R E
  refine MethodCall_ (wpM (h A ok P F s R E) ?_) he
  rintro c s1 ⟨P1, v, σ1, p1, r1, R1, E1, f, hm, hc, h1⟩
  refine wpM (hm A ok P1 F s1 c pl R1 r1) ?_
  rintro _ _ ⟨rfl, rfl⟩
  refine callWith_any hc hp R1.KIn (wpM (EvL_run ok hp h1 R1 E1) ?_)
  rintro cs s2 ⟨P2, vs, σ2, p2, r2, R2, E2, h2⟩
  refine ⟨R2.KIn, ?_⟩
  exact wpM (inEnv R2 E2 (h2 A ok P2 _ s2 (c :: cs) (lift R2 E2) (.cons (r1.keeps p2) r2))) fun _ _ => PostV.up (stays_trans p1 p2)

/-! an attribute is read -/
theorem Ev_Attr {value : Expr} {attr : Str} {pos : Pos} {Q : V → Led → Prop} (h : Ev X n env (eval value env) m σ fun v σ1 => Op1 X n (fun c => getAttr c attr true) v σ1 Q)
    (he : eval (.Attribute value attr pos) env = (do
      let o ← eval value env
      standAt pos.atName
      let r ← holding [o] (getAttr o attr true)
      letTemporaryGo value o r
      pure r) := by with_unfolding_all rfl) : Ev X n env (eval (.Attribute value attr pos) env) m σ Q := by
  intro A ok P F s R E
  refine Attribute_any_ (wpM (h A ok P F s R E) ?_) he
  rintro c s1 ⟨P1, v, σ1, p1, r1, R1, E1, h1⟩
  exact wpM (op1_in ok h1 R1 E1 r1) fun _ _ => PostV.up p1
end
end Mine
set_option maxRecDepth 10000
namespace Mine
open PySem PySem.W PyProof.Rows

section
variable {X : Cx} {P P' : Heap} {F : Addr → Option Obj} {σ σ' : Led} {s s' : Shared} {h' : Heap} {W : Addr → Prop} {tk : Nat} {env : Env} {m mc : List (Str × V)} {n : Nat}

/-! ## list comprehensions with one for -/
def Tests (X : Cx) (n : Nat) (env : Env) (m : List (Str × V)) : List Expr → Led → (Bool → Led → Prop) → Prop
  | [], σ, Q => Q true σ
  | c :: r, σ, Q => Tr X n env (isTrue c env (eval c env)) m σ fun b σ1 => if b then Tests X n env m r σ1 Q else Q false σ1

def CompL (X : Cx) (n : Nat) (env : Env) (target elt : Expr) (ifs : List Expr) (mc : List (Str × V)) (Q : List PyData → Led → Prop) : List V → List PyData → Led → Prop
  | [], acc, σ => Q acc σ
  | v :: vs, acc, σ => As X n env (assign target env) v mc σ fun m1 σ1 => SubL mc m1 ∧ Tests X n env m1 ifs σ1 fun b σ2 =>
      if b then Ev X n env (eval elt env) m1 σ2 fun y σ3 => ∃ d, y = .d d ∧ CompL X n env target elt ifs mc Q vs (acc ++ [d]) σ3
      else CompL X n env target elt ifs mc Q vs acc σ2

theorem tests_run {A : Around} (ok : Ok A n) {Q : Bool → Led → Prop} : ∀ {ifs : List Expr} {σ : Led} {P : Heap} {s : Shared}, ifs.length ≤ 1 → Tests X n env m ifs σ Q → RelC X P F σ s → EnvIs X P F σ env m s.heap →
    wpAny X.M A (forIn ifs true fun c r => if r = true then do let ok ← isTrue c env (eval c env); pure (ForInStep.yield ok) else pure (ForInStep.yield r)) (PostB X P F env m Q) NoE s
  | [], σ, P, s, _, h, R, E => wpAny_tests_nil ⟨P, σ, stays_refl _, R, E, h⟩
  | [c], σ, P, s, _, h, R, E => by
    refine wpAny_tests_one (wpM (h A ok P F s R E) ?_)
    rintro b s1 ⟨P1, σ1, p1, R1, E1, h1⟩
    refine ⟨P1, σ1, p1, R1, E1, ?_⟩
    cases b with
    | true => exact h1
    | false => exact h1
  | _ :: _ :: _, _, _, _, hl, _, _, _ => by simp at hl

theorem codeAny_compLoopT {prog : Program} {w : World} {A : Around} {R : Result → Shared → Prop} {elt target iter : Expr} {ifs : List Expr} {scope : Scope} {pos : Pos} {it acc : Value} {env : Env} (I : Nat → Shared → Prop)
    (turn : ∀ n s, I n s → wpAny (model prog w) A (pyNext it) (fun r s₁ => match r with
      | none => R (.ok .next) s₁
      | some v => wpAny (model prog w) A (letOwnedTupleGo target it v) (fun _ s₁ => wpAny (model prog w) A (assign target env v) (fun _ s₂ =>
          wpAny (model prog w) A (forIn ifs true fun c r => if r = true then do let ok ← isTrue c env (eval c env); pure (ForInStep.yield ok) else pure (ForInStep.yield r)) (fun ok s₃ =>
            if ok = true then wpAny (model prog w) A (eval elt env) (fun x s₄ =>
              wpAny (model prog w) A (call (.builtin "list.append") [acc, x]) (fun _ s₅ => ∃ m, m < n ∧ I m s₅) NoE s₄) NoE s₃
            else ∃ m, m < n ∧ I m s₃) NoE s₂) NoE s₁) NoE s₁) NoE s)
    (n : Nat) (h : I n s) :
    codeAny (model prog w) A (.compLoop (.ListComp elt [⟨target, iter, ifs, 0⟩] scope pos) 0 it acc env) R s := by
  refine codeAny_loop rfl I (fun n s hI => ?_) n h
  show wpAny _ A ((compTurn (.ListComp elt [⟨target, iter, ifs, 0⟩] scope pos) 0 it acc env).onRaise (fun x => do noteFrame x env; theTreesLotGoes x)) _ _ s
  refine wpAny_noted ?_
  rw [compTurn_list]
  refine wpAny_bind (wpAny_standAt (wpAny_bind (wpAny_mono (turn n s hI) (fun r s₁ h₁ => ?_) fun _ _ h' => h'.elim)))
  cases r with
  | none => exact wpAny_pure h₁
  | some v =>
    refine wpAny_bind (wpAny_mono h₁ (fun _ s₁ h₁ => ?_) fun _ _ x => x.elim)
    refine wpAny_bind (wpAny_mono h₁ (fun _ s₂ h₂ => wpAny_bind (wpAny_mono h₂ (fun ok s₃ h₃ => ?_) fun _ _ h' => h'.elim)) fun _ _ h' => h'.elim)
    cases ok with
    | false => exact wpAny_pure ⟨rfl, h₃⟩
    | true =>
      exact wpAny_bind (wpAny_bind (wpAny_mono h₃ (fun x s₄ h₄ => wpAny_bind (wpAny_mono h₄ (fun _ s₅ h₅ => wpAny_pure (wpAny_pure ⟨rfl, h₅⟩)) fun _ _ h' => h'.elim)) fun _ _ h' => h'.elim))

/-- the captured cells -/
structure Capt (env : Env) (scope : Scope) (m mc : List (Str × V)) (cl : List (Str × Addr)) : Prop where
  kind : scope.kind = .function
  at_ : ∀ p ∈ cl, env.cells.lookup p.1 = some p.2 ∧ env.kindOf p.1 = some .cell
  nodup : (cl.map (·.2)).Nodup
  names : (cl.map (·.1)).Nodup
  sub : ∀ x v, mc.lookup x = some v → m.lookup x = some v ∧ (cl.lookup x).isSome = true ∧ (relabel scope env).names.lookup x = some .cell
  all : ∀ x v, m.lookup x = some v → (cl.lookup x).isSome = true → mc.lookup x = some v

theorem mem_lookup {x : Str} {a : Addr} : ∀ {l : List (Str × Addr)}, (l.map (·.1)).Nodup → (x, a) ∈ l → l.lookup x = some a
  | (y, b) :: r, hn, h => by
    rw [List.lookup_cons]
    rw [List.map_cons, List.nodup_cons] at hn
    rcases List.mem_cons.mp h with q | q
    · cases q; simp
    · have hne : x ≠ y := fun e => hn.1 (e ▸ List.mem_map.mpr ⟨_, q, rfl⟩)
      have : (x == y) = false := by simpa using hne
      simp only [this]; exact mem_lookup hn.2 q

theorem readsAll_snoc {c : Value} {d : PyData} {bs : List Addr} (r : Reads P c d bs) : ∀ {l : List Value} {ds : List PyData} {as : List Addr}, ReadsAll P l ds as → ∃ cs, ReadsAll P (l ++ [c]) (ds ++ [d]) cs
  | _, _, _, .nil => ⟨_, .cons r .nil⟩
  | _, _, _, .cons a h => let ⟨_, h⟩ := readsAll_snoc r h; ⟨_, .cons a h⟩
theorem acc_snoc {ys : Array Value} {ds : List PyData} {as bs : List Addr} {c : Value} {d : PyData} (h : ReadsAll P ys.toList ds as) (r : Reads P c d bs) : ∃ cs, ReadsAll P (ys.push c).toList (ds ++ [d]) cs := by
  rw [Array.toList_push]; exact readsAll_snoc r h

/-- the state between two turns -/
structure CompSt (X : Cx) (P2 : Heap) (F : Addr → Option Obj) (env : Env) (m : List (Str × V)) (W : Addr → Prop) (St : Nat → Heap → Prop) (C D : Addr) (i : Nat) (acc : List PyData) (P : Heap) (σ : Led) (s : Shared) : Prop where
  R : RelC X P F σ s
  E : EnvIs X P F σ env m s.heap
  p : P2.StaysIn P
  free : Free P F σ env fun a => W a ∨ a = C ∨ a = D
  st : St i s.heap
  acc : ∃ ys as, s.heap.PlainList D ys ∧ ReadsAll P ys.toList acc as ∧ ys.size ≤ i
  ns : ∃ cm, s.heap.Ns C cm

theorem compEnv_is {scope : Scope} {cl : List (Str × Addr)} {C D : Addr} (Cp : Capt env scope m mc cl) (E : EnvIs X P F σ env m s.heap) (Fr : Free P F σ env fun a => W a ∨ a = C ∨ a = D)
    (hns : ∃ cm, s.heap.Ns C cm) (hCW : ¬ W C) (hCD : C ≠ D) :
    EnvIs X P (withS F (fun a => (Own env a ∧ a ∉ cl.map (·.2)) ∨ W a ∨ a = D) s.heap) σ (compEnvC scope cl C env) mc s.heap := by
  have inCell : ∀ a, a ∈ cl.map (·.2) → Own env a ∧ ∃ v, s.heap.IsCell a v := fun a ha => by
    obtain ⟨p, hp, rfl⟩ := List.mem_map.mp ha
    have := lookup_mem (Cp.at_ p hp).1
    exact ⟨.inr (List.mem_map.mpr ⟨_, this, rfl⟩), E.cellObj _ this⟩
  have hC := Fr C (.inr (.inl rfl))
  obtain ⟨cm, hcm⟩ := hns
  refine ⟨Cp.kind, E.glob, E.blt, ⟨cm, hcm, fun x v h1 h2 => ?_⟩, fun x v h1 h2 => ?_, fun x v h1 => .inr (Cp.sub x v h1).2.2, fun p hp => (inCell _ (List.mem_map_of_mem hp)).2, fun a ha => ?_, ?_⟩
  · have h3 : (relabel scope env).names.lookup x = some .local := h2
    rw [(Cp.sub x v h1).2.2] at h3; cases h3
  · obtain ⟨h3, h4, h5⟩ := Cp.sub x v h1
    obtain ⟨a, ha⟩ := Option.isSome_iff_exists.mp h4
    have hat := Cp.at_ _ (lookup_mem ha)
    obtain ⟨b, c, h6, h7, h8⟩ := E.cells x v h3 hat.2
    rw [hat.1] at h6; cases h6
    exact ⟨a, c, ha, h7, h8⟩
  · have key : ¬ ((Own env a ∧ a ∉ cl.map (·.2)) ∨ W a ∨ a = D) ∧ P.get? a = none ∧ F a = none ∧ σ a = none := by
      rcases ha with rfl | ha
      · exact ⟨fun h => h.elim (fun h => hC.2.2.2 h.1) fun h => h.elim hCW hCD, hC.1, hC.2.1, hC.2.2.1⟩
      · have ho := (inCell a ha).1
        refine ⟨fun h => h.elim (fun h => h.2 ha) fun h => h.elim (fun h => (Fr a (.inl h)).2.2.2 ho) fun h => (Fr a (.inr (.inr h))).2.2.2 ho, E.apart a ho⟩
    rw [withS_out key.1]; exact key.2
  · show (C :: cl.map (·.2)).Nodup
    rw [List.nodup_cons]
    exact ⟨fun h => hC.2.2.2 (inCell C h).1, Cp.nodup⟩

/-- back from the comprehension's frame -/
theorem compEnv_back {scope : Scope} {cl : List (Str × Addr)} {C D : Addr} {h : Heap} {m1 : List (Str × V)} (Cp : Capt env scope m mc cl) (E : EnvIs X P F σ env m h) (Fr : Free P F σ env fun a => W a ∨ a = C ∨ a = D)
    (live : ∀ a, W a → ∃ o, h.get? a = some o) (liveD : ∃ o, h.get? D = some o) (hCW : ¬ W C) (hCD : C ≠ D)
    (R' : RelC X P' (withS F (fun a => (Own env a ∧ a ∉ cl.map (·.2)) ∨ W a ∨ a = D) h) σ' s') (E' : EnvIs X P' (withS F (fun a => (Own env a ∧ a ∉ cl.map (·.2)) ∨ W a ∨ a = D) h) σ' (compEnvC scope cl C env) m1 s'.heap)
    (hsub : Sub mc m1) (hP : P.StaysIn P') :
    RelC X P' F σ' s' ∧ EnvIs X P' F σ' env m s'.heap ∧ (Free P' F σ' env fun a => W a ∨ a = C ∨ a = D) ∧ (∀ b o, (W b ∨ b = D) → h.get? b = some o → s'.heap.get? b = some o) ∧ ∃ cm, s'.heap.Ns C cm := by
  have hF : ∀ a, ((Own env a ∧ a ∉ cl.map (·.2)) ∨ W a ∨ a = D) → F a = none := fun a ha => by
    rcases ha with ha | ha | ha
    · exact (E.apart a ha.1).2.1
    · exact (Fr a (.inl ha)).2.1
    · exact (Fr a (.inr (.inr ha))).2.1
  obtain ⟨R1, k⟩ := unliftS R' hF
  have cellIn : ∀ a, a ∈ cl.map (·.2) → Own (compEnvC scope cl C env) a := fun a ha => .inr ha
  have hown : ∀ a, Own env a → P'.get? a = none ∧ F a = none ∧ σ' a = none := fun a ha => by
    by_cases q : a ∈ cl.map (·.2)
    · have := E'.apart a (cellIn a q)
      exact ⟨this.1, (E.apart a ha).2.1, this.2.2⟩
    · have he : ∃ o, h.get? a = some o := by
        have E0 : EnvIs X P F σ env m ({ heap := h } : Shared).heap := E
        exact E0.has ha
      obtain ⟨o, e⟩ := he
      have := k a o (.inl ⟨ha, q⟩) e
      exact ⟨this.2.1, (E.apart a ha).2.1, this.2.2⟩
  have oth : ∀ a o, Own env a → a ∉ cl.map (·.2) → h.get? a = some o → s'.heap.get? a = some o := fun a o ha q e => (k a o (.inl ⟨ha, q⟩) e).1
  have locNot : env.locals ∉ cl.map (·.2) := fun q => by
    obtain ⟨p, hp, e⟩ := List.mem_map.mp q
    have hd := E.dist
    rw [List.nodup_cons] at hd
    exact hd.1 (e ▸ List.mem_map.mpr ⟨_, lookup_mem (Cp.at_ p hp).1, rfl⟩)
  obtain ⟨cm0, hn0, _⟩ := E'.ns
  refine ⟨R1, ⟨E.kind, E.glob, E.blt, ?_, fun x v h1 h2 => ?_, E.kinds, fun p hp => ?_, hown, E.dist⟩, fun a ha => ?_, fun b o hb e => (k b o (.inr hb) e).1, ⟨cm0, hn0⟩⟩
  · obtain ⟨cm, hn, hl⟩ := E.ns
    exact ⟨cm, hn.at' fun o e => oth _ o (.inl rfl) locNot e, fun x v h1 h2 => let ⟨c, h3, h4⟩ := hl x v h1 h2; ⟨c, h3, h4.keeps hP⟩⟩
  · obtain ⟨a, c, h3, ⟨o, ho, hd⟩, h5⟩ := E.cells x v h1 h2
    have ha : Own env a := .inr (List.mem_map.mpr ⟨_, lookup_mem h3, rfl⟩)
    by_cases q : (cl.lookup x).isSome = true
    · have h6 := hsub x v (Cp.all x v h1 q)
      obtain ⟨b, c', h7, h8, h9⟩ := E'.cells x v h6 (by exact (Cp.sub x v (Cp.all x v h1 q)).2.2)
      have h10 := (Cp.at_ _ (lookup_mem h7)).1
      rw [h3] at h10; cases h10
      exact ⟨_, c', h3, h8, h9⟩
    · have q2 : a ∉ cl.map (·.2) := fun hm => by
        obtain ⟨p, hp, e⟩ := List.mem_map.mp hm
        -- the cell's name is one
        have h7 := (Cp.at_ p hp).1
        have hd := E.dist
        rw [List.nodup_cons] at hd
        have hpw : env.cells.Pairwise (fun p q => p.2 ≠ q.2) := List.pairwise_map.mp hd.2
        have m1 := lookup_mem h3
        have m2 := lookup_mem h7
        rw [e] at m2
        have : p.1 = x := by
          clear h5 ho hd h7 hm
          generalize env.cells = l at hpw m1 m2
          induction l with
          | nil => cases m1
          | cons z r ih =>
            rw [List.pairwise_cons] at hpw
            rcases List.mem_cons.mp m1 with q1 | q1 <;> rcases List.mem_cons.mp m2 with q2 | q2
            · rw [← q1] at q2; exact congrArg Prod.fst q2
            · exact absurd (by rw [← q1]) (hpw.1 _ q2)
            · exact absurd (by rw [← q2]) (hpw.1 _ q1)
            · exact ih hpw.2 q1 q2
        exact q (by rw [← this, mem_lookup Cp.names (a := p.2) hp]; rfl)
      exact ⟨a, c, h3, ⟨o, oth a o ha q2 ho, hd⟩, h5.keeps hP⟩
  · obtain ⟨v, o, ho, hd⟩ := E.cellObj p hp
    have ha : Own env p.2 := .inr (List.mem_map.mpr ⟨_, hp, rfl⟩)
    by_cases q : p.2 ∈ cl.map (·.2)
    · obtain ⟨p', hp', e⟩ := List.mem_map.mp q
      obtain ⟨v', h'⟩ := E'.cellObj p' hp'
      exact ⟨v', e ▸ h'⟩
    · exact ⟨v, o, oth _ o ha q ho, hd⟩
  · have hfa := Fr a ha
    rcases ha with ha | ha | ha
    · obtain ⟨o, e⟩ := live a ha
      have := k a o (.inr (.inl ha)) e
      exact ⟨this.2.1, hfa.2.1, this.2.2, hfa.2.2.2⟩
    · have := E'.apart a (.inl ha)
      exact ⟨this.1, hfa.2.1, this.2.2, hfa.2.2.2⟩
    · obtain ⟨o, e⟩ := liveD
      have := k a o (.inr (.inr ha)) (ha ▸ e)
      exact ⟨this.2.1, hfa.2.1, this.2.2, hfa.2.2.2⟩
end
end Mine
set_option maxRecDepth 10000
namespace Mine
open PySem PySem.W PyProof.Rows

section
variable {X : Cx} {P P' : Heap} {F : Addr → Option Obj} {σ σ' : Led} {s s' : Shared} {h' : Heap} {W : Addr → Prop} {tk : Nat} {env : Env} {m mc : List (Str × V)} {n : Nat}

theorem comp_core {target elt iter : Expr} {ifs : List Expr} {scope : Scope} {pos : Pos} {cl : List (Str × Addr)} {Q : List PyData → Led → Prop} {A : Around} (ok : Ok A n) (Cp : Capt env scope m mc cl)
    (hcell : ∀ y ∈ scope.names, y.2 ≠ .cell) (hifs : ifs.length ≤ 1) {I : Addr} {items : List V} {St : Nat → Heap → Prop} {RR : Value → Addr → Result → Shared → Prop}
    (IT : Itr X n P I items W St target) (hsz : items.length ≤ sizeLine) (st : St 0 s.heap) (Fr : Free P F σ env W) (R : RelC X P F σ s) (E : EnvIs X P F σ env m s.heap)
    (hL : ∀ C, CompL X n (compEnvC scope cl C env) target elt ifs mc Q items [] σ)
    (hRR : ∀ C D i acc P' σ' s', C ≠ D → CompSt X P F env m (fun _ => False) (fun _ _ => True) C D i acc P' σ' s' → Q acc σ' → RR (.ref D) C (.ok .next) s') :
    wpAny X.M A (newList []) (fun acc s₃ => wpAny X.M A (newFunctionEnv scope env.globals cl [] env.qual none .none (some env)) (fun cenv s₄ =>
      codeAny X.M A (.compStart (.ListComp elt [⟨target, iter, ifs, 0⟩] scope pos) 0 (.ref I) acc { cenv with scope := relabel scope env }) (RR acc cenv.locals) s₄) NoE s₃) NoE s := by
  refine wpAny_newObj_type (wpAny_newFunctionEnv hcell (by intro y hy; simp at hy) (fun h₁ hns₁ hsb₁ => ?_) Cp.kind)
  dsimp only at hns₁ hsb₁ ⊢
  rw [Heap.size_push] at hns₁ hsb₁ ⊢
  obtain ⟨D, hD⟩ : ∃ D, D = s.heap.objs.size := ⟨_, rfl⟩
  obtain ⟨C, hC⟩ : ∃ C, C = s.heap.objs.size + 1 := ⟨_, rfl⟩
  rw [← hC] at hns₁ hsb₁ ⊢
  rw [← hD]
  have hCD : C ≠ D := by rw [hC, hD]; exact Nat.succ_ne_self _
  have hk : s.heap.StaysIn h₁ := fun b o e => by
    have hb := Heap.lt_size e
    exact hsb₁.extBut b o (by rw [hC]; exact Nat.ne_of_lt (Nat.lt_succ_of_lt hb)) (Heap.get?_push_of_some _ (Heap.get?_push_of_some _ e))
  have live0 := IT.live _ _ st
  have newC : s.heap.get? C = none := size_none _ (by rw [hC]; exact Nat.le_succ _)
  have newD : s.heap.get? D = none := size_none _ (by rw [hD]; exact Nat.le_refl _)
  have hCW : ¬ W C := fun w => by obtain ⟨o, e⟩ := live0 C w; rw [newC] at e; cases e
  have hDW : ¬ W D := fun w => by obtain ⟨o, e⟩ := live0 D w; rw [newD] at e; cases e
  have Fr0 : Free P F σ env fun a => W a ∨ a = C ∨ a = D := fun a ha => by
    rcases ha with ha | ha | ha
    · exact Fr a ha
    · exact new_free (W := fun a => a = C) R E (fun a e => e ▸ newC) a ha
    · exact new_free (W := fun a => a = D) R E (fun a e => e ▸ newD) a ha
  obtain ⟨R1, E1, p1, Fr1⟩ := Fr0.step R E (fun b o _ e => hk b o e) (s.toks + 0)
  have hDget : h₁.get? D = some { cls := .type "list", data := .seq #[] 0 } := by
    refine hsb₁.extBut D _ (Ne.symm hCD) (Heap.get?_push_of_some _ ?_)
    rw [hD]; exact Heap.get?_push_size _ rfl
  have st1 : St 0 h₁ := IT.frame _ _ _ _ st (fun b o _ e => hk b o e) p1 R1.stays
  have S0 : CompSt X P F env m W St C D 0 [] (nextP P s.heap h₁ fun a => W a ∨ a = C ∨ a = D) σ { s with heap := h₁, toks := s.toks + 0 } :=
    ⟨R1, E1, p1, Fr1, st1, ⟨#[], [], ⟨0, hDget⟩, .nil, by simp⟩, ⟨_, hns₁⟩⟩
  have loop : ∀ s₃ : Shared, s₃ = { s with heap := h₁, toks := s.toks + ([] : List (Str × Value)).length } →
      codeAny X.M A (.compLoop (.ListComp elt [⟨target, iter, ifs, 0⟩] scope pos) 0 (.ref I) (.ref D) (compEnvC scope cl C env)) (RR (.ref D) C) s₃ := by
    rintro s₃ rfl
    refine codeAny_compLoopT (fun k s' => ∃ i acc P' σ', k = items.length - i ∧ i ≤ items.length ∧ CompSt X P F env m W St C D i acc P' σ' s' ∧ CompL X n (compEnvC scope cl C env) target elt ifs mc Q (items.drop i) acc σ') ?_
      items.length ⟨0, [], _, σ, by omega, Nat.zero_le _, S0, hL C⟩
    rintro k s3 ⟨i, acc, P3, σ3, rfl, hi, S3, L3⟩
    by_cases hlt : i < items.length
    · have hd : items.drop i = items[i] :: items.drop (i + 1) := List.drop_eq_getElem_cons hlt
      rw [hd] at L3
      refine wpM (IT.next A ok i items[i] s3 P3 (by simp [hlt]) S3.st S3.p S3.R.stays) ?_
      rintro r s4 ⟨c, rfl, h4⟩
      refine wpM h4 ?_
      rintro _ s5 ⟨h5, tk5, rfl, st5, k5, v5⟩
      -- the iterator has moved
      have W3 : Free P3 F σ3 env W := fun a ha => S3.free a (.inl ha)
      obtain ⟨R5, E5, p5, FrW5⟩ := W3.step S3.R S3.E k5 tk5
      obtain ⟨ys, as, hys, hacc, hyi⟩ := S3.acc
      obtain ⟨cm, hcm⟩ := S3.ns
      have hcm5 : h5.Ns C cm := hcm.at' fun o e => k5 C o hCW e
      have hys5 : h5.PlainList D ys := hys.at fun o e => k5 D o hDW e
      have Fr5 : Free (nextP P3 s3.heap h5 W) F σ3 env fun a => W a ∨ a = C ∨ a = D := fun a ha => by
        have h0 := S3.free a ha
        rcases ha with ha | ha | ha
        · exact ⟨nextP_none h0.1 (.inr ha), h0.2⟩
        · obtain ⟨o, _, _, ho, _⟩ := hcm; exact ⟨nextP_none h0.1 (.inl (by rw [ha, ho]; exact fun x => nomatch x)), h0.2⟩
        · obtain ⟨k, ho⟩ := hys; exact ⟨nextP_none h0.1 (.inl (by rw [ha, ho]; exact fun x => nomatch x)), h0.2⟩
      have live5 := IT.live _ _ st5
      have R6 := liftS (S := fun a => (Own env a ∧ a ∉ cl.map (·.2)) ∨ W a ∨ a = D) R5 fun a ha => by
        rcases ha with ha | ha | ha
        · exact ⟨(E5.apart a ha.1).1, (E5.apart a ha.1).2.2⟩
        · exact ⟨(Fr5 a (.inl ha)).1, (Fr5 a (.inl ha)).2.2.1⟩
        · exact ⟨(Fr5 a (.inr (.inr ha))).1, (Fr5 a (.inr (.inr ha))).2.2.1⟩
      have E6 := compEnv_is (s := { s3 with heap := h5, toks := tk5 }) (C := C) (D := D) Cp E5 Fr5 ⟨cm, hcm5⟩ hCW hCD
      refine wpM (L3 A ok _ _ _ c R6 E6 v5) ?_
      rintro _ s7 ⟨P7, m7, σ7, p7, R7, E7, hsub, L7⟩
      refine wpM (tests_run ok hifs L7 R7 E7) ?_
      rintro b s8 ⟨P8, σ8, p8, R8, E8, L8⟩
      have liveD : ∃ o, h5.get? D = some o := let ⟨k, e⟩ := hys5; ⟨_, e⟩
      cases b with
      | false =>
        obtain ⟨R9, E9, Fr9, k9, ns9⟩ := compEnv_back Cp E5 Fr5 live5 liveD hCW hCD R8 E8 hsub.sub (stays_trans p7 p8)
        have p9 : P3.StaysIn P8 := stays_trans p5 (stays_trans p7 p8)
        have st9 : St (i + 1) s8.heap := IT.frame _ _ _ P8 st5 (fun b o w e => k9 b o (.inl w) e) (stays_trans S3.p p9) R9.stays
        refine ⟨_, by omega, i + 1, acc, P8, σ8, rfl, hlt, ⟨R9, E9, stays_trans S3.p p9, Fr9, st9, ⟨ys, as, hys5.at fun o e => k9 D o (.inr rfl) e, ReadsAll.keeps p9 hacc, by omega⟩, ns9⟩, L8⟩
      | true =>
        refine wpM (L8 A ok _ _ _ R8 E8) ?_
        rintro y s9 ⟨P9, yv, σ9, p9, yr, R9, E9, d, rfl, L9⟩
        obtain ⟨R10, E10, Fr10, k10, ns10⟩ := compEnv_back Cp E5 Fr5 live5 liveD hCW hCD R9 E9 hsub.sub (stays_trans p7 (stays_trans p8 p9))
        have p10 : P3.StaysIn P9 := stays_trans p5 (stays_trans p7 (stays_trans p8 p9))
        have st10 : St (i + 1) s9.heap := IT.frame _ _ _ P9 st5 (fun b o w e => k10 b o (.inl w) e) (stays_trans S3.p p10) R10.stays
        have hys10 : s9.heap.PlainList D ys := hys5.at fun o e => k10 D o (.inr rfl) e
        refine wpAny_list_append_plain (hsz := by omega) hys10 fun h11 hl11 hs11 => ?_
        cases yr with | @d _ _ bs yr =>
        obtain ⟨cs, hacc'⟩ := acc_snoc (ReadsAll.keeps p10 hacc) yr
        have hWD : ∀ b o, b ≠ D → s9.heap.get? b = some o → h11.get? b = some o := fun b o hb e => hs11.extBut b o hb e
        have hfD := Fr10 D (.inr (.inr rfl))
        have R11 : RelC X P9 F σ9 { s9 with heap := h11 } := R10.but (W := fun b => b = D) (tk := s9.toks) (fun b e => e ▸ ⟨hfD.1, hfD.2.1, hfD.2.2.1⟩) fun b o hb e => hWD b o hb e
        have E11 : EnvIs X P9 F σ9 env m h11 := E10.but (W := fun b => b = D) (fun b e => e ▸ hfD.2.2.2) fun b o hb e => hWD b o hb e
        obtain ⟨cm10, hcm10⟩ := ns10
        refine ⟨_, by omega, i + 1, acc ++ [d], P9, σ9, rfl, hlt, ⟨R11, E11, stays_trans S3.p p10, Fr10, ?_, ⟨ys.push y, cs, hl11, hacc', by rw [Array.size_push]; omega⟩, ⟨cm10, hcm10.sameBut hs11 hCD⟩⟩, L9⟩
        exact IT.frame _ _ _ P9 st10 (fun b o w e => hWD b o (fun q => hDW (q ▸ w)) e) (stays_trans S3.p p10) R11.stays
    · have he : i = items.length := by omega
      subst he
      rw [List.drop_length] at L3
      refine wpM (IT.done A ok s3 S3.st (stays_trans S3.p S3.R.stays)) ?_
      rintro r s4 ⟨rfl, h4, tk4, rfl, k4⟩
      have W3 : Free P3 F σ3 env W := fun a ha => S3.free a (.inl ha)
      obtain ⟨R5, E5, p5, FrW5⟩ := W3.step S3.R S3.E k4 tk4
      obtain ⟨ys, as, hys, hacc, hyi⟩ := S3.acc
      obtain ⟨cm, hcm⟩ := S3.ns
      refine hRR C D _ acc _ σ3 _ hCD ⟨R5, E5, stays_trans S3.p p5, fun a ha => ?_, trivial, ⟨ys, as, hys.at fun o e => k4 D o hDW e, ReadsAll.keeps p5 hacc, hyi⟩, ⟨cm, hcm.at' fun o e => k4 C o hCW e⟩⟩ L3
      rcases ha with ha | ha | ha
      · exact ha.elim
      · have h0 := S3.free a (.inr (.inl ha)); obtain ⟨o, _, _, ho, _⟩ := hcm; exact ⟨nextP_none h0.1 (.inl (by rw [ha, ho]; exact fun x => nomatch x)), h0.2⟩
      · have h0 := S3.free a (.inr (.inr ha)); obtain ⟨k, ho⟩ := hys; exact ⟨nextP_none h0.1 (.inl (by rw [ha, ho]; exact fun x => nomatch x)), h0.2⟩
  exact codeAny_compStart_list (loop _ rfl) (wpE (IT.self A ok 0 _ st1) fun r s2 ⟨e1, e2⟩ => by subst e1 e2; exact loop _ rfl)

/-- the list made is frozen -/
theorem comp_frozen {C D : Addr} {i : Nat} {acc : List PyData} (S : CompSt X P F env m (fun _ => False) (fun _ _ => True) C D i acc P' σ s) {h : Heap} (hs : Heap.SameBut C s.heap h) (hCD : C ≠ D) :
    ∃ P2, P'.StaysIn P2 ∧ VRel X.w P2 (.d (.list acc)) (.ref D) ∧ RelC X P2 F σ { s with heap := h } ∧ EnvIs X P2 F σ env m h ∧ P2.get? C = none := by
  obtain ⟨ys, as, ⟨k, hys⟩, hacc, hyi⟩ := S.acc
  have fC := S.free C (.inr (.inl rfl))
  have fD := S.free D (.inr (.inr rfl))
  have R1 : RelC X P' F σ { s with heap := h } := S.R.but (W := fun b => b = C) (tk := s.toks) (fun b e => e ▸ ⟨fC.1, fC.2.1, fC.2.2.1⟩) fun b o hb e => hs.extBut b o hb e
  have E1 : EnvIs X P' F σ env m h := S.E.but (W := fun b => b = C) (fun b e => e ▸ fC.2.2.2) fun b o hb e => hs.extBut b o hb e
  have hD : h.get? D = some { cls := .type "list", data := .seq ys k } := hs.extBut D _ (Ne.symm hCD) hys
  classical
  refine ⟨pick h fun b => (P'.get? b).isSome ∨ b = D, ?_, ?_, ?_, ?_, ?_⟩
  · intro b o e
    rw [pick_get, if_pos (.inl (by rw [e]; rfl))]; exact R1.stays b o e
  · have up : P'.StaysIn (pick h fun b => (P'.get? b).isSome ∨ b = D) := fun b o e => by rw [pick_get, if_pos (.inl (by rw [e]; rfl))]; exact R1.stays b o e
    exact .d (.list (by rw [pick_get, if_pos (.inr rfl)]; exact hD) rfl rfl (ReadsAll.keeps up hacc))
  · have up : P'.StaysIn (pick h fun b => (P'.get? b).isSome ∨ b = D) := fun b o e => by rw [pick_get, if_pos (.inl (by rw [e]; rfl))]; exact R1.stays b o e
    have no : ∀ a, P'.get? a = none → a ≠ D → (pick h fun b => (P'.get? b).isSome ∨ b = D).get? a = none := fun a ha hn => by
      rw [pick_get, if_neg]; rintro (q | q)
      · rw [ha] at q; cases q
      · exact hn q
    refine ⟨stays_trans R1.base up, fun b o e => (by rw [pick_get] at e; split at e; exact e; cases e), fun a o e => ?_, fun a o e => ?_, R1.gens, R1.os⟩
    · obtain ⟨h1, h2, h3⟩ := R1.fr a o e
      exact ⟨h1, no a h2 (fun q => by rw [q, fD.2.1] at e; cases e), h3⟩
    · obtain ⟨h1, h2⟩ := R1.own a o e
      exact ⟨h1.keeps up fun _ x => x, no a h2 (fun q => by rw [q, fD.2.2.1] at e; cases e)⟩
  · refine E1.at (s := { s with heap := h }) (fun b o e => by rw [pick_get, if_pos (.inl (by rw [e]; rfl))]; exact R1.stays b o e) fun a o ha e => ⟨e, ?_, (E1.apart a ha).2⟩
    rw [pick_get, if_neg]; rintro (q | q)
    · rw [(E1.apart a ha).1] at q; cases q
    · exact fD.2.2.2 (q ▸ ha)
  · rw [pick_get, if_neg]; rintro (q | q)
    · rw [fC.1] at q; cases q
    · exact hCD q

theorem Ev_Comp {target elt iter : Expr} {ifs : List Expr} {scope : Scope} {pos : Pos} (cl : List (Str × Addr)) (mc : List (Str × V)) {Q : V → Led → Prop} (Cp : Capt env scope m mc cl)
    (hcell : ∀ y ∈ scope.names, y.2 ≠ .cell) (hifs : ifs.length ≤ 1) (hclos : closureFor scope env = pure cl) (hnames : ∀ y ∈ scope.names, y.2 = .local → scope.names.lookup y.1 = some .local)
    (h : It X n env iter target m σ fun items σ1 => items.length ≤ sizeLine ∧ ∀ C, CompL X n (compEnvC scope cl C env) target elt ifs mc (fun acc σ2 => Q (.d (.list acc)) σ2) items [] σ1)
    (hs : ∀ x, foldedSetIterable iter env x = pure x := by intro _; rfl) : Ev X n env (eval (.ListComp elt [⟨target, iter, ifs, 0⟩] scope pos) env) m σ Q := by
  intro A ok P F s R E
  rw [eval_ListComp]
  refine wpAny_comprehension_free (use := none) rfl hs hclos Cp.kind hnames (wpM (h A ok P F s R E) fun x s1 h1 => wpM h1 ?_)
  rintro it s2 ⟨P2, I, items, W, St, σ2, rfl, p2, IT, st2, Fr2, R2, E2, hsz, hL⟩
  refine comp_core (RR := fun acc C => compPost X.M A NoE none (PostV X P F env m Q) acc C) ok Cp hcell hifs IT hsz st2 Fr2 R2 E2 hL ?_
  intro C D i acc P3 σ3 s3 hCD S hQ
  obtain ⟨cm, hcm⟩ := S.ns
  refine ⟨cm, hcm, fun h4 hs4 => ?_⟩
  obtain ⟨P5, p5, v5, R5, E5, _⟩ := comp_frozen S hs4 hCD
  exact ⟨P5, _, σ3, stays_trans p2 (stays_trans S.p p5), v5, R5, E5, hQ⟩

theorem Ex_AssignComp {y : Str} {py : Pos} {target elt iter : Expr} {ifs : List Expr} {scope : Scope} {pos spos : Pos} (cl : List (Str × Addr)) (mc : List (Str × V)) {Q : Fl → List (Str × V) → Led → Prop} (hb : Binds env y) (Cp : Capt env scope m mc cl)
    (hcell : ∀ y ∈ scope.names, y.2 ≠ .cell) (hifs : ifs.length ≤ 1) (hclos : closureFor scope env = pure cl) (hnames : ∀ y ∈ scope.names, y.2 = .local → scope.names.lookup y.1 = some .local)
    (hsw : swapsWith (.ListComp elt [⟨target, iter, ifs, 0⟩] scope pos) (some (.Name y py)) spos.line env = pure true)
    (h : It X n env iter target m σ fun items σ1 => items.length ≤ sizeLine ∧ ∀ C, CompL X n (compEnvC scope cl C env) target elt ifs mc (fun acc σ2 => Q .next ((y, .d (.list acc)) :: m) σ2) items [] σ1)
    (hs : ∀ x, foldedSetIterable iter env x = pure x := by intro _; rfl) : Ex X n env (exec (.Assign [.Name y py] (.ListComp elt [⟨target, iter, ifs, 0⟩] scope pos) spos) env) m σ Q := by
  intro A ok P F s R E
  rw [exec_Assign_Name_used _ _ _ _ hsw]
  refine wpAny_bind (wpAny_standAt (wpAny_bind ?_))
  show wpAny X.M A (do let _ ← comprehension (.ListComp elt [⟨target, iter, ifs, 0⟩] scope pos) scope env _ (newList []) false (eval iter env) (some (assign (.Name y py) env))) _ _ s
  refine wpAny_bind (wpM (wpAny_comprehension_free (use := some (assign (.Name y py) env)) (Q := fun _ s' => PostF X P F env Q .next s') rfl hs hclos Cp.kind hnames (wpM (h A ok P F s R E) fun x s1 h1 => wpM h1 ?_)) fun _ s' hq => wpAny_pure (wpAny_pure hq))
  rintro it s2 ⟨P2, I, items, W, St, σ2, rfl, p2, IT, st2, Fr2, R2, E2, hsz, hL⟩
  refine comp_core (RR := fun acc C => compPost X.M A NoE (some (assign (.Name y py) env)) (fun _ s' => PostF X P F env Q .next s') acc C) ok Cp hcell hifs IT hsz st2 Fr2 R2 E2 hL ?_
  intro C D i acc P3 σ3 s3 hCD S hQ
  obtain ⟨cm, hcm⟩ := S.ns
  show wpAny X.M A (assign (.Name y py) env (.ref D)) _ _ _
  obtain ⟨P5, p5, v5, R5, E5, n5⟩ := comp_frozen S (Heap.SameBut.refl C s3.heap) hCD
  have fC := S.free C (.inr (.inl rfl))
  have R5' := liftS (S := fun b => b = C) R5 fun a ha => ha ▸ ⟨n5, fC.2.2.1⟩
  have E5' := withS_env (S := fun b => b = C) (h := s3.heap) E5 fun a ha => ha ▸ fC.2.2.2
  refine PySem.wpAny_assign_Name (wpM (store_rule hb R5' E5' v5) ?_)
  rintro _ s6 ⟨R6, E6⟩
  obtain ⟨R7, k7⟩ := unliftS R6 fun a ha => ha ▸ fC.2.1
  have E7 := unS_env E6 fun a ha => ha ▸ fC.2.1
  refine ⟨cm, hcm.at' fun o e => (k7 C o rfl e).1, fun h8 hs8 => ?_⟩
  refine ⟨P5, .next, _, σ3, stays_trans p2 (stays_trans S.p p5), .next, R7.but (W := fun b => b = C) (tk := s6.toks) (fun b e => e ▸ ⟨n5, fC.2.1, fC.2.2.1⟩) fun b o hb e => hs8.extBut b o hb e, E7.but (W := fun b => b = C) (fun b e => e ▸ fC.2.2.2) fun b o hb e => hs8.extBut b o hb e, hQ⟩
end
end Mine
set_option maxRecDepth 10000
namespace Mine
open PySem PySem.W PyProof.Rows

section
variable {X : Cx} {P P' : Heap} {F : Addr → Option Obj} {σ σ' : Led} {s s' : Shared} {h' : Heap} {W : Addr → Prop} {tk : Nat} {env : Env} {m mc : List (Str × V)} {n : Nat}

/-- a def of the top, as it stands in the written part -/
structure Def (X : Cx) (f : Addr) (fd : FuncData) (body : List Stmt) (ps : List Str) : Prop where
  at_ : ∃ o, X.K.lookup f = some o ∧ o.data = .func fd
  body : fd.body = .stmts body
  code : codeIn X.K fd.code fd.qualname = true
  clo : fd.closure = []
  glob : fd.globals = mainGlobals
  blt : fd.builtins = builtinsNs
  bind : ∀ vals : List Value, vals.length = ps.length → bindArgs fd ⟨vals, []⟩ = pure (ps.zip vals)
  nodup : ps.Nodup
  kinds : ∀ k, ∀ x ∈ ps, fd.scope.names.lookup x = some .local ∨ (fd.scope.names.lookup x = some .cell ∧ ((cellsFrom k fd.scope.names []).lookup x).isSome = true)
  cellNames : ∃ cn : List Str, cn.Nodup ∧ ∀ k, (cellsFrom k fd.scope.names []).map (·.1) = cn
  co : fd.scope.isCoroutine = false
  gen : fd.scope.isGenerator = false
  kind : fd.scope.kind = .function

theorem bindL_none (K : Str → Option NameKind) {x : Str} : ∀ (binds : List (Str × Value)) (m : Str → Option Value), x ∉ binds.map (·.1) → bindL K binds m x = m x
  | [], m, _ => rfl
  | (y, c) :: r, m, h => by
    rw [List.map_cons, List.mem_cons, not_or] at h
    unfold bindL
    rw [bindL_none K r _ h.2]
    split
    · simp [h.1]
    · rfl
theorem bindC_none (K : Str → Option NameKind) {x : Str} : ∀ (binds : List (Str × Value)) (m : Str → Option Value), x ∉ binds.map (·.1) → bindC K binds m x = m x
  | [], m, _ => rfl
  | (y, c) :: r, m, h => by
    rw [List.map_cons, List.mem_cons, not_or] at h
    unfold bindC
    rw [bindC_none K r _ h.2]
    split
    · rfl
    · simp [h.1]
theorem bindL_get (K : Str → Option NameKind) {x : Str} {c : Value} (hk : K x = some .local) : ∀ (binds : List (Str × Value)) (m : Str → Option Value), (binds.map (·.1)).Nodup → (x, c) ∈ binds → bindL K binds m x = some c
  | (y, d) :: r, m, hn, h => by
    rw [List.map_cons, List.nodup_cons] at hn
    unfold bindL
    rcases List.mem_cons.mp h with q | q
    · cases q; rw [bindL_none K r _ hn.1, if_pos hk]; simp
    · exact bindL_get K hk r _ hn.2 q
theorem bindC_get (K : Str → Option NameKind) {x : Str} {c : Value} (hk : K x = some .cell) : ∀ (binds : List (Str × Value)) (m : Str → Option Value), (binds.map (·.1)).Nodup → (x, c) ∈ binds → bindC K binds m x = some c
  | (y, d) :: r, m, hn, h => by
    rw [List.map_cons, List.nodup_cons] at hn
    unfold bindC
    rcases List.mem_cons.mp h with q | q
    · cases q; rw [bindC_none K r _ hn.1, if_neg (by rw [hk]; decide)]; simp
    · exact bindC_get K hk r _ hn.2 q

theorem zip_lookup {w : World} {x : Str} {v : V} {ps : List Str} {vs : List V} {cs : List Value} (h : Paired (fun v c => VRel w P v c) vs cs) : (ps.zip vs).lookup x = some v → ∃ c, (x, c) ∈ ps.zip cs ∧ VRel w P v c ∧ x ∈ ps := by
  induction h generalizing ps with
  | nil => intro h; rw [List.zip_nil_right] at h; cases h
  | @cons u c us cs r rs ih =>
    cases ps with
    | nil => intro h; cases h
    | cons p ps =>
      intro h
      rw [List.zip_cons_cons, List.lookup_cons] at h
      cases q : x == p with
      | true =>
        rw [q] at h; cases h
        rw [beq_iff_eq.mp q]
        exact ⟨c, .head _, r, .head _⟩
      | false =>
        rw [q] at h
        obtain ⟨c', h1, h2, h3⟩ := ih h
        exact ⟨c', .tail _ h1, h2, .tail _ h3⟩
theorem paired_len {α β : Type} {G : α → β → Prop} {l : List α} {r : List β} (h : Paired G l r) : l.length = r.length := by
  induction h with
  | nil => rfl
  | cons _ _ ih => exact congrArg (· + 1) ih

/-- what a call hands back -/
def RetQ (Q : V → Led → Prop) (f : Fl) (m : List (Str × V)) (σ : Led) : Prop := match f with
  | .ret v => Q v σ
  | .next => Q (.d .none) σ
  | _ => False

def Ck (X : Cx) (n : Nat) (f : Value) (vs : List V) (σ : Led) (Q : V → Led → Prop) : Prop :=
  ∀ A, Ok A n → ∀ P F s cs, RelC X P F σ s → Paired (fun v c => VRel X.w P v c) vs cs → codeAny X.M A (.call f ⟨cs, []⟩) (wants (PostO X P F Q) NoE) s
theorem Ck.cl {f : Value} {vs : List V} {Q : V → Led → Prop} (h : Ck X n f vs σ Q) : Cl X n f vs σ Q := fun A ok P F s cs R r => wpAny_call (h A ok P F s cs R r)
theorem Ck_def {f : Addr} {fd : FuncData} {body : List Stmt} {ps : List Str} {vs : List V} {Q : V → Led → Prop} (D : Def X f fd body ps) (hl : vs.length = ps.length) (hn : 1 ≤ n)
    (h : ∀ L, Ex X (n - 1) (callEnvC fd L f) (execs body (callEnvC fd L f)) (ps.zip vs) σ (RetQ Q)) : Ck X n (.ref f) vs σ Q := by
  intro A ok P F s cs R r
  obtain ⟨o, ho, hdat⟩ := D.at_
  have hlen : cs.length = ps.length := (paired_len r).symm.trans hl
  refine codeAny_call_cells (binds := ps.zip cs) (body := body) ok.room (R.KIn _ _ ho) hdat R.nolimit (codeRec_of R.KIn D.code) D.body (D.bind cs hlen) D.clo ?_ ?_ D.co D.gen D.kind
  · intro x hx
    exact D.kinds _ x.1 (List.of_mem_zip hx).1
  intro s1 x1
  have ok' : Ok (A.deeper (callEnvC fd s.heap.objs.size f)) (n - 1) := Ok.deeper ((show n = n - 1 + 1 by omega) ▸ ok)
  generalize hE : callEnvC fd s.heap.objs.size f = env at x1 ok' ⊢
  have hcells : env.cells = cellsFrom (s.heap.objs.size + 1) fd.scope.names [] := by rw [← hE]; rfl
  have hloc : env.locals = s.heap.objs.size := by rw [← hE]; rfl
  have hnames : env.scope = fd.scope := by rw [← hE]; rfl
  obtain ⟨h1, tk1, rfl⟩ := x1.toInCall.same
  have hk : s.heap.StaysIn h1 := x1.toInCall.keep
  have above : ∀ a, Own env a → s.heap.objs.size ≤ a := fun a ha => by
    rcases ha with ha | ha
    · rw [ha, hloc]; exact Nat.le_refl _
    · obtain ⟨p, hp, rfl⟩ := List.mem_map.mp ha
      have h2 := x1.above p.1 p.2 hp
      rw [hloc] at h2
      exact Nat.le_of_lt h2
  have hnew : ∀ a, Own env a → s.heap.get? a = none := fun a ha => size_none _ (above a ha)
  have R1 : RelC X (nextP P s.heap h1 (Own env)) F σ { s with heap := h1, toks := tk1 } := R.move (fun b o _ e => hk b o e) (fun b hb => let z := R.fresh (hnew b hb); ⟨z.1, z.2.1⟩)
    fun a o e => .inl ⟨fun w => (by have := (R.fresh (hnew a w)).2.2; rw [this] at e; cases e), e⟩
  have p1 : P.StaysIn (nextP P s.heap h1 (Own env)) := R.stays_next (fun b o _ e => hk b o e) fun b hb => (R.fresh (hnew b hb)).1
  obtain ⟨cn, hcn, hcn'⟩ := D.cellNames
  have hzn : ((ps.zip cs).map (·.1)).Nodup := by
    have : (ps.zip cs).map (·.1) = ps := List.map_fst_zip (by omega)
    rw [this]; exact D.nodup
  have E1 : EnvIs X (nextP P s.heap h1 (Own env)) F σ env (ps.zip vs) h1 := by
    refine ⟨by rw [hnames]; exact D.kind, by rw [← hE]; exact D.glob, by rw [← hE]; exact D.blt, ⟨_, x1.toInCall.ns, fun x v h1 h2 => ?_⟩, fun x v h1 h2 => ?_, fun x v h1 => ?_, fun p hp => ?_, fun a ha => ?_, ?_⟩
    · obtain ⟨c, h3, h4, _⟩ := zip_lookup r h1
      exact ⟨c, bindL_get _ h2 _ _ hzn h3, h4.keeps p1⟩
    · obtain ⟨c, h3, h4, h5⟩ := zip_lookup r h1
      have h2' : fd.scope.names.lookup x = some .cell := by have := h2; unfold Env.kindOf at this; rw [hnames] at this; exact this
      have h6 : (env.cells.lookup x).isSome = true := by
        rcases D.kinds (s.heap.objs.size + 1) x h5 with q | q
        · rw [q] at h2'; cases h2'
        · rw [hcells]; exact q.2
      obtain ⟨a, ha⟩ := Option.isSome_iff_exists.mp h6
      have := x1.cell x a ha
      rw [bindC_get _ h2 _ _ hzn h3] at this
      exact ⟨a, c, ha, this, h4.keeps p1⟩
    · obtain ⟨c, h3, h4, h5⟩ := zip_lookup r h1
      unfold Env.kindOf
      rw [hnames]
      exact (D.kinds 0 x h5).imp id fun q => q.1
    · have := x1.cell p.1 p.2 (mem_lookup (by rw [hcells, hcn']; exact hcn) hp)
      exact ⟨_, this⟩
    · have z := R.fresh (hnew a ha)
      exact ⟨nextP_none z.1 (.inr ha), z.2⟩
    · rw [List.nodup_cons]
      refine ⟨fun hm => ?_, List.pairwise_map.mpr x1.apart⟩
      obtain ⟨p, hp, e⟩ := List.mem_map.mp hm
      have := x1.above p.1 p.2 hp
      rw [e] at this; exact Nat.lt_irrefl _ this
  have hx := h s.heap.objs.size
  rw [hE] at hx
  refine wpE (hx _ ok' _ _ _ R1 E1) ?_
  rintro fl s2 ⟨P2, f2, m2, σ2, p2, f2r, R2, E2, hq⟩
  cases f2r with
  | next => exact ⟨P2, _, σ2, stays_trans p1 p2, .d .none, R2, hq⟩
  | brk => exact hq.elim
  | cont => exact hq.elim
  | ret rr => exact ⟨P2, _, σ2, stays_trans p1 p2, rr, R2, hq⟩
theorem Cl_def {f : Addr} {fd : FuncData} {body : List Stmt} {ps : List Str} {vs : List V} {Q : V → Led → Prop} (D : Def X f fd body ps) (hl : vs.length = ps.length) (hn : 1 ≤ n)
    (h : ∀ L, Ex X (n - 1) (callEnvC fd L f) (execs body (callEnvC fd L f)) (ps.zip vs) σ (RetQ Q)) : Cl X n (.ref f) vs σ Q := (Ck_def D hl hn h).cl
end
end Mine
set_option maxRecDepth 10000
namespace Mine
open PySem PySem.W PyProof.Rows

section
variable {X : Cx} {P P' : Heap} {F : Addr → Option Obj} {σ σ' : Led} {s s' : Shared} {h' : Heap} {W : Addr → Prop} {tk : Nat} {env : Env} {m mc : List (Str × V)} {n : Nat} {Q : V → Led → Prop}

theorem vint {w : World} {i : Int} {c : Value} (r : VRel w P (.d (.int i)) c) : ∃ t, c = .int i t := by cases r with | d r => cases r with | int i t => exact ⟨t, rfl⟩
theorem vstr {w : World} {x : Str} {c : Value} (r : VRel w P (.d (.str x)) c) : ∃ t, c = .str x t := by cases r with | d r => cases r with | str i t => exact ⟨t, rfl⟩
theorem vbool {w : World} {b : Bool} {c : Value} (r : VRel w P (.d (.bool b)) c) : c = .bool b := by cases r with | d r => cases r; rfl
theorem vnone {w : World} {c : Value} (r : VRel w P (.d .none) c) : c = .none := by cases r with | d r => cases r; rfl
theorem vlist {w : World} {ds : List PyData} {c : Value} (r : VRel w P (.d (.list ds)) c) : ∃ a cls dd vs k sl as, c = .ref a ∧ P.get? a = some ⟨cls, dd, .seq vs k, sl⟩ ∧ cls = .type "list" ∧ ReadsAll P vs.toList ds as := by
  cases r with | d r => cases r with | @list a o vs k xs bs e1 e2 e3 e4 =>
    obtain ⟨cls, dd, data, sl⟩ := o
    dsimp only at e2 e3; subst e3
    exact ⟨a, cls, dd, vs, k, sl, _, rfl, e1, e2, e4⟩
theorem vtuple {w : World} {ds : List PyData} {c : Value} (r : VRel w P (.d (.tuple ds)) c) : ∃ a cls dd vs k sl as, c = .ref a ∧ P.get? a = some ⟨cls, dd, .seq vs k, sl⟩ ∧ cls = .type "tuple" ∧ ReadsAll P vs.toList ds as := by
  cases r with | d r => cases r with | @tuple a o vs k xs bs e1 e2 e3 e4 =>
    obtain ⟨cls, dd, data, sl⟩ := o
    dsimp only at e2 e3; subst e3
    exact ⟨a, cls, dd, vs, k, sl, _, rfl, e1, e2, e4⟩
theorem readsAll_size {vs : Array Value} {ds : List PyData} {as : List Addr} (h : ReadsAll P vs.toList ds as) : vs.size = ds.length := by simpa using readsAll_len h

/-! ints -/
theorem op_add {a b : Int} (h : Q (.d (.int (a + b))) σ) : Op2 X n (binaryOp .Add) (.d (.int a)) (.d (.int b)) σ Q := fun A ok P F s c1 c2 R r1 r2 => by
  obtain ⟨t, rfl⟩ := vint r1; obtain ⟨u, rfl⟩ := vint r2
  exact PyProof.Rows.add_int (PostO.intro R.toks (.d (.int _ _)) h)
theorem op_sub {a b : Int} (h : Q (.d (.int (a - b))) σ) : Op2 X n (binaryOp .Sub) (.d (.int a)) (.d (.int b)) σ Q := fun A ok P F s c1 c2 R r1 r2 => by
  obtain ⟨t, rfl⟩ := vint r1; obtain ⟨u, rfl⟩ := vint r2
  exact PyProof.Rows.sub_int (PostO.intro R.toks (.d (.int _ _)) h)
theorem op_mul {a b : Int} (h : Q (.d (.int (a * b))) σ) (hm : (-(2 ^ 62) ≤ a ∧ a ≤ 2 ^ 62) ∨ (-(2 ^ 62) ≤ b ∧ b ≤ 2 ^ 62)) : Op2 X n (binaryOp .Mult) (.d (.int a)) (.d (.int b)) σ Q := fun A ok P F s c1 c2 R r1 r2 => by
  obtain ⟨t, rfl⟩ := vint r1; obtain ⟨u, rfl⟩ := vint r2
  refine PyProof.Rows.mul_int (PostO.intro R.toks (.d (.int _ _)) h) ?_
  rcases hm with hm | hm
  · exact PySem.IntMulOk.of_left (PySem.intBits_le_64 (by omega) (by omega))
  · exact PySem.IntMulOk.of_right (PySem.intBits_le_64 (by omega) (by omega))
theorem op_mod {a b : Int} (hb : b ≠ 0) (h : Q (.d (.int (a.fmod b))) σ) : Op2 X n (binaryOp .Mod) (.d (.int a)) (.d (.int b)) σ Q := fun A ok P F s c1 c2 R r1 r2 => by
  obtain ⟨t, rfl⟩ := vint r1; obtain ⟨u, rfl⟩ := vint r2
  exact PyProof.Rows.mod_int hb (PostO.intro R.toks (.d (.int _ _)) h)
theorem op_neg {a : Int} (h : Q (.d (.int (-a))) σ) : Op1 X n (unaryOp .USub) (.d (.int a)) σ Q := fun A ok P F s c1 R r1 => by
  obtain ⟨t, rfl⟩ := vint r1
  exact PyProof.Rows.neg_int (PostO.intro R.toks (.d (.int _ _)) h)
theorem op_not {b : Bool} (h : Q (.d (.bool (!b))) σ) : Op1 X n (unaryOp .Not) (.d (.bool b)) σ Q := fun A ok P F s c1 R r1 => by
  have := vbool r1; subst this
  exact not_of (wpAny_truthy_bool (PostO.intro R (.d (.bool _)) h))
theorem op_lt {a b : Int} (h : Q (.d (.bool (decide (a < b)))) σ) : Op2 X n (compareOp .Lt) (.d (.int a)) (.d (.int b)) σ Q := fun A ok P F s c1 c2 R r1 r2 => by
  obtain ⟨t, rfl⟩ := vint r1; obtain ⟨u, rfl⟩ := vint r2
  exact PyProof.Rows.lt_int (PostO.intro R (.d (.bool _)) h)
theorem op_le {a b : Int} (h : Q (.d (.bool (decide (a ≤ b)))) σ) : Op2 X n (compareOp .LtE) (.d (.int a)) (.d (.int b)) σ Q := fun A ok P F s c1 c2 R r1 r2 => by
  obtain ⟨t, rfl⟩ := vint r1; obtain ⟨u, rfl⟩ := vint r2
  exact PyProof.Rows.le_int (PostO.intro R (.d (.bool _)) h)
theorem op_gt {a b : Int} (h : Q (.d (.bool (decide (b < a)))) σ) : Op2 X n (compareOp .Gt) (.d (.int a)) (.d (.int b)) σ Q := fun A ok P F s c1 c2 R r1 r2 => by
  obtain ⟨t, rfl⟩ := vint r1; obtain ⟨u, rfl⟩ := vint r2
  exact PyProof.Rows.gt_int (PostO.intro R (.d (.bool _)) h)

/-! data compared -/
theorem op_eq {a b : PyData} (ha : a.canLay0 = true) (hb : b.canLay0 = true) (hd : a.depth ≤ 64) (h : Q (.d (.bool (PyData.eqv a b))) σ) : Op2 X n (compareOp .Eq) (.d a) (.d b) σ Q := fun A ok P F s c1 c2 R r1 r2 => by
  cases r1 with | d r1 => cases r2 with | d r2 =>
    exact PySem.SeqAt.compareEq_reads (Reads.keeps R.stays r1).lib (Reads.keeps R.stays r2).lib ha hb (by have := ok.line64; omega) (PostO.intro R (.d (.bool _)) h)
theorem op_ne {a b : PyData} (ha : a.canLay0 = true) (hb : b.canLay0 = true) (hd : a.depth ≤ 64) (h : Q (.d (.bool (!PyData.eqv a b))) σ) : Op2 X n (compareOp .NotEq) (.d a) (.d b) σ Q := fun A ok P F s c1 c2 R r1 r2 => by
  cases r1 with | d r1 => cases r2 with | d r2 =>
    exact PySem.SeqAt.compareNe_reads (Reads.keeps R.stays r1).lib (Reads.keeps R.stays r2).lib ha hb (by have := ok.line64; omega) (PostO.intro R (.d (.bool _)) h)
theorem op_notIn {x : PyData} {xs : List PyData} (ha : x.canLay0 = true) (hb : PyData.canLayAll0 xs = true) (hd : x.depth ≤ 64) (h : Q (.d (.bool (!xs.any fun y => PyData.eqv y x))) σ) : Op2 X n (compareOp .NotIn) (.d x) (.d (.list xs)) σ Q := fun A ok P F s c1 c2 R r1 r2 => by
  cases r1 with | d r1 => cases r2 with | d r2 =>
    exact PySem.SeqAt.notIn_list_reads (Reads.keeps R.stays r2).lib (Reads.keeps R.stays r1).lib hb ha (by have := ok.line65; omega) (PostO.intro R (.d (.bool _)) h)

/-! a new frozen object -/
theorem new_data {o : Obj} {v : V} (R : RelC X P F σ s) (hf : o.isFreed = false) (hv : ∀ P2, P.StaysIn P2 → P2.get? s.heap.objs.size = some o → VRel X.w P2 v (.ref s.heap.objs.size)) (h : Q v σ) :
    PostO X P F Q (.ref s.heap.objs.size) { s with heap := s.heap.push o } := by
  have hk : s.heap.StaysIn (s.heap.push o) := fun b o' e => Heap.get?_push_of_some _ e
  obtain ⟨p1, R1⟩ := R.grow hk (tk := s.toks)
  exact ⟨_, v, σ, p1, hv _ p1 (nextP_get_new (size_none _ (Nat.le_refl _)) (fun x => x) (Heap.get?_push_size _ hf)), R1, h⟩
theorem new_tuple {vs : Array Value} {ds : List PyData} {as : List Addr} (R : RelC X P F σ s) (hr : ReadsAll P vs.toList ds as) (h : Q (.d (.tuple ds)) σ) :
    PostO X P F Q (.ref s.heap.objs.size) { s with heap := s.heap.push { cls := .type "tuple", data := .seq vs } } :=
  new_data R rfl (fun P2 p2 hg => .d (.tuple hg rfl rfl (ReadsAll.keeps p2 hr))) h
theorem new_list {vs : Array Value} {ds : List PyData} {as : List Addr} (R : RelC X P F σ s) (hr : ReadsAll P vs.toList ds as) (h : Q (.d (.list ds)) σ) :
    PostO X P F Q (.ref s.heap.objs.size) { s with heap := s.heap.push { cls := .type "list", data := .seq vs } } :=
  new_data R rfl (fun P2 p2 hg => .d (.list hg rfl rfl (ReadsAll.keeps p2 hr))) h

theorem readsAll_append {vs ws : List Value} {ds es : List PyData} {as bs : List Addr} (r : ReadsAll P vs ds as) (h : ReadsAll P ws es bs) : ∃ cs, ReadsAll P (vs ++ ws) (ds ++ es) cs :=
  ReadsAll.ind (M := fun vs ds _ => ∃ cs, ReadsAll P (vs ++ ws) (ds ++ es) cs) ⟨_, h⟩ (fun a _ ih => ih.elim fun _ h => ⟨_, .cons a h⟩) r

theorem op_addL {xs ys : List PyData} (hsz : xs.length + ys.length ≤ sizeLine) (h : Q (.d (.list (xs ++ ys))) σ) : Op2 X n (binaryOp .Add) (.d (.list xs)) (.d (.list ys)) σ Q := fun A ok P F s c1 c2 R r1 r2 => by
  obtain ⟨a, _, dd, vs, k, sl, as, rfl, e1, rfl, q1⟩ := vlist r1
  obtain ⟨b, _, dd2, ws, k2, sl2, bs, rfl, e2, rfl, q2⟩ := vlist r2
  obtain ⟨cs, q3⟩ := readsAll_append q1 q2
  refine concat_meets ⟨_, R.stays _ _ e1, rfl⟩ ⟨_, R.stays _ _ e2, rfl⟩ noFill_list_add seq_list_add PySem.F.slot_list_add PySem.F.entry_list_add (PySem.F.args_list_add_2 _ _)
    (list_addW a b vs ws k k2 dd dd2 sl sl2 (by rw [readsAll_size q1, readsAll_size q2]; exact hsz)) ⟨R.stays _ _ e1, R.stays _ _ e2, ?_⟩
  exact new_list R (by rw [Array.toList_append]; exact q3) h
theorem op_addT {xs ys : List PyData} (hsz : xs.length + ys.length ≤ sizeLine) (h : Q (.d (.tuple (xs ++ ys))) σ) : Op2 X n (binaryOp .Add) (.d (.tuple xs)) (.d (.tuple ys)) σ Q := fun A ok P F s c1 c2 R r1 r2 => by
  obtain ⟨a, _, dd, vs, k, sl, as, rfl, e1, rfl, q1⟩ := vtuple r1
  obtain ⟨b, _, dd2, ws, k2, sl2, bs, rfl, e2, rfl, q2⟩ := vtuple r2
  obtain ⟨cs, q3⟩ := readsAll_append q1 q2
  have l1 := readsAll_size q1
  have l2 := readsAll_size q2
  by_cases hv : vs.isEmpty = true
  · refine concat_meets ⟨_, R.stays _ _ e1, rfl⟩ ⟨_, R.stays _ _ e2, rfl⟩ noFill_tuple_add seq_tuple_add PySem.F.slot_tuple_add PySem.F.entry_tuple_add (PySem.F.args_tuple_add_2 _ _)
      (tuple_addW0 a b vs ws k k2 dd dd2 sl sl2 hv) ⟨R.stays _ _ e1, R.stays _ _ e2, ?_⟩
    have : xs = [] := List.length_eq_zero_iff.mp (by rw [← l1]; simpa using hv)
    subst this
    exact PostO.intro R r2 h
  · by_cases hw : ws.isEmpty = true
    · refine concat_meets ⟨_, R.stays _ _ e1, rfl⟩ ⟨_, R.stays _ _ e2, rfl⟩ noFill_tuple_add seq_tuple_add PySem.F.slot_tuple_add PySem.F.entry_tuple_add (PySem.F.args_tuple_add_2 _ _)
        (tuple_addW1 a b vs ws k k2 dd dd2 sl sl2 hv hw) ⟨R.stays _ _ e1, R.stays _ _ e2, ?_⟩
      have : ys = [] := List.length_eq_zero_iff.mp (by rw [← l2]; simpa using hw)
      subst this
      rw [List.append_nil] at h
      exact PostO.intro R r1 h
    · refine concat_meets ⟨_, R.stays _ _ e1, rfl⟩ ⟨_, R.stays _ _ e2, rfl⟩ noFill_tuple_add seq_tuple_add PySem.F.slot_tuple_add PySem.F.entry_tuple_add (PySem.F.args_tuple_add_2 _ _)
        (tuple_addW2 a b vs ws k k2 dd dd2 sl sl2 hv hw (by rw [l1, l2]; exact hsz)) ⟨R.stays _ _ e1, R.stays _ _ e2, ?_⟩
      exact new_tuple R (by rw [Array.toList_append]; exact q3) h

/-! displays -/
theorem paired_data {w : World} {ds : List PyData} {cs : List Value} (h : Paired (fun v c => VRel w P v c) (ds.map V.d) cs) : ∃ as, ReadsAll P cs ds as := by
  induction ds generalizing cs with
  | nil => cases h; exact ⟨_, .nil⟩
  | cons d ds ih =>
    cases h with | cons r h =>
    obtain ⟨_, h⟩ := ih h
    cases r with | d r => exact ⟨_, .cons r h⟩

theorem Ev_Tuple {elts : List Expr} {k : Nat} {pos : Pos} (hp : plainArgs elts = true) (h : EvL X n env elts m σ fun vs σ1 => ∃ ds, vs = ds.map V.d ∧ ds.length ≤ sizeLine ∧ Q (.d (.tuple ds)) σ1) : Ev X n env (eval (.Tuple elts k pos) env) m σ Q := by
  intro A ok P F s R E
  refine wpAny_Tuple (wpM (EvL_run ok hp h R E) ?_)
  rintro cs s1 ⟨P1, vs, σ1, p1, r1, R1, E1, ds, rfl, hl, hq⟩
  obtain ⟨as, r2⟩ := paired_data r1
  refine ⟨by rw [readsAll_len r2]; exact hl, ?_⟩
  obtain ⟨P2, v, σ2, p2, v2, R2, q2⟩ := new_tuple (Q := Q) (vs := cs.toArray) (lift R1 E1) (by simpa using r2) hq
  obtain ⟨R3, E3⟩ := unlift R1 E1 R2 p2
  exact ⟨P2, v, σ2, stays_trans p1 p2, v2, R3, E3, q2⟩
theorem Ev_List {elts : List Expr} {pos : Pos} (hp : plainArgs elts = true) (h : EvL X n env elts m σ fun vs σ1 => ∃ ds, vs = ds.map V.d ∧ ds.length ≤ sizeLine ∧ Q (.d (.list ds)) σ1) : Ev X n env (eval (.List elts pos) env) m σ Q := by
  intro A ok P F s R E
  refine wpAny_List (wpM (EvL_run ok hp h R E) ?_)
  rintro cs s1 ⟨P1, vs, σ1, p1, r1, R1, E1, ds, rfl, hl, hq⟩
  obtain ⟨as, r2⟩ := paired_data r1
  refine ⟨by rw [readsAll_len r2]; exact hl, ?_⟩
  obtain ⟨P2, v, σ2, p2, v2, R2, q2⟩ := new_list (Q := Q) (vs := cs.toArray) (lift R1 E1) (by simpa using r2) hq
  obtain ⟨R3, E3⟩ := unlift R1 E1 R2 p2
  exact ⟨P2, v, σ2, stays_trans p1 p2, v2, R3, E3, q2⟩
/-- a list that will be changed -/
theorem Ev_ListM {elts : List Expr} {pos : Pos} (hp : plainArgs elts = true) (h : EvL X n env elts m σ fun vs σ1 => ∃ ds, vs = ds.map V.d ∧ ds.length ≤ sizeLine ∧ ∀ a, σ1 a = none → Q (.c (.ref a)) (σ1.set a (.lst ds))) : Ev X n env (eval (.List elts pos) env) m σ Q := by
  intro A ok P F s R E
  refine wpAny_List (wpM (EvL_run ok hp h R E) ?_)
  rintro cs s1 ⟨P1, vs, σ1, p1, r1, R1, E1, ds, rfl, hl, hq⟩
  obtain ⟨as, r2⟩ := paired_data r1
  refine ⟨by rw [readsAll_len r2]; exact hl, ?_⟩
  have hnew : s1.heap.get? s1.heap.objs.size = none := size_none _ (Nat.le_refl _)
  have fr := R1.fresh hnew
  have Fr := new_free (W := fun b => b = s1.heap.objs.size) R1 E1 fun a ha => ha ▸ hnew
  have hk : ∀ b o, ¬ b = s1.heap.objs.size → s1.heap.get? b = some o → (s1.heap.push { cls := .type "list", data := .seq cs.toArray }).get? b = some o := fun b o _ e => Heap.get?_push_of_some _ e
  have p2 := R1.stays_next hk fun b hb => (Fr b hb).1
  obtain ⟨_, E2, _, _⟩ := Fr.step R1 E1 hk s1.toks
  have R2 : RelC X (nextP P1 s1.heap (s1.heap.push { cls := .type "list", data := .seq cs.toArray }) fun b => b = s1.heap.objs.size) F (σ1.set s1.heap.objs.size (.lst ds)) { s1 with heap := s1.heap.push { cls := .type "list", data := .seq cs.toArray } } := by
    refine R1.move (tk := s1.toks) hk (fun b hb => ⟨(Fr b hb).1, (Fr b hb).2.1⟩) fun a o e => ?_
    by_cases q : a = s1.heap.objs.size
    · subst q
      rw [Led.set_self] at e; cases e
      exact .inr ⟨rfl, cs.toArray, 0, as, Heap.get?_push_size _ rfl, ReadsAll.keeps p2 (by simpa using r2)⟩
    · rw [Led.set_ne _ _ q] at e; exact .inl ⟨q, e⟩
  refine ⟨_, _, _, stays_trans p1 p2, .c _, R2, ?_, hq _ fr.2.2⟩
  exact ⟨E2.kind, E2.glob, E2.blt, E2.ns, E2.cells, E2.kinds, E2.cellObj, fun a ha => ⟨(E2.apart a ha).1, (E2.apart a ha).2.1, by
    rw [Led.set_ne]; exact (E2.apart a ha).2.2
    exact fun q => (Fr a q).2.2.2 ha⟩, E2.dist⟩
end
end Mine
set_option maxRecDepth 10000
namespace Mine
open PySem PySem.W PyProof.Rows

section
variable {prog : Program} {w : World} {A : Around} {E : Value → Shared → Prop} {s : Shared}

theorem getT_upto {t sl : Addr} {items : Array Value} {b : Nat} {u : Tok} {Q : Value → Shared → Prop} (ht : IsTup s.heap t items) (hs : s.heap.IsSliceOf sl .none (.int b u) .none) (hb : b ≤ items.size)
    (h0 : b = items.size → Q (.ref t) s)
    (h1 : b ≠ items.size → Q (.ref s.heap.objs.size) { s with heap := s.heap.push { cls := .type "tuple", data := .seq (items.toList.take b).toArray } })
    (hsz : items.size ≤ sizeLine) : wpAny (model prog w) A (getItem (.ref t) (.ref sl)) Q E s := by
  have htake : sizeOk (.seq (items.toList.take b).toArray) := by
    show (items.toList.take b).toArray.size ≤ sizeLine
    rw [List.size_toArray, List.length_take, Array.length_toList]
    omega
  obtain ⟨os, hos, hcs, hds⟩ := id hs
  have hTs : s.TypeIs (.ref sl) "slice" := ⟨os, hos, hcs⟩
  have happ : ∀ {Q : Int × Int × Nat → Shared → Prop} {E : Value → Shared → Prop} {A : Around}, Q (0, 1, b) s → wpAny (model prog w) A (Builtin.Slice.sliceApplied (.ref sl) (pure (items.size : Int))) Q E s := by
    intro Q E A hq
    unfold Builtin.Slice.sliceApplied Builtin.Slice.sliceFields
    refine wpAny_bind (wpAny_bind (wpAny_field hos hds (x := .none) rfl (wpAny_bind (wpAny_field hos hds (x := .int b u) rfl (wpAny_bind (wpAny_field hos hds (x := .none) rfl (wpAny_pure ?_)))))))
    refine wpAny_bind (slicePart_none ?_)
    show wpAny _ _ (if ((1 : Int) == 0) = true then _ else _) _ _ s
    rw [if_neg (by decide)]
    refine wpAny_bind (slicePart_none (wpAny_bind (slicePart_int (wpAny_bind (wpAny_pure ?_)))))
    show wpAny _ _ (match Builtin.Slice.sliceAdjust none (some (b : Int)) 1 (items.size : Int) with | (lo, hi) => pure (lo, (1 : Int), Builtin.Slice.slicePlaces lo hi 1)) _ _ s
    have e1 : Builtin.Slice.sliceAdjust none (some (b : Int)) 1 (items.size : Int) = (0, (b : Int)) := by
      unfold Builtin.Slice.sliceAdjust
      have h1 : ¬ ((1 : Int) < 0) := by omega
      have h2 : ¬ ((b : Int) < 0) := by omega
      simp only [h1, h2, if_false]
      congr 1
      omega
    have e2 : Builtin.Slice.slicePlaces 0 (b : Int) 1 = b := by
      unfold Builtin.Slice.slicePlaces
      have h1 : (1 : Int) > 0 := by omega
      simp only [h1, if_true, Int.ediv_one]
      split <;> omega
    rw [e1]
    show wpAny _ _ (pure ((0 : Int), (1 : Int), Builtin.Slice.slicePlaces 0 (b : Int) 1)) _ _ s
    rw [e2]
    exact wpAny_pure hq
  unfold getItem
  try with_reducible refine wpAny_holding ?_
  first | refine wpAny_bind (wpAny_pure ?_) | skip
  refine wpAny_bind (wpAny_sequenceKey ht.typeIs (by decide) ?_)
  refine wpAny_bind (wpAny_callSpecial?_slot (name := Str.ofString "__getitem__") ht.typeIs slot_tuple_getitem
    (wpAny_call_entry slot_tuple_getitem ht.typeIs entry_tuple_getitem ?_ (args_tuple_getitem _ _)))
  show wpAny _ _ (Builtin.Tuple.tupleItemsOf (.ref t) >>= _) _ _ s
  refine wpAny_bind (tupleItemsOf_ ht ?_)
  refine wpAny_bind (wpAny_typeOf hTs ?_)
  rw [if_pos (by decide)]
  refine wpAny_bind (happ ?_)
  show wpAny _ _ (if ((0 : Int) == 0 && (1 : Int) == 1 && b == items.size) = true then _ else _) _ _ s
  by_cases hbs : b = items.size
  · rw [if_pos (by simp [hbs])]
    refine wpAny_bind (m := Builtin.Tuple.tupleIsExact (.ref t)) ?_
    obtain ⟨o, ho, hc, _⟩ := id ht
    have hex : Builtin.Tuple.tupleIsExact (.ref t) = (do return (← typeOf (.ref t)) == .type "tuple") := rfl
    rw [hex]
    refine wpAny_bind (wpAny_typeOf ht.typeIs (wpAny_pure ?_))
    rw [if_pos (by simp)]
    exact wpAny_bind (wpAny_rule (wpAny_pure ⟨_, rfl, wpAny_pure (h0 hbs)⟩))
  · rw [if_neg (by simp [hbs])]
    have e : ((List.range b).filterMap fun (k : Nat) => items[((0 : Int) + (k : Int) * 1).toNat]?).toArray = (items.toList.take b).toArray := by
      have e1 : (fun (k : Nat) => items[((0 : Int) + (k : Int) * 1).toNat]?) = fun k => items[0 + k]? := by
        funext k
        have : ((0 : Int) + (k : Int) * 1).toNat = 0 + k := by omega
        rw [this]
      rw [e1]
      have := pick_run items 0 b
      rw [List.filterMap_map] at this
      have e2 : ((fun x => items[x]?) ∘ fun x => 0 + x) = fun k => items[0 + k]? := rfl
      rw [e2] at this
      rw [this, List.drop_zero]
    rw [e]
    first
      | exact wpAny_bind (m := Builtin.Tuple.tupleExact _) (wpAny_newObj_type (wpAny_pure ⟨_, rfl, wpAny_pure (h1 hbs)⟩) htake)
      | exact wpAny_bind (m := Builtin.Tuple.tupleExact _) (wpAny_newObj_type (wpAny_bind (wpAny_pure (wpAny_pure ⟨_, rfl, wpAny_pure (h1 hbs)⟩))) htake)
      | exact wpAny_bind (wpAny_bind (m := Builtin.Tuple.tupleExact _) (wpAny_newObj_type (wpAny_pure (wpAny_pure ⟨_, rfl, wpAny_pure (h1 hbs)⟩)) htake))
      | exact wpAny_bind (wpAny_bind (m := Builtin.Tuple.tupleExact _) (wpAny_newObj_type (wpAny_pure ⟨_, rfl, wpAny_pure (h1 hbs)⟩) htake))
end

section
variable {X : Cx} {P P' : Heap} {F : Addr → Option Obj} {σ σ' : Led} {s s' : Shared} {h' : Heap} {W : Addr → Prop} {tk : Nat} {env : Env} {m mc : List (Str × V)} {n : Nat} {Q : V → Led → Prop}

/-- what an item is read from: its type's own reader -/
def Gets (X : Cx) (P : Heap) (s : Shared) (c : Value) : Prop := ∃ T id, s.TypeIs c T ∧ typeLookup (.type T) "__getitem__" = pure (some (.builtin id))
/-- an item -/
def Gi (X : Cx) (n : Nat) (v i : V) (σ : Led) (Q : V → Led → Prop) : Prop :=
  ∀ A, Ok A n → ∀ P F s c ci, RelC X P F σ s → VRel X.w P v c → VRel X.w P i ci → Gets X P s c ∧ wpAny X.M A (getItem c ci) (PostO X P F Q) NoE s
theorem Ev_Item {value slice : Expr} {pos : Pos} (h : Ev X n env (eval value env) m σ fun v σ1 => Ev X n env (eval slice env) m σ1 fun i σ2 => Gi X n v i σ2 Q)
    (hs : ∀ o i, subscripted slice false o i = operate [o, i] (getItem o i) := by intro _ _; rfl) : Ev X n env (eval (.Subscript value slice pos) env) m σ Q := by
  intro A ok P F s R E
  refine Subscript_ (wpM (h A ok P F s R E) ?_)
  rintro c s1 ⟨P1, v, σ1, p1, r1, R1, E1, h1⟩
  refine wpM (h1 A ok P1 F s1 R1 E1) ?_
  rintro ci s2 ⟨P2, i, σ2, p2, r2, R2, E2, h2⟩
  obtain ⟨⟨T, id, hT, hl⟩, h3⟩ := h2 A ok P2 _ s2 c ci (lift R2 E2) (r1.keeps p2) r2
  exact wpM (tail_any hT hl (inEnv R2 E2 h3) (hs c ci)) fun _ _ => PostV.up (stays_trans p1 p2)

theorem gi_tuple {ds : List PyData} {i : Int} {j : Nat} {d : PyData} (hj : seqIndex? i ds.length = some j) (hd : ds[j]? = some d) (hi : -(2 ^ 63) ≤ i ∧ i < 2 ^ 63) (h : Q (.d d) σ) : Gi X n (.d (.tuple ds)) (.d (.int i)) σ Q := by
  intro A ok P F s c ci R r1 r2
  obtain ⟨a, _, dd, vs, k, sl, as, rfl, e1, rfl, q1⟩ := vtuple r1
  obtain ⟨u, rfl⟩ := vint r2
  have ht : IsTup s.heap a vs := ⟨_, R.stays _ _ e1, rfl, k, rfl⟩
  obtain ⟨c, bs, hc, hr⟩ := reads_data q1 j d hd
  refine ⟨⟨"tuple", _, ht.typeIs, slot_tuple_getitem.lookup⟩, PyProof.Rows.getItem_tuple (j := j) (x := c) ht hi.1 hi.2 (by rw [readsAll_size q1]; exact hj) (by simpa using hc) (PostO.intro R (.d hr) h)⟩
theorem gi_list {ds : List PyData} {i : Nat} {d : PyData} (hd : ds[i]? = some d) (hi : (i : Int) < 2 ^ 63) (h : Q (.d d) σ) : Gi X n (.d (.list ds)) (.d (.int i)) σ Q := by
  intro A ok P F s c ci R r1 r2
  obtain ⟨a, _, dd, vs, k, sl, as, rfl, e1, rfl, q1⟩ := vlist r1
  obtain ⟨u, rfl⟩ := vint r2
  have ht : s.heap.IsList a vs := ⟨_, R.stays _ _ e1, rfl, k, rfl⟩
  obtain ⟨c, bs, hc, hr⟩ := reads_data q1 i d hd
  exact ⟨⟨"list", _, ht.typeIs, list_getitem_lookup⟩, wpAny_getItem_list ht (by omega) hi (x := c) (by simpa using hc) (PostO.intro R (.d hr) h)⟩
theorem gi_listN {ds : List PyData} {i : Nat} {k : Int} {d : PyData} (hk : k < 0) (hi : k + (ds.length : Int) = i) (hd : ds[i]? = some d) (hl : -(2 ^ 63) ≤ k) (h : Q (.d d) σ) : Gi X n (.d (.list ds)) (.d (.int k)) σ Q := by
  intro A ok P F s c ci R r1 r2
  obtain ⟨a, _, dd, vs, kk, sl, as, rfl, e1, rfl, q1⟩ := vlist r1
  obtain ⟨u, rfl⟩ := vint r2
  have ht : s.heap.IsList a vs := ⟨_, R.stays _ _ e1, rfl, kk, rfl⟩
  have hz := readsAll_size q1
  obtain ⟨c, bs, hc, hr⟩ := reads_data q1 i d hd
  exact ⟨⟨"list", _, ht.typeIs, list_getitem_lookup⟩, wpAny_getItem_list_neg ht hk (by omega) hl (x := c) (by
    have : (k + (vs.size : Int)).toNat = i := by rw [hz]; omega
    rw [this]; simpa using hc) (PostO.intro R (.d hr) h)⟩
/-- a list that is being changed -/
theorem gi_mutN {l : Addr} {ds : List PyData} {i : Nat} {k : Int} {d : PyData} (hσ : σ l = some (.lst ds)) (hk : k < 0) (hi : k + (ds.length : Int) = i) (hd : ds[i]? = some d) (hl : -(2 ^ 63) ≤ k) (h : Q (.d d) σ) : Gi X n (.c (.ref l)) (.d (.int k)) σ Q := by
  intro A ok P F s c ci R r1 r2
  cases r1
  obtain ⟨u, rfl⟩ := vint r2
  obtain ⟨⟨vs, kk, as, hg, q1⟩, _⟩ := R.own _ _ hσ
  have ht : s.heap.IsList l vs := ⟨_, hg, rfl, kk, rfl⟩
  have hz := readsAll_size q1
  obtain ⟨c, bs, hc, hr⟩ := reads_data q1 i d hd
  exact ⟨⟨"list", _, ht.typeIs, list_getitem_lookup⟩, wpAny_getItem_list_neg ht hk (by omega) hl (x := c) (by
    have : (k + (vs.size : Int)).toNat = i := by rw [hz]; omega
    rw [this]; simpa using hc) (PostO.intro R (.d hr) h)⟩

/-! dicts with text keys -/
theorem ent_find {w : World} {prog : Program} {x : Str} {kvs : List (Str × V)} {es : List DictEntry} (h : EntRel w P kvs es) : (∀ v, kvs.lookup x = some v → ∃ c, findBy Value.isStrOf es.toArray x = some c ∧ VRel w P v c) ∧ (kvs.lookup x = none → findBy Value.isStrOf es.toArray x = none) := by
  refine EntRel.ind (M := fun kvs es => (∀ v, kvs.lookup x = some v → ∃ c, findBy Value.isStrOf es.toArray x = some c ∧ VRel w P v c) ∧ (kvs.lookup x = none → findBy Value.isStrOf es.toArray x = none)) ⟨fun v h => (by cases h), fun _ => rfl⟩ (fun {y t u c r es} h1 h2 ih => ?_) h
  have e : findBy Value.isStrOf (⟨PyData.keyHash w.params y, .str y t, c⟩ :: es).toArray x = if x = y then some c else findBy Value.isStrOf es.toArray x := by
    unfold findBy
    rw [List.find?_toArray, List.find?_cons]
    by_cases q : x = y
    · subst q; simp [Value.isStrOf]
    · have : Value.isStrOf x (.str y t) = false := by simp [Value.isStrOf, Ne.symm q]
      simp only [this, q, if_false]
      rw [List.find?_toArray]
  rw [e, lookup_mset]
  by_cases q : x = y
  · rw [if_pos q, if_pos q]
    exact ⟨fun v h => (by cases h; exact ⟨c, rfl, h1⟩), fun h => (by cases h)⟩
  · rw [if_neg q, if_neg q]; exact ih
theorem ent_keys {w : World} {prog : Program} {kvs : List (Str × V)} {es : List DictEntry} (h : EntRel w P kvs es) : ∀ e ∈ es, ∃ k, (strKind prog w).is k e.key = true ∧ e.hash = (strKind prog w).hash k :=
  EntRel.ind (M := fun _ es => ∀ e ∈ es, ∃ k, (strKind prog w).is k e.key = true ∧ e.hash = (strKind prog w).hash k) (fun _ h => nomatch h) (fun {x t _ _ _ _} _ _ ih e h =>
    (List.mem_cons.mp h).elim (fun q => q ▸ ⟨x, strKind_is prog w x t, rfl⟩) (ih e)) h
theorem ent_map {w : World} {prog : Program} {h : Heap} {a : Addr} {kvs : List (Str × V)} {es : List DictEntry} {k : Nat} (hg : h.get? a = some (dictOf es k)) (he : EntRel w P kvs es) : h.MapOf (strKind prog w) a (fun x => findBy Value.isStrOf es.toArray x) :=
  ⟨_, es.toArray, k, hg, ⟨rfl, rfl, rfl⟩, rfl, fun e he' => ent_keys he e (by simpa using he'), fun _ => rfl⟩

theorem gi_dct {kvs : List (Str × V)} {x : Str} {v : V} (hv : kvs.lookup x = some v) (h : Q v σ) : Gi X n (.dct kvs) (.d (.str x)) σ Q := by
  intro A ok P F s c ci R r1 r2
  obtain ⟨u, rfl⟩ := vstr r2
  cases r1 with | @dct a es k _ hns hg he =>
    have hm := ent_map (prog := X.prog) (R.stays _ _ hg) he
    obtain ⟨c, hc, hr⟩ := (ent_find (prog := X.prog) (x := x) he).1 v hv
    exact ⟨⟨"dict", _, hm.typeIs, slot_dict_getitem.lookup⟩, wpAny_getItem_of (strKind_is X.prog X.w x u) hm hc (PostO.intro R.toks hr h)⟩
theorem gi_mdct {l : Addr} {kvs : List (Str × V)} {x : Str} {v : V} (hσ : σ l = some (.dct kvs)) (hv : kvs.lookup x = some v) (h : Q v σ) : Gi X n (.c (.ref l)) (.d (.str x)) σ Q := by
  intro A ok P F s c ci R r1 r2
  obtain ⟨u, rfl⟩ := vstr r2
  cases r1
  obtain ⟨⟨es, k, hg, he⟩, _⟩ := R.own _ _ hσ
  have hm := ent_map (prog := X.prog) hg he
  obtain ⟨c, hc, hr⟩ := (ent_find (prog := X.prog) (x := x) he).1 v hv
  exact ⟨⟨"dict", _, hm.typeIs, slot_dict_getitem.lookup⟩, wpAny_getItem_of (strKind_is X.prog X.w x u) hm hc (PostO.intro R.toks hr h)⟩
theorem op_notInD {kvs : List (Str × V)} {x : Str} (h : Q (.d (.bool (!(kvs.lookup x).isSome))) σ) : Op2 X n (compareOp .NotIn) (.d (.str x)) (.dct kvs) σ Q := fun A ok P F s c1 c2 R r1 r2 => by
  obtain ⟨u, rfl⟩ := vstr r1
  cases r2 with | @dct a es k _ hns hg he =>
    have hm := ent_map (prog := X.prog) (R.stays _ _ hg) he
    have hf := ent_find (prog := X.prog) (x := x) he
    refine wpAny_notIn_of (strKind_is X.prog X.w x u) ?_ hm (PostO.intro R.toks (.d (.bool _)) ?_)
    · exact beq_eq_false_iff_ne.mpr hns
    · have : (findBy Value.isStrOf es.toArray x).isSome = (kvs.lookup x).isSome := by
        cases q : kvs.lookup x with
        | none => rw [hf.2 q]; rfl
        | some v => obtain ⟨c, hc, _⟩ := hf.1 v q; rw [hc]; rfl
      rw [this]; exact h
end
end Mine
set_option maxRecDepth 10000
namespace Mine
open PySem PySem.W PyProof.Rows

section
variable {X : Cx} {P P' : Heap} {F : Addr → Option Obj} {σ σ' : Led} {s s' : Shared} {h' : Heap} {W : Addr → Prop} {tk : Nat} {env : Env} {m mc : List (Str × V)} {n : Nat} {Q : V → Led → Prop}

/-! ## slices -/
def EvP (X : Cx) (n : Nat) (env : Env) (m : List (Str × V)) : Option Expr → Led → (Option Int → Led → Prop) → Prop
  | none, σ, Q => Q none σ
  | some e, σ, Q => Ev X n env (eval e env) m σ fun v σ1 => ∃ i, v = .d (.int i) ∧ Q (some i) σ1

theorem EvP_run {A : Around} (ok : Ok A n) {o : Option Expr} {Q : Option Int → Led → Prop} (h : EvP X n env m o σ Q) (R : RelC X P F σ s) (E : EnvIs X P F σ env m s.heap) :
    wpAny X.M A (evalPart o env) (fun c s' => ∃ P' i σ', P.StaysIn P' ∧ IsPart c i ∧ RelC X P' F σ' s' ∧ EnvIs X P' F σ' env m s'.heap ∧ Q i σ') NoE s := by
  cases o with
  | none => rw [evalPart_none]; exact wpAny_pure ⟨P, none, σ, stays_refl _, .none, R, E, h⟩
  | some e =>
    rw [evalPart_some]
    refine wpM (h A ok P F s R E) ?_
    rintro c s1 ⟨P1, v, σ1, p1, r1, R1, E1, i, rfl, hq⟩
    obtain ⟨t, rfl⟩ := vint r1
    exact ⟨P1, some i, σ1, p1, .int i t, R1, E1, hq⟩

def Sl (X : Cx) (n : Nat) (v : V) (lo hi st : Option Int) (σ : Led) (Q : V → Led → Prop) : Prop :=
  ∀ A, Ok A n → ∀ P F s c a vl vu vs, RelC X P F σ s → VRel X.w P v c → s.heap.IsSliceOf a vl vu vs → IsPart vl lo → IsPart vu hi → IsPart vs st → Gets X P s c ∧ wpAny X.M A (getItem c (.ref a)) (PostO X P F Q) NoE s

theorem Ev_Slice {value : Expr} {lower upper step : Option Expr} {sp pos : Pos} (h : Ev X n env (eval value env) m σ fun v σ1 => EvP X n env m lower σ1 fun lo σ2 => EvP X n env m upper σ2 fun hi σ3 => EvP X n env m step σ3 fun st σ4 => Sl X n v lo hi st σ4 Q)
    (hs : ∃ f : Value → Value → List Value, ∀ o i, subscripted (.Slice lower upper step sp) false o i = operate (f o i) (getItem o i)) : Ev X n env (eval (.Subscript value (.Slice lower upper step sp) pos) env) m σ Q := by
  obtain ⟨f, hs⟩ := hs
  intro A ok P F s R E
  refine Subscript_ (wpM (h A ok P F s R E) ?_)
  rintro c s1 ⟨P1, v, σ1, p1, r1, R1, E1, h1⟩
  refine wpAny_Slice (wpM (EvP_run ok h1 R1 E1) ?_)
  rintro vl s2 ⟨P2, lo, σ2, p2, pl, R2, E2, h2⟩
  refine wpM (EvP_run ok h2 R2 E2) ?_
  rintro vu s3 ⟨P3, hi, σ3, p3, pu, R3, E3, h3⟩
  refine wpM (EvP_run ok h3 R3 E3) ?_
  rintro vs s4 ⟨P4, st, σ4, p4, ps, R4, E4, h4⟩
  have hk : s4.heap.StaysIn (s4.heap.push { cls := .type "slice", data := .fields #[vl, vu, vs] }) := fun b o e => Heap.get?_push_of_some _ e
  obtain ⟨R5, E5, p5, _⟩ := made (W := fun _ => False) R4 E4 hk (fun _ x => x.elim) s4.toks
  have p : P1.StaysIn _ := stays_trans p2 (stays_trans p3 (stays_trans p4 p5))
  obtain ⟨⟨T, id, hT, hl⟩, hg⟩ := h4 A ok _ _ _ c s4.heap.objs.size vl vu vs (lift R5 E5) (r1.keeps p) (Heap.IsSliceOf.new ..) pl pu ps
  exact wpM (tail_any hT hl (inEnv R5 E5 hg) (hs c _)) fun _ _ => PostV.up (stays_trans p1 p)

theorem readsAll_take {vs : List Value} {ds : List PyData} {as : List Addr} (r : ReadsAll P vs ds as) : ∀ k : Nat, ∃ bs, ReadsAll P (vs.take k) (ds.take k) bs :=
  ReadsAll.ind (M := fun vs ds _ => ∀ k : Nat, ∃ bs, ReadsAll P (vs.take k) (ds.take k) bs) (fun k => ⟨[], by rw [List.take_nil, List.take_nil]; exact .nil⟩) (fun a _ ih k => by cases k with
    | zero => exact ⟨_, .nil⟩
    | succ k => obtain ⟨_, h⟩ := ih k; exact ⟨_, .cons a h⟩) r
theorem readsAll_drop {vs : List Value} {ds : List PyData} {as : List Addr} (r : ReadsAll P vs ds as) : ∀ k : Nat, ∃ bs, ReadsAll P (vs.drop k) (ds.drop k) bs :=
  ReadsAll.ind (M := fun vs ds _ => ∀ k : Nat, ∃ bs, ReadsAll P (vs.drop k) (ds.drop k) bs) (fun k => ⟨[], by rw [List.drop_nil, List.drop_nil]; exact .nil⟩) (fun a r ih k => by cases k with
    | zero => exact ⟨_, .cons a r⟩
    | succ k => exact ih k) r
theorem readsAll_rev {vs : List Value} {ds : List PyData} {as : List Addr} (r : ReadsAll P vs ds as) : ∃ bs, ReadsAll P vs.reverse ds.reverse bs :=
  ReadsAll.ind (M := fun vs ds _ => ∃ bs, ReadsAll P vs.reverse ds.reverse bs) ⟨_, .nil⟩ (fun a _ ih => by
    obtain ⟨_, h⟩ := ih
    rw [List.reverse_cons, List.reverse_cons]
    exact readsAll_snoc a h) r

/-- a list's slice, from what it picks -/
theorem sl_pick {ds es : List PyData} {lo hi st : Option Int} (hsz : ds.length ≤ sizeLine) (h0 : st ≠ some 0)
    (hp : ∀ (P : Heap) (vs : Array Value) as, ReadsAll P vs.toList ds as → ∃ bs, ReadsAll P (slicePick vs lo hi st).toList es bs) (h : Q (.d (.list es)) σ) : Sl X n (.d (.list ds)) lo hi st σ Q := by
  intro A ok P F s c a vl vu vs R r hs pl pu ps
  obtain ⟨l, _, dd, xs, k, sl, as, rfl, e1, rfl, q1⟩ := vlist r
  have ht : s.heap.IsList l xs := ⟨_, R.stays _ _ e1, rfl, k, rfl⟩
  obtain ⟨bs, q2⟩ := hp P xs as q1
  exact ⟨⟨"list", _, ht.typeIs, list_getitem_lookup⟩, wpAny_getItem_list_slice ht hs pl pu ps h0 (new_list R q2 h) (by rw [readsAll_size q1]; exact hsz)⟩
theorem sl_pickM {l : Addr} {ds es : List PyData} {lo hi st : Option Int} (hσ : σ l = some (.lst ds)) (hsz : ds.length ≤ sizeLine) (h0 : st ≠ some 0)
    (hp : ∀ (P : Heap) (vs : Array Value) as, ReadsAll P vs.toList ds as → ∃ bs, ReadsAll P (slicePick vs lo hi st).toList es bs) (h : Q (.d (.list es)) σ) : Sl X n (.c (.ref l)) lo hi st σ Q := by
  intro A ok P F s c a vl vu vs R r hs pl pu ps
  cases r
  obtain ⟨⟨xs, k, as, hg, q1⟩, _⟩ := R.own _ _ hσ
  have ht : s.heap.IsList l xs := ⟨_, hg, rfl, k, rfl⟩
  obtain ⟨bs, q2⟩ := hp P xs as q1
  exact ⟨⟨"list", _, ht.typeIs, list_getitem_lookup⟩, wpAny_getItem_list_slice ht hs pl pu ps h0 (new_list R q2 h) (by rw [readsAll_size q1]; exact hsz)⟩
theorem sl_take {ds : List PyData} {b : Nat} (hsz : ds.length ≤ sizeLine) (h : Q (.d (.list (ds.take b))) σ) : Sl X n (.d (.list ds)) none (some (b : Int)) none σ Q :=
  sl_pick hsz (by simp) (fun P vs as hr => by rw [slicePick_upto']; exact readsAll_take hr b) h
theorem sl_drop {ds : List PyData} {b : Nat} (hsz : ds.length ≤ sizeLine) (h : Q (.d (.list (ds.drop b))) σ) : Sl X n (.d (.list ds)) (some (b : Int)) none none σ Q :=
  sl_pick hsz (by simp) (fun P vs as hr => by rw [slicePick_from']; exact readsAll_drop hr b) h
theorem sl_rev {ds : List PyData} (hsz : ds.length ≤ sizeLine) (h : Q (.d (.list ds.reverse)) σ) : Sl X n (.d (.list ds)) none none (some (-1)) σ Q :=
  sl_pick hsz (by simp) (fun P vs as hr => by rw [krv_pick]; exact readsAll_rev hr) h
theorem sl_lastM {l : Addr} {ds : List PyData} (hσ : σ l = some (.lst ds)) (hsz : ds.length ≤ sizeLine) (h : Q (.d (.list (ds.drop (ds.length - 1)))) σ) : Sl X n (.c (.ref l)) (some (-1)) none none σ Q :=
  sl_pickM hσ hsz (by simp) (fun P vs as hr => by
    have := slicePick_last vs 1 (Nat.le_refl _)
    rw [show (-((1 : Nat) : Int)) = -1 from rfl] at this
    rw [this, readsAll_size hr]; exact readsAll_drop hr _) h

theorem sl_dropT {ds : List PyData} {b : Nat} (h1 : 1 ≤ b) (hb : b ≤ ds.length) (hsz : ds.length ≤ sizeLine) (h : Q (.d (.tuple (ds.drop b))) σ) : Sl X n (.d (.tuple ds)) (some (b : Int)) none none σ Q := by
  intro A ok P F s c a vl vu vs R r hs pl pu ps
  obtain ⟨l, _, dd, xs, k, sl, as, rfl, e1, rfl, q1⟩ := vtuple r
  have ht : IsTup s.heap l xs := ⟨_, R.stays _ _ e1, rfl, k, rfl⟩
  cases pl; cases pu; cases ps
  obtain ⟨bs, q2⟩ := readsAll_drop q1 b
  have hz := readsAll_size q1
  exact ⟨⟨"tuple", _, ht.typeIs, slot_tuple_getitem.lookup⟩, getItem_tuple_from ht hs h1 (by omega) (new_tuple R (by simpa using q2) h) (by omega)⟩
theorem sl_takeT {ds : List PyData} {b : Nat} (hb : b ≤ ds.length) (hsz : ds.length ≤ sizeLine) (h : Q (.d (.tuple (ds.take b))) σ) : Sl X n (.d (.tuple ds)) none (some (b : Int)) none σ Q := by
  intro A ok P F s c a vl vu vs R r hs pl pu ps
  obtain ⟨l, _, dd, xs, k, sl, as, rfl, e1, rfl, q1⟩ := vtuple r
  have ht : IsTup s.heap l xs := ⟨_, R.stays _ _ e1, rfl, k, rfl⟩
  cases pl; cases pu; cases ps
  obtain ⟨bs, q2⟩ := readsAll_take q1 b
  have hz := readsAll_size q1
  refine ⟨⟨"tuple", _, ht.typeIs, slot_tuple_getitem.lookup⟩, getT_upto ht hs (by omega) (fun e => ?_) (fun _ => new_tuple R (by simpa using q2) h) (by omega)⟩
  have : ds.take b = ds := List.take_of_length_le (by omega)
  rw [this] at h
  exact PostO.intro R r h

/-- the first sign of a text -/
def first1 (x : Str) : Str := if ((1 : Int) == 1 && (Builtin.Str.strSliceIndices none (some 1) 1 x.length).length == x.length) = true then x else ⟨((Builtin.Str.strSliceIndices none (some 1) 1 x.length).filterMap (x.cps[·]?)).toArray⟩

/-! ## lengths -/

theorem cl_one {f : Value} {v : V} (h : Op1 X n (fun c => call f [c]) v σ Q) : Cl X n f [v] σ Q := by
  intro A ok P F s cs R r
  cases r with | cons r1 r2 => cases r2; exact h A ok P F s _ R r1
theorem len_listD {ds : List PyData} (hsz : ds.length ≤ sizeLine) (h : Q (.d (.int ds.length)) σ) : Cl X n (.builtin "len") [.d (.list ds)] σ Q := cl_one fun A ok P F s c R r => by
  obtain ⟨l, _, dd, xs, k, sl, as, rfl, e1, rfl, q1⟩ := vlist r
  have hz := readsAll_size q1
  have hs : sizeLine = 2 ^ 24 := rfl
  exact PySem.Calls.call_len_list ⟨_, R.stays _ _ e1, rfl, k, rfl⟩ (by omega) (PostO.intro R.toks (.d (.int _ _)) (by rw [hz]; exact h))
theorem len_mut {l : Addr} {ds : List PyData} (hσ : σ l = some (.lst ds)) (hsz : ds.length ≤ sizeLine) (h : Q (.d (.int ds.length)) σ) : Cl X n (.builtin "len") [.c (.ref l)] σ Q := cl_one fun A ok P F s c R r => by
  cases r
  obtain ⟨⟨xs, k, as, hg, q1⟩, _⟩ := R.own _ _ hσ
  have hz := readsAll_size q1
  have hs : sizeLine = 2 ^ 24 := rfl
  exact PySem.Calls.call_len_list ⟨_, hg, rfl, k, rfl⟩ (by omega) (PostO.intro R.toks (.d (.int _ _)) (by rw [hz]; exact h))
theorem len_tupleD {ds : List PyData} (hsz : ds.length ≤ sizeLine) (h : Q (.d (.int ds.length)) σ) : Cl X n (.builtin "len") [.d (.tuple ds)] σ Q := cl_one fun A ok P F s c R r => by
  obtain ⟨l, _, dd, xs, k, sl, as, rfl, e1, rfl, q1⟩ := vtuple r
  have hz := readsAll_size q1
  have hs : sizeLine = 2 ^ 24 := rfl
  exact PyProof.Rows.len_tuple ⟨_, R.stays _ _ e1, rfl, k, rfl⟩ (by omega) (PostO.intro R.toks (.d (.int _ _)) (by rw [hz]; exact h))
theorem int_boolD {b : Bool} (h : Q (.d (.int (if b then 1 else 0))) σ) : Cl X n (.type "int") [.d (.bool b)] σ Q := cl_one fun A ok P F s c R r => by
  have := vbool r; subst this
  exact call_int_bool (PostO.intro R.toks (.d (.int _ _)) h)
theorem tuple_listD {ds : List PyData} (hsz : ds.length ≤ sizeLine) (h : Q (.d (.tuple ds)) σ) : Cl X n (.type "tuple") [.d (.list ds)] σ Q := cl_one fun A ok P F s c R r => by
  obtain ⟨l, _, dd, xs, k, sl, as, rfl, e1, rfl, q1⟩ := vlist r
  have hz := readsAll_size q1
  refine call_tuple_list ⟨_, R.stays _ _ e1, rfl, k, rfl⟩ (fun h' hk => ?_) (by rw [hz]; exact hsz)
  obtain ⟨p1, R1⟩ := R.grow (h' := h') (tk := s.toks) hk
  exact PostO.up p1 (new_tuple R1 (ReadsAll.keeps p1 q1) h)

/-! ## a list that is changed -/
theorem RelC.upd {l : Addr} {o o' : MO} (R : RelC X P F σ s) (hσ : σ l = some o) (hk : ∀ b q, b ≠ l → s.heap.get? b = some q → h'.get? b = some q) (hm : MoIs X.w P o' h' l) : RelC X P F (σ.set l o') { s with heap := h', toks := tk } := by
  have hl := (R.own _ _ hσ).2
  have ne : ∀ b q, P.get? b = some q → b ≠ l := fun b q e h => by rw [h, hl] at e; cases e
  refine ⟨R.base, fun b q e => hk b q (ne b q e) (R.stays _ _ e), fun a q e => ?_, fun a q e => ?_, R.gens, R.os⟩
  · obtain ⟨h1, h2, h3⟩ := R.fr a q e
    have hal : a ≠ l := fun h => by rw [h, hσ] at h3; cases h3
    exact ⟨hk a q hal h1, h2, by rw [Led.set_ne _ _ hal]; exact h3⟩
  · by_cases hal : a = l
    · subst hal; rw [Led.set_self] at e; cases e; exact ⟨hm, hl⟩
    · rw [Led.set_ne _ _ hal] at e
      obtain ⟨h1, h2⟩ := R.own a q e
      exact ⟨h1.keeps (stays_refl P) fun q e' => hk a q hal e', h2⟩

theorem mt_list {l : Addr} {ds : List PyData} {name : Str} {id : String} (slot : Slot "list" name id) (hty : typeOf (.builtin id) = pure (.type "method_descriptor")) (hσ : σ l = some (.lst ds)) : Mt X n (.c (.ref l)) name (.builtin id) σ := by
  intro A ok P F s c pl R r
  cases r
  obtain ⟨⟨xs, k, as, hg, q1⟩, _⟩ := R.own _ _ hσ
  exact getMethod_list_of slot hty (items := xs) ⟨_, hg, rfl, k, rfl⟩ ⟨_, hg, rfl⟩ ⟨rfl, rfl⟩
theorem cl_append {l : Addr} {ds : List PyData} {d : PyData} (hσ : σ l = some (.lst ds)) (hsz : ds.length ≤ sizeLine) (h : Q (.d .none) (σ.set l (.lst (ds ++ [d])))) : Cl X n (.builtin "list.append") [.c (.ref l), .d d] σ Q := by
  intro A ok P F s cs R r
  cases r with | cons r1 r2 => cases r2 with | cons r2 r3 => cases r3; cases r1; cases r2 with | d r2 =>
    obtain ⟨⟨xs, k, as, hg, q1⟩, _⟩ := R.own _ _ hσ
    have hz := readsAll_size q1
    refine wpAny_list_append_plain (items := xs) ⟨k, hg⟩ (fun h' ⟨k', hg'⟩ hs => ?_) (by omega)
    obtain ⟨bs, q2⟩ := acc_snoc q1 r2
    have hm : MoIs X.w P (.lst (ds ++ [d])) h' l := ⟨_, k', bs, hg', q2⟩
    exact PostO.intro (R.upd (tk := s.toks) hσ (fun b q hb e => hs.extBut b q hb e) hm) (.d .none) h
theorem cl_pop {l : Addr} {ds : List PyData} {d : PyData} (hσ : σ l = some (.lst ds)) (hd : ds.getLast? = some d) (hsz : ds.length ≤ sizeLine) (h : Q (.d d) (σ.set l (.lst ds.dropLast))) : Cl X n (.builtin "list.pop") [.c (.ref l)] σ Q := cl_one fun A ok P F s c R r => by
  cases r
  obtain ⟨⟨xs, k, as, hg, q1⟩, _⟩ := R.own _ _ hσ
  have hz := readsAll_size q1
  have hne : ds ≠ [] := fun e => by rw [e] at hd; cases hd
  have hlen : 1 ≤ ds.length := by cases ds with | nil => exact absurd rfl hne | cons => simp
  have hd' : ds[ds.length - 1]? = some d := by rw [List.getLast?_eq_getElem?] at hd; exact hd
  obtain ⟨c, bs, hc, hr⟩ := reads_data q1 _ d hd'
  have hc' : xs[xs.size - 1]? = some c := by rw [hz]; simpa using hc
  refine call_meets PySem.F.slot_list_pop ⟨_, hg, rfl⟩ PySem.F.entry_list_pop (PySem.F.args_list_pop_1 _) (PySem.MeetsSeq.list_pop_last l xs k c hc' (by omega)) ⟨hg, ?_⟩
  have hup : (s.heap.update l (Obj.mapSeq fun ys => ys.eraseIdxIfInBounds (xs.size - 1))).get? l = some (listOf (xs.eraseIdxIfInBounds (xs.size - 1)) (if (xs.eraseIdxIfInBounds (xs.size - 1)).size == xs.size then k else k + 1)) := by
    refine (Heap.get?_update_self _ hg rfl).trans ?_
    rfl
  obtain ⟨cs, q2⟩ := readsAll_take q1 (ds.length - 1)
  have e1 : (xs.eraseIdxIfInBounds (xs.size - 1)).toList = xs.toList.take (ds.length - 1) := by
    rw [hz]
    have hlt : ds.length - 1 < xs.size := by omega
    simp only [Array.eraseIdxIfInBounds, hlt, dif_pos, Array.toList_eraseIdx]
    rw [List.eraseIdx_eq_take_drop_succ]
    have : xs.toList.drop (ds.length - 1 + 1) = [] := List.drop_of_length_le (by simp; omega)
    rw [this, List.append_nil]
  have hm : MoIs X.w P (.lst ds.dropLast) (s.heap.update l (Obj.mapSeq fun ys => ys.eraseIdxIfInBounds (xs.size - 1))) l := ⟨_, _, cs, hup, by rw [e1, List.dropLast_eq_take]; exact q2⟩
  exact PostO.intro (R.upd (tk := s.toks) hσ (fun b q hb e => (Heap.SameBut.update s.heap l _).extBut b q hb e) hm) (.d hr) h

theorem Ex_Expr' {e : Expr} {pos : Pos} {Q : Fl → List (Str × V) → Led → Prop} (h : Ev X n env (eval e env) m σ fun v σ1 => Q .next m σ1) (hi : interactive env = false := by rfl) (hs : swapsWith e none pos.line env = pure false := by rfl) :
    Ex X n env (exec (.Expr e pos) env) m σ Q := by
  intro A ok P F s R E
  have he : exec (.Expr e pos) env = (do
    standAt pos
    if interactive env then printExpr (eval e env)
    else if ← swapsWith e none pos.line env then do evalThenUse e env fun _ => point; pure .next
    else do dropValue e pos (← eval e env)) := rfl
  rw [he, hi, hs]
  refine wpAny_bind (wpAny_standAt ?_)
  rw [if_neg (by decide)]
  refine wpAny_bind (wpAny_pure ?_)
  rw [if_neg (by decide)]
  refine wpAny_bind (wpM (h A ok P F s R E) ?_)
  rintro c s1 ⟨P1, v, σ1, p1, r1, R1, E1, h1⟩
  exact wpAny_dropValue ⟨P1, .next, m, σ1, p1, .next, R1, E1, h1⟩
end
end Mine
set_option maxRecDepth 10000
namespace Mine
open PySem PySem.W PyProof.Rows

section
variable {X : Cx} {P P' : Heap} {F : Addr → Option Obj} {σ σ' : Led} {s s' : Shared} {h' : Heap} {W : Addr → Prop} {tk : Nat} {env : Env} {m mc : List (Str × V)} {n : Nat} {Q : V → Led → Prop}

/-! ## a dict's pairs -/
theorem ent_pairs {prog : Program} {w : World} {kvs : List (Str × V)} {es : List DictEntry} (h : EntRel w P kvs es) : ∃ cs : List (Str × Value), Pairs (strKind prog w) es cs ∧ Paired (fun (p : Str × V) (q : Str × Value) => p.1 = q.1 ∧ VRel w P p.2 q.2) kvs cs :=
  EntRel.ind (M := fun kvs es => ∃ cs : List (Str × Value), Pairs (strKind prog w) es cs ∧ Paired (fun (p : Str × V) (q : Str × Value) => p.1 = q.1 ∧ VRel w P p.2 q.2) kvs cs) ⟨[], .nil, .nil⟩
    (fun {x t _ c _ _} h1 _ ih => ih.elim fun cs h => ⟨(x, c) :: cs, .cons (strKind_is prog w x t) rfl h.1, .cons ⟨rfl, h1⟩ h.2⟩) h
theorem pairs_ent {prog : Program} {w : World} {kvs : List (Str × V)} {es : List DictEntry} {cs : List (Str × Value)} (hk : ∀ e ∈ es, ∃ k, (strKind prog w).is k e.key = true ∧ e.hash = (strKind prog w).hash k) (hp : Pairs (strKind prog w) es cs)
    (hq : Paired (fun (p : Str × V) (q : Str × Value) => p.1 = q.1 ∧ VRel w P p.2 q.2) kvs cs) : EntRel w P kvs es := by
  induction hp generalizing kvs with
  | nil => cases hq; exact .nil
  | @cons e y es cs h1 h2 _ ih =>
    obtain ⟨k, v⟩ := y
    cases hq with | @cons p _ ps _ h4 h6 =>
    obtain ⟨x, u⟩ := p
    obtain ⟨eh, ek, ev⟩ := e
    obtain ⟨k', hk1, hk2⟩ := hk _ (.head _)
    obtain ⟨h4, h5⟩ := h4
    dsimp only at h1 h2 h4 h5 hk1 hk2
    subst h4 h2
    have := (strKind prog w).inj _ _ _ hk1 h1
    subst this
    obtain ⟨t, rfl⟩ := Value.isStrOf_shape h1
    subst hk2
    exact .cons h5 (ih (fun e he => hk e (.tail _ he)) h6)
theorem pairs_keys {w : World} {α β : Type} {G : α → β → Prop} {kvs : List (Str × α)} {cs : List (Str × β)} (h : Paired (fun (p : Str × α) (q : Str × β) => p.1 = q.1 ∧ G p.2 q.2) kvs cs) : kvs.map (·.1) = cs.map (·.1) := by
  induction h with
  | nil => rfl
  | cons h _ ih => rw [List.map_cons, List.map_cons, h.1, ih]

theorem ent_dictOf {prog : Program} {w : World} {h : Heap} {a : Addr} {kvs : List (Str × V)} {es : List DictEntry} {k : Nat} (hg : h.get? a = some (dictOf es k)) (he : EntRel w P kvs es) (hn : (kvs.map (·.1)).Nodup) :
    ∃ cs, h.DictOf (strKind prog w) a cs ∧ Paired (fun (p : Str × V) (q : Str × Value) => p.1 = q.1 ∧ VRel w P p.2 q.2) kvs cs := by
  obtain ⟨cs, h1, h2⟩ := ent_pairs (prog := prog) he
  refine ⟨cs, ⟨_, es.toArray, k, hg, ⟨rfl, rfl, rfl⟩, rfl, fun e he' => ent_keys he e (by simpa using he'), by simpa using h1, ?_⟩, h2⟩
  rw [← pairs_keys (w := w) (G := fun v c => VRel w P v c) h2]; exact hn
theorem dictOf_ent {prog : Program} {w : World} {h : Heap} {a : Addr} {kvs : List (Str × V)} {cs : List (Str × Value)} (hd : h.DictOf (strKind prog w) a cs) (hp : Paired (fun (p : Str × V) (q : Str × Value) => p.1 = q.1 ∧ VRel w P p.2 q.2) kvs cs) :
    ∃ es k, h.get? a = some (dictOf es k) ∧ EntRel w P kvs es := by
  obtain ⟨⟨cls, dd, data, sl⟩, es, ep, h1, ⟨h2, h3, h4⟩, h5, h6, h7, _⟩ := hd
  dsimp only at h2 h3 h4 h5
  subst h2 h3 h4 h5
  exact ⟨es.toList, ep, by simpa using h1, pairs_ent (fun e he => h6 e (by simpa using he)) h7 hp⟩

def vset (kvs : List (Str × V)) (x : Str) (v : V) : List (Str × V) := if kvs.any (fun kv => kv.1 = x) then kvs.map (fun kv => if kv.1 = x then (kv.1, v) else kv) else kvs ++ [(x, v)]
theorem vset_paired {w : World} {x : Str} {v : V} {c : Value} (hv : VRel w P v c) {kvs : List (Str × V)} {cs : List (Str × Value)} (h : Paired (fun (p : Str × V) (q : Str × Value) => p.1 = q.1 ∧ VRel w P p.2 q.2) kvs cs) :
    Paired (fun (p : Str × V) (q : Str × Value) => p.1 = q.1 ∧ VRel w P p.2 q.2) (vset kvs x v) (stored cs x c) := by
  have e1 : (kvs.any fun kv => decide (kv.1 = x)) = cs.any fun kv => decide (kv.1 = x) := by
    induction h with
    | nil => rfl
    | cons a r ih => simp [a.1, ih]
  unfold vset stored
  rw [e1]
  split
  · rename_i hh
    clear e1 hh
    induction h with
    | nil => exact .nil
    | @cons p q ps qs a r ih =>
      refine .cons ?_ ih
      by_cases hx : p.1 = x
      · have hy : q.1 = x := a.1 ▸ hx
        simp only [hx, hy, if_true]; exact ⟨trivial, hv⟩
      · have hy : ¬ q.1 = x := a.1 ▸ hx
        simp only [hx, hy, if_false]; exact a
  · rename_i hh
    clear e1 hh
    induction h with
    | nil => exact .cons ⟨rfl, hv⟩ .nil
    | cons a r ih => exact .cons a ih

theorem EnvIs.not_own {h : Heap} {l : Addr} {o : MO} (E : EnvIs X P F σ env m h) (hσ : σ l = some o) : ¬ Own env l := fun ho => by have := (E.apart l ho).2.2; rw [hσ] at this; cases this
theorem EnvIs.setσ {h : Heap} {l : Addr} {o : MO} (E : EnvIs X P F σ env m h) (nl : ¬ Own env l) : EnvIs X P F (σ.set l o) env m h :=
  ⟨E.kind, E.glob, E.blt, E.ns, E.cells, E.kinds, E.cellObj, fun a ha => ⟨(E.apart a ha).1, (E.apart a ha).2.1, by
    have hne : a ≠ l := fun e => by subst e; exact nl ha
    rw [Led.set_ne _ _ hne]; exact (E.apart a ha).2.2⟩, E.dist⟩

/-! ## a dict is stored into -/
theorem Ex_AssignSub {o i : Expr} {pos' pos : Pos} {value : Expr} {l : Addr} {kvs : List (Str × V)} {x : Str} {Q : Fl → List (Str × V) → Led → Prop}
    (h : Ev X n env (eval value env) m σ fun v σ1 => Ev X n env (eval o env) m σ1 fun ov σ2 => ov = .c (.ref l) ∧ Ev X n env (eval i env) m σ2 fun iv σ3 => iv = .d (.str x) ∧ ∃ kvs, σ3 l = some (.dct kvs) ∧ (kvs.map (·.1)).Nodup ∧ kvs.length ≤ sizeLine ∧ Q .next m (σ3.set l (.dct (vset kvs x v))))
    (hs : swapsWith value (some (.Subscript o i pos')) pos.line env = pure false := by rfl) : Ex X n env (exec (.Assign [.Subscript o i pos'] value pos) env) m σ Q := by
  intro A ok P F s R E
  refine wpAny_Assign_Subscript (wpM (h A ok P F s R E) ?_) hs
  rintro c s1 ⟨P1, v, σ1, p1, r1, R1, E1, h1⟩
  refine wpM (h1 A ok P1 F s1 R1 E1) ?_
  rintro co s2 ⟨P2, ov, σ2, p2, r2, R2, E2, rfl, h2⟩
  cases r2
  refine wpM (h2 A ok P2 F s2 R2 E2) ?_
  rintro ci s3 ⟨P3, iv, σ3, p3, r3, R3, E3, rfl, kvs, hσ, hn, hl, hq⟩
  obtain ⟨u, rfl⟩ := vstr r3
  obtain ⟨⟨es, k, hg, he⟩, hP⟩ := R3.own _ _ hσ
  obtain ⟨cs, hd, hp⟩ := ent_dictOf (prog := X.prog) hg he hn
  refine wpAny_setItem_pairs (strKind_is X.prog X.w x u) hd (fun h' hd' hs' => ?_) (by
    have := pairs_keys (w := X.w) (G := fun v c => VRel X.w P3 v c) hp
    have := congrArg List.length this
    simp at this; omega)
  obtain ⟨es', k', hg', he'⟩ := dictOf_ent hd' (vset_paired (r1.keeps (stays_trans p2 p3)) hp)
  have hm : MoIs X.w P3 (.dct (vset kvs x v)) h' l := ⟨es', k', hg', he'⟩
  have nl := E3.not_own hσ
  have E4 := E3.but (h' := h') (W := fun b => b = l) (fun b e => by cases e; exact nl) fun b q hb e => hs'.extBut b q hb e
  exact ⟨P3, .next, m, _, stays_trans p1 (stays_trans p2 p3), .next, R3.upd hσ (fun b q hb e => hs'.extBut b q hb e) hm, E4.setσ nl, hq⟩

/-! ## tests -/
theorem Tr_chain2 {l r1 r2 : Expr} {op1 op2 : CmpOp} {pos : Pos} {whole : Sem Value} {Q : Bool → Led → Prop}
    (h : Ev X n env (eval l env) m σ fun v0 σ0 => Ev X n env (eval r1 env) m σ0 fun v1 σ1 => Op2 X n (compareOp op1) v0 v1 σ1 fun c σ2 => ∃ b, c = .d (.bool b) ∧
      if b then Ev X n env (eval r2 env) m σ2 fun v2 σ3 => Op2 X n (compareOp op2) v1 v2 σ3 fun c σ4 => ∃ b, c = .d (.bool b) ∧ Q b σ4 else Q false σ2)
    (hm : lastMarks [op1, op2] [r1, r2] = false := by with_unfolding_all rfl) : Tr X n env (isTrue (.Compare l [op1, op2] [r1, r2] pos) env whole) m σ Q := by
  intro A ok P F s R E
  refine isTrue_chain (wpM (h A ok P F s R E) ?_) hm
  rintro c0 s0 ⟨P0, v0, σ0, p0, x0, R0, E0, h0⟩
  refine test_link (wpM (h0 A ok P0 F s0 R0 E0) ?_)
  rintro c1 s1 ⟨P1, v1, σ1, p1, x1, R1, E1, h1⟩
  refine wpM (op2_in ok h1 R1 E1 (x0.keeps p1) x1) ?_
  rintro c2 s2 ⟨P2, v2, σ2, p2, x2, R2, E2, b, rfl, h2⟩
  have := vbool x2; subst this
  refine wpAny_truthy_bool ?_
  cases b with
  | false => exact ⟨P2, σ2, stays_trans p0 (stays_trans p1 p2), R2, E2, h2⟩
  | true =>
    refine test_last (wpM (h2 A ok P2 F s2 R2 E2) ?_)
    rintro c3 s3 ⟨P3, v3, σ3, p3, x3, R3, E3, h3⟩
    refine wpM (op2_in ok h3 R3 E3 (x1.keeps (stays_trans p2 p3)) x3) ?_
    rintro c4 s4 ⟨P4, v4, σ4, p4, x4, R4, E4, b, rfl, hb⟩
    have := vbool x4; subst this
    exact wpAny_truthy_bool ⟨P4, σ4, stays_trans p0 (stays_trans p1 (stays_trans p2 (stays_trans p3 p4))), R4, E4, hb⟩

/-- and of bools -/
def EvA (X : Cx) (n : Nat) (env : Env) (m : List (Str × V)) : List Expr → Led → (V → Led → Prop) → Prop
  | [], σ, Q => False
  | [x], σ, Q => Ev X n env (eval x env) m σ Q
  | x :: r, σ, Q => Ev X n env (eval x env) m σ fun v σ1 => ∃ b, v = .d (.bool b) ∧ if b then EvA X n env m r σ1 Q else Q (.d (.bool false)) σ1
theorem EvA_run {A : Around} (ok : Ok A n) {pos : Pos} : ∀ {vs : List Expr} {σ : Led} {P : Heap} {s : Shared}, EvA X n env m vs σ Q → RelC X P F σ s → EnvIs X P F σ env m s.heap → wpAny X.M A (boolOp pos .And (evalEach vs env)) (PostV X P F env m Q) NoE s
  | [], _, _, _, h, _, _ => h.elim
  | [x], _, _, _, h, R, E => h A ok _ _ _ R E
  | x :: y :: r, σ, P, s, h, R, E => by
    show wpAny X.M A (do
      let v ← eval x env
      standAt pos
      let t ← holding [v] (truthy v)
      match BoolOp.And, t with
      | .And, false | .Or, true => pure v
      | _, _ => boolOp pos .And (evalEach (y :: r) env)) _ _ s
    refine wpAny_bind (wpM (h A ok P F s R E) ?_)
    rintro c s1 ⟨P1, v, σ1, p1, r1, R1, E1, b, rfl, h1⟩
    have := vbool r1; subst this
    refine wpAny_bind (wpAny_standAt (wpAny_bind (wpAny_holding (wpAny_truthy_bool ?_))))
    cases b with
    | false => exact wpAny_pure ⟨P1, _, σ1, p1, .d (.bool _), R1, E1, h1⟩
    | true => exact wpM (EvA_run ok h1 R1 E1) fun _ _ => PostV.up p1
theorem Ev_And {vs : List Expr} {pos : Pos} (h : EvA X n env m vs σ Q) : Ev X n env (eval (.BoolOp .And vs pos) env) m σ Q := fun A ok P F s R E => EvA_run ok h R E

/-! ## a text's sign -/
theorem gi_str {x : Str} {i : Int} {j : Nat} {c : Nat} (hj : seqIndex? i x.length = some j) (hc : x.cps[j]? = some c) (hi : -(2 ^ 63) ≤ i ∧ i < 2 ^ 63) (h : Q (.d (.str ⟨#[c]⟩)) σ) : Gi X n (.d (.str x)) (.d (.int i)) σ Q := by
  intro A ok P F s v vi R r1 r2
  obtain ⟨t, rfl⟩ := vstr r1
  obtain ⟨u, rfl⟩ := vint r2
  refine ⟨⟨"str", _, typeIs_str _ x t, PySem.F.slot_str_getitem.lookup⟩, PyProof.Rows.getItem_str (c := c) ?_ (by rw [hj]; exact hc) (PostO.intro R.toks (.d (.str _ _)) h)⟩
  simp; omega
theorem sliceMade1 (x : Str) (t u : Tok) : sliceMade x t none (some (1, u)) none = if ((1 : Int) == 1 && (Builtin.Str.strSliceIndices none (some 1) 1 x.length).length == x.length) = true then Made.val (.str x t) else .str ⟨((Builtin.Str.strSliceIndices none (some 1) 1 x.length).filterMap (x.cps[·]?)).toArray⟩ := rfl
theorem sl_str1 {x : Str} (hl : (first1 x).length ≤ sizeLine) (h : Q (.d (.str (first1 x))) σ) : Sl X n (.d (.str x)) none (some 1) none σ Q := by
  intro A ok P F s c a vl vu vs R r hs pl pu ps
  obtain ⟨t, rfl⟩ := vstr r
  cases pl; cases pu; rename_i tu; cases ps
  refine ⟨⟨"str", _, typeIs_str _ x t, PySem.F.slot_str_getitem.lookup⟩, wpAny_getItem_str_slice (l := none) (u := some (1, tu)) (st := none) ?_ rfl ?_⟩
  · obtain ⟨o, h1, h2, h3⟩ := hs; exact ⟨o, h1, h2, h3⟩
  · rw [sliceMade1]
    unfold first1 at h hl
    by_cases q : ((1 : Int) == 1 && (Builtin.Str.strSliceIndices none (some 1) 1 x.length).length == x.length) = true
    · rw [if_pos q] at h ⊢
      exact PostO.intro R (.d (.str _ _)) h
    · rw [if_neg q] at h hl ⊢
      exact ⟨hl, PostO.intro R.toks (.d (.str _ _)) h⟩

/-! ## a list is extended -/
theorem list_extend_g (l : Addr) (items : Array Value) (k : Nat) (b : Addr) (items2 : Array Value) (k2 : Nat) (dd : Option Addr) (sl : Array (Option Value)) (hc0 : ¬(!items.isEmpty && Builtin.List.listTooLong (items.size + items2.size)) = true) (hc1 : items.size ≤ sizeLine) (hs2 : items.size + items2.size ≤ sizeLine + 1) :
    Meets (Builtin.«list.extend» ⟨[.ref l, .ref b], []⟩) (fun _ R s => s.heap.get? l = some { cls := .type "list", dict := none, data := .seq items k, slots := #[] } ∧ s.heap.get? b = some { cls := .type "list", dict := dd, data := .seq items2 k2, slots := sl } ∧
      R (.ok (.ret .none)) { s with heap := s.heap.update l (Obj.mapSeq fun x => x ++ items2) }) :=
  .of_wp fun prog w A R s h => by
    obtain ⟨hp, g, d, tk, os⟩ := s; obtain ⟨hl, hb, h⟩ := h
    have f1 := AutoSeq1.idx_int
    have f2 := AutoSeq1.sub_tuple_tuple
    have f3 := AutoSeq1.sub_list_list
    have f4 := AutoSeq1.sub_tuple_list
    have f5 := AutoSeq1.sub_list_tuple
    have hz' : (items ++ items2).size ≤ sizeLine + 1 := by rw [Array.size_append]; exact hs2
    wp_walk using (wpAny_updateSeq hl rfl (hz := hc1) (_hz' := hz')), AutoSeq1.wpAny_loadPart' hl, AutoSeq1.wpAny_loadPart' hb; exact ⟨_, rfl, h⟩
theorem cl_extend {l : Addr} {ds es : List PyData} (hσ : σ l = some (.lst ds)) (hsz : ds.length + es.length ≤ sizeLine) (h : Q (.d .none) (σ.set l (.lst (ds ++ es)))) : Cl X n (.builtin "list.extend") [.c (.ref l), .d (.list es)] σ Q := by
  intro A ok P F s cs R r
  cases r with | cons r1 r2 => cases r2 with | cons r2 r3 =>
    cases r3; cases r1
    obtain ⟨⟨xs, k, as, hg, q1⟩, _⟩ := R.own _ _ hσ
    obtain ⟨b, _, dd, ys, k2, sl, bs, rfl, e2, rfl, q2⟩ := vlist r2
    have z1 := readsAll_size q1
    have z2 := readsAll_size q2
    have hsz' : xs.size + ys.size ≤ sizeLine := by omega
    refine call_meets PySem.F.slot_list_extend ⟨_, hg, rfl⟩ PySem.F.entry_list_extend (PySem.F.args_list_extend_2 _ _) (list_extend_g l xs k b ys k2 dd sl (extend_door hsz') (by omega) (by omega)) ⟨hg, R.stays _ _ e2, ?_⟩
    obtain ⟨cs, q3⟩ := readsAll_append q1 q2
    have hup : (s.heap.update l (Obj.mapSeq fun x => x ++ ys)).get? l = some (listOf (xs ++ ys) (if (xs ++ ys).size == xs.size then k else k + 1)) := (Heap.get?_update_self _ hg rfl).trans rfl
    have hm : MoIs X.w P (.lst (ds ++ es)) (s.heap.update l (Obj.mapSeq fun x => x ++ ys)) l := ⟨_, _, cs, hup, by rw [Array.toList_append]; exact q3⟩
    exact PostO.intro (R.upd (tk := s.toks) hσ (fun b q hb e => (Heap.SameBut.update s.heap l _).extBut b q hb e) hm) (.d .none) h

/-! ## a list is frozen -/
open Classical in
noncomputable def addP (P h : Heap) (a : Addr) : Heap := pick h fun b => (P.get? b).isSome ∨ b = a
theorem addP_old {h : Heap} {a b : Addr} {o : Obj} (hs : P.StaysIn h) (e : P.get? b = some o) : (addP P h a).get? b = some o := by
  classical
  unfold addP
  rw [pick_get, if_pos (.inl (by rw [e]; rfl))]; exact hs b o e
theorem addP_new {h : Heap} {a : Addr} : (addP P h a).get? a = h.get? a := by
  classical
  unfold addP
  rw [pick_get, if_pos (.inr rfl)]
theorem addP_none {h : Heap} {a b : Addr} (e : P.get? b = none) (hb : b ≠ a) : (addP P h a).get? b = none := by
  classical
  unfold addP
  rw [pick_get, if_neg]
  rintro (q | q)
  · rw [e] at q; cases q
  · exact hb q
theorem addP_of {h : Heap} {a b : Addr} {o : Obj} (e : (addP P h a).get? b = some o) : h.get? b = some o := by
  classical
  unfold addP at e
  rw [pick_get] at e
  split at e
  · exact e
  · cases e

/-- an object of the ledger becomes persistent -/
theorem RelC.freeze {a : Addr} {o : MO} (R : RelC X P F σ s) (hσ : σ a = some o) : P.StaysIn (addP P s.heap a) ∧ RelC X (addP P s.heap a) F (σ.del a) s := by
  have up : P.StaysIn (addP P s.heap a) := fun b q e => addP_old R.stays e
  refine ⟨up, stays_trans R.base up, fun b q e => addP_of e, fun b q e => ?_, fun b q e => ?_, R.gens, R.os⟩
  · obtain ⟨h1, h2, h3⟩ := R.fr b q e
    have hba : b ≠ a := fun h => by rw [h, hσ] at h3; cases h3
    exact ⟨h1, addP_none h2 hba, by simp [Led.del, hba, h3]⟩
  · have hba : b ≠ a := fun h => by subst h; simp [Led.del] at e
    simp only [Led.del, hba, if_false] at e
    obtain ⟨h1, h2⟩ := R.own b q e
    exact ⟨h1.keeps up fun _ x => x, addP_none h2 hba⟩
theorem EnvIs.freeze {a : Addr} {o : MO} (R : RelC X P F σ s) (hσ : σ a = some o) (E : EnvIs X P F σ env m s.heap) : EnvIs X (addP P s.heap a) F (σ.del a) env m s.heap := by
  refine E.at (fun b q e => addP_old R.stays e) fun b q hb e => ⟨e, ?_, (E.apart b hb).2.1, ?_⟩
  · exact addP_none (E.apart b hb).1 fun h => E.not_own hσ (h ▸ hb)
  · have hba : b ≠ a := fun h => E.not_own hσ (h ▸ hb)
    simp only [Led.del, hba, if_false]; exact (E.apart b hb).2.2

/-- the variables that name it name data now -/
def frz (a : Addr) (v' : V) : List (Str × V) → List (Str × V)
  | [] => []
  | (x, v) :: r => (x, match v with | .c (.ref b) => if b = a then v' else v | _ => v) :: frz a v' r
theorem frz_lookup {a : Addr} {v' : V} {x : Str} {u : V} : ∀ {m : List (Str × V)}, (frz a v' m).lookup x = some u → m.lookup x = some u ∨ (m.lookup x = some (.c (.ref a)) ∧ u = v')
  | [], h => by cases h
  | (y, v) :: r, h => by
    unfold frz at h
    rw [lookup_mset] at h
    rw [lookup_mset]
    by_cases q : x = y
    · simp only [q, if_true] at h ⊢
      cases h
      split
      · split
        · rename_i e; subst e; exact .inr ⟨rfl, rfl⟩
        · exact .inl rfl
      · exact .inl rfl
    · simp only [q, if_false] at h ⊢; exact frz_lookup h
theorem frz_kinds {a : Addr} {v' : V} {x : Str} {u : V} {m : List (Str × V)} (h : (frz a v' m).lookup x = some u) : ∃ v, m.lookup x = some v := by
  rcases frz_lookup h with h | ⟨h, _⟩ <;> exact ⟨_, h⟩
theorem EnvIs.frz {a : Addr} {v' : V} {h : Heap} (E : EnvIs X P F σ env m h) (hv : VRel X.w P v' (.ref a)) : EnvIs X P F σ env (Mine.frz a v' m) h := by
  obtain ⟨cm, hn, hl⟩ := E.ns
  refine ⟨E.kind, E.glob, E.blt, ⟨cm, hn, fun x v h1 h2 => ?_⟩, fun x v h1 h2 => ?_, fun x v h1 => ?_, E.cellObj, E.apart, E.dist⟩
  · rcases frz_lookup h1 with h3 | ⟨h3, rfl⟩
    · exact hl x v h3 h2
    · obtain ⟨c, h4, h5⟩ := hl x _ h3 h2; cases h5; exact ⟨_, h4, hv⟩
  · rcases frz_lookup h1 with h3 | ⟨h3, rfl⟩
    · exact E.cells x v h3 h2
    · obtain ⟨b, c, h4, h5, h6⟩ := E.cells x _ h3 h2; cases h6; exact ⟨b, _, h4, h5, hv⟩
  · obtain ⟨u, hu⟩ := frz_kinds h1; exact E.kinds x u hu

theorem Ex_freeze {t : Sem Flow} {a : Addr} {ds : List PyData} {Q : Fl → List (Str × V) → Led → Prop} (hσ : σ a = some (.lst ds)) (h : Ex X n env t (Mine.frz a (.d (.list ds)) m) (σ.del a) Q) : Ex X n env t m σ Q := by
  intro A ok P F s R E
  obtain ⟨up, R1⟩ := R.freeze hσ
  have E1 := EnvIs.freeze R hσ E
  obtain ⟨⟨vs, k, as, hg, q1⟩, _⟩ := R.own _ _ hσ
  have hv : VRel X.w (addP P s.heap a) (.d (.list ds)) (.ref a) := .d (.list (by rw [addP_new]; exact hg) rfl rfl (ReadsAll.keeps up q1))
  exact wpM (h A ok _ F s R1 (E1.frz hv)) fun _ _ => PostF.up up
/-- a list that is changed is compared -/
theorem op_neM {l : Addr} {ds : List PyData} {b : PyData} (hσ : σ l = some (.lst ds)) (ha : (PyData.list ds).canLay0 = true) (hb : b.canLay0 = true) (hd : (PyData.list ds).depth ≤ 64) (h : Q (.d (.bool (!PyData.eqv (.list ds) b))) σ) : Op2 X n (compareOp .NotEq) (.c (.ref l)) (.d b) σ Q := fun A ok P F s c1 c2 R r1 r2 => by
  cases r1; cases r2 with | d r2 =>
    obtain ⟨⟨vs, k, as, hg, q1⟩, _⟩ := R.own _ _ hσ
    exact PySem.SeqAt.compareNe_reads (.list hg rfl rfl (ReadsAll.keeps R.stays q1).lib) (Reads.keeps R.stays r2).lib ha hb (by have := ok.line64; omega) (PostO.intro R (.d (.bool _)) h)

/-! ## two names swapped -/
theorem As_bind {x : Str} {v : V} {Q : List (Str × V) → Led → Prop} (hb : Binds env x) (h : Q ((x, v) :: m) σ) : As X n env (fun c => bindName env x c) v m σ Q := fun A ok P F s c R E r =>
  wpAny_bindName (wpM (store_rule hb R E r) fun _ s' ⟨R', E'⟩ => ⟨P, _, σ, stays_refl _, R', E', h⟩)

theorem Ex_AssignSwap {elts : List Expr} {k k' : Nat} {tpos vpos pos : Pos} {vals : List Expr} {x y : Str} {Q : Fl → List (Str × V) → Led → Prop} (hp : plainArgs vals = true) (hx : Binds env x) (hy : Binds env y)
    (h : EvL X n env vals m σ fun vs σ1 => ∃ u v, vs = [u, v] ∧ Q .next ((x, u) :: (y, v) :: m) σ1)
    (hs : swapsWithSole [.Tuple elts k tpos] (.Tuple vals k' vpos) pos.line env = pure false := by rfl) (hw : swappedStores [.Tuple elts k tpos] (.Tuple vals k' vpos) env = pure (some [x, y]) := by rfl) :
    Ex X n env (exec (.Assign [.Tuple elts k tpos] (.Tuple vals k' vpos) pos) env) m σ Q := by
  intro A ok P F s R E
  refine Assign_Tuple_swapped (wpAny_Tuple (wpM (EvL_run ok hp h R E) ?_)) hs hw
  rintro cs s1 ⟨P1, vs, σ1, p1, r1, R1, E1, u, v, rfl, hq⟩
  cases r1 with | cons ru r1 => cases r1 with | cons rv r1 => cases r1 with | nil =>
    rename_i cu cv
    refine ⟨(by simp [sizeLine_eq]), ?_⟩
    have hk : s1.heap.StaysIn (s1.heap.push { cls := .type "tuple", data := .seq [cu, cv].toArray }) := fun b o' e => Heap.get?_push_of_some _ e
    obtain ⟨R2, E2, p2, _⟩ := made (W := fun _ => False) R1 E1 hk (fun _ x => x.elim) s1.toks
    have ht : (s1.heap.push { cls := .type "tuple", data := .seq [cu, cv].toArray }).IsTuple s1.heap.objs.size [cu, cv].toArray := ⟨_, Heap.get?_push_size _ rfl, rfl, _, rfl⟩
    refine wpAny_unpackItems_tuple (items := [cu, cv].toArray) ok.handled ht fun h' hx' => ?_
    have fr := R2.fresh (size_none _ (Nat.le_refl _))
    have ow : ¬ Own env (s1.heap.push { cls := .type "tuple", data := .seq [cu, cv].toArray }).objs.size := fun ho => by
      obtain ⟨o, e⟩ := EnvIs.has (s := { s1 with heap := s1.heap.push { cls := .type "tuple", data := .seq [cu, cv].toArray } }) E2 ho
      exact absurd (Heap.lt_size e) (Nat.lt_irrefl _)
    have R3 := R2.but (W := fun b => b = (s1.heap.push { cls := .type "tuple", data := .seq [cu, cv].toArray }).objs.size) (tk := s1.toks) (fun b e => e ▸ fr) fun b o hne e => hx' b o hne e
    have E3 := EnvIs.but (s := { s1 with heap := s1.heap.push { cls := .type "tuple", data := .seq [cu, cv].toArray } }) E2 (W := fun b => b = (s1.heap.push { cls := .type "tuple", data := .seq [cu, cv].toArray }).objs.size) (fun b e => e ▸ ow) fun b o hne e => hx' b o hne e
    have hord : AsAll X n env [fun c => bindName env y c, fun c => bindName env x c] [v, u] m σ1 (fun m2 σ2 => Q .next m2 σ2) := As_bind hy (As_bind hx hq)
    refine wpM (inOrder ok [fun c => bindName env y c, fun c => bindName env x c] [v, u] [cv, cu] m σ1 _ _ hord R3 E3 (.cons (rv.keeps p2) (.cons (ru.keeps p2) .nil))) ?_
    rintro _ s4 ⟨P4, m4, σ4, p4, R4, E4, h4⟩
    exact ⟨P4, .next, m4, σ4, stays_trans p1 (stays_trans p2 p4), .next, R4, E4, h4⟩

/-! ## try, and nothing is raised -/
theorem Ex_Try {body : List Stmt} {h₀ : ExceptHandler} {hs : List ExceptHandler} {pos : Pos} {Q : Fl → List (Str × V) → Led → Prop} (h : Ex X n env (execs body env) m σ Q) : Ex X n env (exec (.Try body (h₀ :: hs) [] [] pos) env) m σ Q := by
  intro A ok P F s R E
  refine wpAny_Try_except (wpAny_mono (h A ok P F s R E) (fun fl s1 h1 => ?_) fun _ _ x => x.elim)
  cases fl with
  | next => exact wpAny_execs_nil h1
  | brk => exact h1
  | cont => exact h1
  | ret v => exact h1
end
end Mine
set_option maxRecDepth 100000
namespace Mine
open PySem PySem.W PyProof.Rows

section
variable {prog : Program} {w : World} {A : Around} {E : Value → Shared → Prop} {s : Shared}

/-- a tuple's iterator, asked by the enumerate's own road -/
theorem nextOf_tup {it t : Addr} {i : Nat} {items : Array Value} {x : Value} {Q : Value → Shared → Prop} (hit : s.heap.IsTupleIter it t i) (ht : s.heap.IsTuple t items) (hx : items[i]? = some x)
    (hQ : ∀ h', h'.IsTupleIter it t (i + 1) → Heap.SameBut it s.heap h' → Q x { s with heap := h' }) : wpAny (model prog w) A (Builtin.SmallTypes.nextOf (.ref it)) Q E s := by
  obtain ⟨o, ho, hc, hd⟩ := id hit
  obtain ⟨ol, hol, _, nl, hdl⟩ := ht
  unfold Builtin.SmallTypes.nextOf
  refine wpAny_bind (wpAny_callSpecial?_slot (name := Str.ofString "__next__") hit.typeIs PySem.F.slot_tuple_iterator_next
    (wpAny_call_entry PySem.F.slot_tuple_iterator_next hit.typeIs PySem.F.entry_tuple_iterator_next ?_ (PySem.F.args_tuple_iterator_next_1 _)))
  show wpAny _ _ (field (.ref it) 0 >>= _) _ _ s
  refine wpAny_bind (wpAny_field ho hd (x := .ref t) rfl ?_)
  show wpAny _ _ (if (Value.ref t == Value.none) = true then _ else _) _ _ s
  rw [if_neg (show ¬ ((Value.ref t == Value.none) = true) from Bool.false_ne_true)]
  show wpAny _ _ (field (.ref it) 1 >>= _) _ _ s
  refine wpAny_bind (wpAny_field ho hd (x := .int i 0) rfl ?_)
  show wpAny _ _ (seqItems? (.ref t) >>= _) _ _ s
  refine wpAny_bind (wpAny_seqItems hol hdl ?_)
  simp only [Int.toNat_natCast, hx]
  refine wpAny_bind (wpAny_setField ho hd (by simp) (wpAny_pure ⟨x, rfl, wpAny_pure (hQ _ ?_ (Heap.SameBut.update ..))⟩))
  exact ⟨_, Heap.get?_update_self _ ho (Obj.isFreed_of_fields (Obj.data_mapFields hd _)), (Obj.cls_mapFields ..).trans hc, by
    rw [Obj.data_mapFields hd]; simp [rawInt]⟩
theorem nextOf_tup_end {it t : Addr} {i : Nat} {items : Array Value} {Q : Value → Shared → Prop} (hh : A.handled = none) (hit : s.heap.IsTupleIter it t i) (ht : s.heap.IsTuple t items) (hx : items[i]? = none)
    (hE : ∀ h' e, Heap.ExtBut it s.heap h' → (∃ o, h'.get? e = some o ∧ o.cls = .type "StopIteration") → E (.ref e) { s with heap := h' }) : wpAny (model prog w) A (Builtin.SmallTypes.nextOf (.ref it)) Q E s := by
  obtain ⟨o, ho, hc, hd⟩ := id hit
  obtain ⟨ol, hol, _, nl, hdl⟩ := ht
  unfold Builtin.SmallTypes.nextOf
  refine wpAny_bind (wpAny_callSpecial?_slot (name := Str.ofString "__next__") hit.typeIs PySem.F.slot_tuple_iterator_next
    (wpAny_call_entry PySem.F.slot_tuple_iterator_next hit.typeIs PySem.F.entry_tuple_iterator_next ?_ (PySem.F.args_tuple_iterator_next_1 _)))
  show wpAny _ _ (field (.ref it) 0 >>= _) _ _ s
  refine wpAny_bind (wpAny_field ho hd (x := .ref t) rfl ?_)
  show wpAny _ _ (if (Value.ref t == Value.none) = true then _ else _) _ _ s
  rw [if_neg (show ¬ ((Value.ref t == Value.none) = true) from Bool.false_ne_true)]
  show wpAny _ _ (field (.ref it) 1 >>= _) _ _ s
  refine wpAny_bind (wpAny_field ho hd (x := .int i 0) rfl ?_)
  show wpAny _ _ (seqItems? (.ref t) >>= _) _ _ s
  refine wpAny_bind (wpAny_seqItems hol hdl ?_)
  simp only [Int.toNat_natCast, hx]
  refine wpAny_bind (wpAny_rule (wpAny_bind (wpAny_setField ho hd (by simp) ?_)))
  show wpAny _ _ (newExc (.type "StopIteration") [] >>= _) _ _ _
  refine wpAny_bind ?_
  simp only [newExc, newTuple]
  refine wpAny_bind (wpAny_newObj_type ?_ (by size_fits))
  refine wpAny_bind (m := firstArgMember _ _) (wpAny_of_eq (a := Value.none) (by first | rfl | (simp only [firstArgMember]; rfl)) ?_)
  refine wpAny_newObj_type ?_ (by size_fits)
  simp only [raiseNew]
  refine wpAny_bind (wpAny_handled ?_)
  first | rw [show A.in1.handled = none from hh] | rw [hh]
  refine wpAny_bind (wpAny_pure (wpAny_throw ?_))
  exact hE _ _ (((Heap.SameBut.update ..).extBut.push _).push _) ⟨_, Heap.get?_push_size _ rfl, rfl⟩

theorem tup_ext {h h' : Heap} {it t : Addr} {items : Array Value} (x : h.IsTuple t items) (hs : Heap.SameBut it h h') (hne : t ≠ it) : h'.IsTuple t items :=
  let ⟨o, h1, r⟩ := x; ⟨o, hs.extBut t o hne h1, r⟩
theorem draws_tup (hh : A.handled = none) (it t : Addr) (hne : t ≠ it) (items : Array Value) :
    Draws prog w A it [it, t] items.size (fun i v => items[i]? = some v) (fun i h => h.IsTupleIter it t i ∧ h.IsTuple t items) where
  live := fun _ _ st => let ⟨o, ho, _⟩ := st.1; ⟨o, ho⟩
  frame := fun _ _ _ st hk => ⟨IsTupleIter_at st.1 fun o e => hk it (by simp) o e, let ⟨o, h1, r⟩ := st.2; ⟨o, hk t (by simp) o h1, r⟩⟩
  item := fun i s Q E hi st hQ => by
    refine nextOf_tup st.1 st.2 (x := items[i]) (by simp [hi]) fun h' hit' hs' => ?_
    exact hQ _ h' s.toks (by simp [hi]) ⟨hit', tup_ext st.2 hs' hne⟩ hs'
  done := fun s Q E st hE => nextOf_tup_end hh st.1 st.2 (by simp) hE

theorem meets_enumT (l : Addr) (items : Array Value) (n : Nat) (dct : Option Addr) (sl : Array (Option Value)) :
    Meets (Builtin.«enumerate.__new__» ⟨[.type "enumerate", .ref l], []⟩) (fun _ R s => s.heap.get? l = some { cls := .type "tuple", dict := dct, data := .seq items n, slots := sl } ∧
      R (.ok (.ret (.ref (s.heap.push { cls := .type "tuple_iterator", data := .fields #[.ref l, .int 0 0] }).objs.size)))
        { s with heap := (s.heap.push { cls := .type "tuple_iterator", data := .fields #[.ref l, .int 0 0] }).push { cls := .type "enumerate", data := .fields #[.none, .bool false, .ref s.heap.objs.size, rawInt 0, .none, .none] } }) :=
  .of_wp fun prog w A R s h => by
    obtain ⟨hp, g, d, tk, os⟩ := s; obtain ⟨hl, h⟩ := h
    have hsub := sub_enumerate
    have hL : Heap.IsTuple (Shared.heap ⟨hp, g, d, tk, os⟩) l items := ⟨_, hl, rfl, n, rfl⟩
    wp_walk using AutoSeq1.wpAny_loadPart' hl
    refine wpAny_stack_any fun st => wpAny_pure ?_
    split
    · rename_i c _ _ _ _ _
      cases (c == Value.type "enumerate")
      · wp_walk using AutoSeq1.wpAny_loadPart' hl, wpAny_pyIter_tuple hL
        exact ⟨_, rfl, h⟩
      · wp_walk using AutoSeq1.wpAny_loadPart' hl, wpAny_pyIter_tuple hL
        exact ⟨_, rfl, h⟩
    · wp_walk using AutoSeq1.wpAny_loadPart' hl, wpAny_pyIter_tuple hL
      exact ⟨_, rfl, h⟩

theorem call_enumT {l : Addr} {items : Array Value} {Q : Value → Shared → Prop} (hL : s.heap.IsTuple l items)
    (h : ∀ h', IsEnum h' (s.heap.objs.size + 1) s.heap.objs.size 0 .none → h'.IsTupleIter s.heap.objs.size l 0 →
      (∀ b o, s.heap.get? b = some o → h'.get? b = some o) → Q (.ref (s.heap.objs.size + 1)) { s with heap := h' }) :
    wpAny (model prog w) A (call (.type "enumerate") [.ref l]) Q E s := by
  obtain ⟨⟨c, dct, dt, sl⟩, hl, hc, n, hd⟩ := hL
  replace hc : c = .type "tuple" := hc
  replace hd : dt = .seq items n := hd
  subst hc hd
  refine callType_new PySem.F.called_enumerate (by decide) (PySem.F.typeCall_enumerate_1 _) (PySem.F.newCall_enumerate_1 _) (fun obj => PySem.F.args_object_init_2 obj _) PySem.F.entry_enumerate_new
    (meets_enumT l items n dct sl) ⟨hl, ?_⟩
  have hz : (s.heap.push { cls := .type "tuple_iterator", data := .fields #[.ref l, .int 0 0] }).objs.size = s.heap.objs.size + 1 := Heap.size_push ..
  show _ ∧ _
  rw [hz]
  have he : IsEnum ((s.heap.push { cls := .type "tuple_iterator", data := .fields #[.ref l, .int 0 0] }).push
      { cls := .type "enumerate", data := .fields #[.none, .bool false, .ref s.heap.objs.size, rawInt 0, .none, .none] }) (s.heap.objs.size + 1) s.heap.objs.size 0 .none := by
    have := Heap.get?_push_size (s.heap.push { cls := .type "tuple_iterator", data := .fields #[.ref l, .int 0 0] })
      (o := { cls := .type "enumerate", data := .fields #[.none, .bool false, .ref s.heap.objs.size, rawInt 0, .none, .none] }) rfl
    rw [hz] at this; exact this
  exact ⟨⟨_, he, rfl⟩, h _ he ⟨_, Heap.get?_push_of_some _ (Heap.get?_push_size _ rfl), rfl, rfl⟩ fun b o x => Heap.get?_push_of_some _ (Heap.get?_push_of_some _ x)⟩
end

section
variable {X : Cx} {P P' : Heap} {F : Addr → Option Obj} {σ σ' : Led} {s s' : Shared} {h' : Heap} {W : Addr → Prop} {tk : Nat} {env : Env} {m mc : List (Str × V)} {n : Nat}

/-- a call, and what it gives is walked -/
def Ci (X : Cx) (n : Nat) (env : Env) (target : Expr) (f : Value) (vs : List V) (m : List (Str × V)) (σ : Led) (Q : List V → Led → Prop) : Prop :=
  ∀ A, Ok A n → ∀ P F s cs, RelC X P F σ s → EnvIs X P F σ env m s.heap → Paired (fun v c => VRel X.w P v c) vs cs →
    wpAny X.M A (call f cs) (fun x s1 => wpAny X.M A (pyIter x) (PostI X n P F env m target Q) NoE s1) NoE s
theorem It_call {func target : Expr} {args : List Expr} {pos : Pos} {Q : List V → Led → Prop} (hp : plainArgs args = true)
    (h : Ev X n env (eval func env) m σ fun fv σ1 => ∃ f, fv = .c f ∧ Callee X f ∧ EvL X n env args m σ1 fun vs σ2 => Ci X n env target f vs m σ2 Q)
    (he : eval (.Call func args [] pos) env = (do callWith pos (← eval func env) [] (backTo pos (starEach args env)) (backToKw pos (keywordEach [] env))) := by rfl) :
    It X n env (.Call func args [] pos) target m σ Q := by
  intro A ok P F s R E
  rw [he]
  refine wpAny_bind (wpM (h A ok P F s R E) ?_)
  rintro c s1 ⟨P1, v, σ1, p1, r1, R1, E1, f, rfl, hc, h1⟩
  cases r1
  refine callWith_any hc hp R1.KIn (wpM (EvL_run ok hp h1 R1 E1) ?_)
  rintro cs s2 ⟨P2, vs, σ2, p2, r2, R2, E2, h2⟩
  refine ⟨R2.KIn, ?_⟩
  exact wpM (h2 A ok P2 F s2 cs R2 E2 r2) fun _ _ h => wpM h fun _ _ => PostI.up (stays_trans p1 p2)

theorem ci_range_core {target : Expr} {a : Int} {k : Nat} {Q : List V → Led → Prop} {A : Around} (R : RelC X P F σ s) (E : EnvIs X P F σ env m s.heap) {b : Int} {t u v : Tok} {tk : Nat}
    (hs : Builtin.Range.small a b 1 = true) (hk : Builtin.Range.rangeSize a b 1 = k) (h : Q (rng a k) σ) :
    wpAny X.M A (pyIter (.ref s.heap.objs.size)) (PostI X n P F env m target Q) NoE { s with heap := s.heap.push { cls := .type "range", data := .fields #[.int a t, .int b u, .int 1 v] }, toks := tk } := by
  refine wpAny_pyIter_range (a := a) (b := b) (c := 1) (t := t) (u := u) (v := v) (Heap.get?_push_size _ rfl) hs ?_
  dsimp only
  have hz : (s.heap.push { cls := .type "range", data := .fields #[.int a t, .int b u, .int 1 v] }).objs.size = s.heap.objs.size + 1 := Heap.size_push ..
  rw [hk]
  have hkp : s.heap.StaysIn ((s.heap.push { cls := .type "range", data := .fields #[.int a t, .int b u, .int 1 v] }).push { cls := .type "range_iterator", data := .fields #[rawInt a, rawInt (k : Int), rawInt 1] }) :=
    fun b o e => Heap.get?_push_of_some _ (Heap.get?_push_of_some _ e)
  have hI : IsRangeIter ((s.heap.push { cls := .type "range", data := .fields #[.int a t, .int b u, .int 1 v] }).push { cls := .type "range_iterator", data := .fields #[rawInt a, rawInt (k : Int), rawInt 1] }) (s.heap.push { cls := .type "range", data := .fields #[.int a t, .int b u, .int 1 v] }).objs.size a k 1 := Heap.get?_push_size _ rfl
  rw [hz] at hI ⊢
  obtain ⟨R1, E1, p1, F1⟩ := made (W := fun b => b = s.heap.objs.size + 1) R E hkp (fun a ha => ha ▸ size_none _ (Nat.le_succ _)) tk
  exact ⟨_, s.heap.objs.size + 1, _, _, _, σ, rfl, p1, itr_range (F1 _ rfl).1, (by simpa using hI), F1, R1, E1, h⟩

theorem ci_range1 {target : Expr} {k : Nat} {Q : List V → Led → Prop} (hk : k < 2 ^ 62) (h : Q (rng 0 k) σ) : Ci X n env target (.type "range") [.d (.int k)] m σ Q := by
  intro A ok P F s cs R E r
  cases r with | cons r1 r2 =>
    cases r2
    obtain ⟨t, rfl⟩ := vint r1
    refine call_range_1 (ci_range_core R E (small_one (by omega) (by omega) (by omega) (by omega)) ?_ h)
    rw [rangeSize_one]; split <;> omega
theorem ci_range2 {target : Expr} {a b : Int} {k : Nat} {Q : List V → Led → Prop} (ha : -(2 ^ 62) ≤ a ∧ a < 2 ^ 62) (hb : -(2 ^ 62) ≤ b ∧ b < 2 ^ 62) (hk : (k : Int) = if a < b then b - a else 0) (h : Q (rng a k) σ) : Ci X n env target (.type "range") [.d (.int a), .d (.int b)] m σ Q := by
  intro A ok P F s cs R E r
  cases r with | cons r1 r2 => cases r2 with | cons r2 r3 =>
    cases r3
    obtain ⟨t, rfl⟩ := vint r1
    obtain ⟨u, rfl⟩ := vint r2
    refine call_range_2 (ci_range_core R E (small_one (by omega) (by omega) (by omega) (by omega)) ?_ h)
    rw [rangeSize_one, hk]

theorem ci_enumL {elts : List Expr} {kk : Nat} {tpos : Pos} {ds : List PyData} {Q : List V → Led → Prop} (h : Q (enumV 0 ds) σ) : Ci X n env (.Tuple elts kk tpos) (.type "enumerate") [.d (.list ds)] m σ Q := by
  intro A ok P F s cs R E r
  cases r with | cons r1 r2 => cases r2 with | nil =>
    obtain ⟨a, _, dd, vs, k, sl, as, rfl, e1, rfl, q1⟩ := vlist r1
    have hL : s.heap.IsList a vs := ⟨_, R.stays _ _ e1, rfl, k, rfl⟩
    refine call_enumerate_list hL fun h' he hit _ hk => wpAny_pyIter_enum he ?_
    obtain ⟨R1, E1, p1, F1⟩ := made (h' := h') (W := fun b => b = s.heap.objs.size + 1 ∨ b = s.heap.objs.size) R E (fun b o e => hk b o e) (fun a ha => by
      rcases ha with rfl | rfl
      · exact size_none _ (Nat.le_succ _)
      · exact size_none _ (Nat.le_refl _)) s.toks
    have hlt := Heap.lt_size (R.stays _ _ e1)
    refine ⟨_, s.heap.objs.size + 1, _, _, _, σ, rfl, p1, itr_enum (it := s.heap.objs.size) (fun A hh => Draws.list hh s.heap.objs.size a (Nat.ne_of_lt hlt) vs) (fun b hb => ?_) (ReadsAll.keeps p1 q1) (Nat.succ_ne_self _) (F1 _ (.inl rfl)).1 (by simp) (F1 _ (.inr rfl)).1, ?_, F1, R1, E1, h⟩
    · rcases List.mem_cons.mp hb with q | q
      · exact .inl q
      · rw [List.mem_singleton.mp q]; exact .inr ⟨_, p1 _ _ e1⟩
    · exact ⟨⟨⟨_, he⟩, hit, hL.at fun o e => hk a o e⟩, R1.stays⟩
theorem ci_enumT {elts : List Expr} {kk : Nat} {tpos : Pos} {ds : List PyData} {Q : List V → Led → Prop} (h : Q (enumV 0 ds) σ) : Ci X n env (.Tuple elts kk tpos) (.type "enumerate") [.d (.tuple ds)] m σ Q := by
  intro A ok P F s cs R E r
  cases r with | cons r1 r2 => cases r2 with | nil =>
    obtain ⟨a, _, dd, vs, k, sl, as, rfl, e1, rfl, q1⟩ := vtuple r1
    have hL : s.heap.IsTuple a vs := ⟨_, R.stays _ _ e1, rfl, k, rfl⟩
    refine call_enumT hL fun h' he hit hk => wpAny_pyIter_enum he ?_
    obtain ⟨R1, E1, p1, F1⟩ := made (h' := h') (W := fun b => b = s.heap.objs.size + 1 ∨ b = s.heap.objs.size) R E (fun b o e => hk b o e) (fun a ha => by
      rcases ha with rfl | rfl
      · exact size_none _ (Nat.le_succ _)
      · exact size_none _ (Nat.le_refl _)) s.toks
    have hlt := Heap.lt_size (R.stays _ _ e1)
    refine ⟨_, s.heap.objs.size + 1, _, _, _, σ, rfl, p1, itr_enum (it := s.heap.objs.size) (fun A hh => draws_tup hh s.heap.objs.size a (Nat.ne_of_lt hlt) vs) (fun b hb => ?_) (ReadsAll.keeps p1 q1) (Nat.succ_ne_self _) (F1 _ (.inl rfl)).1 (by simp) (F1 _ (.inr rfl)).1, ?_, F1, R1, E1, h⟩
    · rcases List.mem_cons.mp hb with q | q
      · exact .inl q
      · rw [List.mem_singleton.mp q]; exact .inr ⟨_, p1 _ _ e1⟩
    · exact ⟨⟨⟨_, he⟩, hit, let ⟨o, h1, r⟩ := hL; ⟨o, hk a o h1, r⟩⟩, R1.stays⟩
end
end Mine
set_option maxRecDepth 100000
namespace Mine
open PySem PySem.W PyProof.Rows

section
variable {X : Cx} {P P' : Heap} {F : Addr → Option Obj} {σ σ' : Led} {s s' : Shared} {h' : Heap} {W : Addr → Prop} {tk : Nat} {env : Env} {m mc : List (Str × V)} {n : Nat} {Q : V → Led → Prop}

/-! ## small types called -/
theorem tuple_tupleD {ds : List PyData} (h : Q (.d (.tuple ds)) σ) : Cl X n (.type "tuple") [.d (.tuple ds)] σ Q := cl_one fun A ok P F s c R r => by
  obtain ⟨l, _, dd, xs, k, sl, as, rfl, e1, rfl, q1⟩ := vtuple r
  exact call_tuple_same ⟨_, R.stays _ _ e1, rfl, k, rfl⟩ (PostO.intro R r h)
theorem new_at {a : Addr} {o : Obj} {v : V} (R : RelC X P F σ s) (hk : s.heap.StaysIn h') (ha : s.heap.get? a = none) (ho : h'.get? a = some o) (hv : ∀ P2, P.StaysIn P2 → P2.get? a = some o → VRel X.w P2 v (.ref a)) (h : Q v σ) :
    PostO X P F Q (.ref a) { s with heap := h', toks := tk } := by
  obtain ⟨p1, R1⟩ := R.grow hk (tk := tk)
  exact ⟨_, v, σ, p1, hv _ p1 (nextP_get_new ha (fun x => x) ho), R1, h⟩
theorem list_tupleD {ds : List PyData} (hsz : ds.length ≤ sizeLine) (h : Q (.d (.list ds)) σ) : Cl X n (.type "list") [.d (.tuple ds)] σ Q := cl_one fun A ok P F s c R r => by
  obtain ⟨l, _, dd, xs, k, sl, as, rfl, e1, rfl, q1⟩ := vtuple r
  have hz := readsAll_size q1
  refine call_list_seq l (T := "tuple") (items := xs) (n := k) (.inr rfl) (R.stays _ _ e1) rfl rfl (fun h' c' hk hg => ?_) (by rw [hz]; exact hsz)
  exact new_at (tk := s.toks) R hk (size_none _ (Nat.le_refl _)) hg (fun P2 p2 hg2 => .d (.list hg2 rfl rfl (ReadsAll.keeps p2 q1))) h

theorem Ok.make {A : Around} {n : Nat} {C : Addr} {rest : List Value} {kw : List (Str × Value)} (h : Ok A (n + 1)) : Ok (A.under (.builtin "type.__call__" ⟨.ref C :: rest, kw⟩)) n := by
  refine ⟨h.1, ?_, ?_⟩
  · have e : (Code.builtin "type.__call__" ⟨.ref C :: rest, kw⟩).weight = 1 := by kernel_rfl
    show A.depth + (Code.builtin "type.__call__" ⟨.ref C :: rest, kw⟩).weight + n ≤ _
    rw [e]; have := h.2; omega
  · have e : (Code.builtin "type.__call__" ⟨.ref C :: rest, kw⟩).cUnits = 1 := by kernel_rfl
    show A.units + (Code.builtin "type.__call__" ⟨.ref C :: rest, kw⟩).cUnits + _ ≤ _
    rw [e]; have := h.3; omega

/-! ## a dict's display -/
def pairE (env : Env) (pos : Pos) (kvs : List (Expr × Expr)) : List (Sem Value × Sem Value) := kvs.map fun p => (eval p.1 env, do let x ← eval p.2 env; standAt pos; pure x)
def EvKV (X : Cx) (n : Nat) (env : Env) (m : List (Str × V)) : List (Expr × Expr) → Led → (List (Str × V) → Led → Prop) → Prop
  | [], σ, Q => Q [] σ
  | (k, e) :: r, σ, Q => Ev X n env (eval k env) m σ fun kv σ1 => ∃ x, kv = .d (.str x) ∧ Ev X n env (eval e env) m σ1 fun v σ2 => EvKV X n env m r σ2 fun kvs σ3 => Q ((x, v) :: kvs) σ3

theorem EvKV_run {A : Around} (ok : Ok A n) {pos : Pos} : ∀ {kvs : List (Expr × Expr)} {σ : Led} {Q : List (Str × V) → Led → Prop} {P : Heap} {s : Shared}, EvKV X n env m kvs σ Q → RelC X P F σ s → EnvIs X P F σ env m s.heap →
    wpAny X.M A (evalPairs (pairE env pos kvs)) (fun vs s' => ∃ P' kvs' cs σ', P.StaysIn P' ∧ Carries (strKind X.prog X.w) vs cs ∧ Paired (fun (p : Str × V) (q : Str × Value) => p.1 = q.1 ∧ VRel X.w P' p.2 q.2) kvs' cs ∧ RelC X P' F σ' s' ∧ EnvIs X P' F σ' env m s'.heap ∧ Q kvs' σ') NoE s := by
  intro kvs
  induction kvs with
  | nil => intro σ Q P s h R E; exact evalPairs_nil ⟨P, [], [], σ, stays_refl _, trivial, .nil, R, E, h⟩
  | cons p r ih =>
    obtain ⟨k, e⟩ := p
    intro σ Q P s h R E
    show wpAny X.M A (evalPairs ((eval k env, do let x ← eval e env; standAt pos; pure x) :: pairE env pos r)) _ _ s
    refine evalPairs_cons (wpM (h A ok P F s R E) ?_)
    rintro ck s1 ⟨P1, kv, σ1, p1, r1, R1, E1, x, rfl, h1⟩
    obtain ⟨u, rfl⟩ := vstr r1
    refine wpAny_bind (wpM (h1 A ok P1 F s1 R1 E1) ?_)
    rintro c s2 ⟨P2, v, σ2, p2, r2, R2, E2, h2⟩
    refine wpAny_bind (wpAny_standAt (wpAny_pure (wpM (ih h2 R2 E2) ?_)))
    rintro vs s3 ⟨P3, kvs', cs, σ3, p3, h3, h4, R3, E3, h5⟩
    exact ⟨P3, (x, v) :: kvs', (x, c) :: cs, σ3, stays_trans p1 (stays_trans p2 p3), ⟨strKind_is X.prog X.w x u, rfl, h3⟩, .cons ⟨rfl, r2.keeps p3⟩ h4, R3, E3, h5⟩

/-- a new object of the ledger -/
theorem new_mo {o : Obj} {mo : MO} (R : RelC X P F σ s) (E : EnvIs X P F σ env m s.heap) (hf : o.isFreed = false) (hm : ∀ P2, P.StaysIn P2 → MoIs X.w P2 mo (s.heap.push o) s.heap.objs.size) :
    ∃ P2, P.StaysIn P2 ∧ σ s.heap.objs.size = none ∧ RelC X P2 F (σ.set s.heap.objs.size mo) { s with heap := s.heap.push o } ∧ EnvIs X P2 F (σ.set s.heap.objs.size mo) env m (s.heap.push o) := by
  have hnew : s.heap.get? s.heap.objs.size = none := size_none _ (Nat.le_refl _)
  have fr := R.fresh hnew
  have Fr := new_free (W := fun b => b = s.heap.objs.size) R E fun a ha => ha ▸ hnew
  have hk : ∀ b q, ¬ b = s.heap.objs.size → s.heap.get? b = some q → (s.heap.push o).get? b = some q := fun b q _ e => Heap.get?_push_of_some _ e
  have p2 := R.stays_next hk fun b hb => (Fr b hb).1
  obtain ⟨_, E2, _, _⟩ := Fr.step R E hk s.toks
  refine ⟨_, p2, fr.2.2, R.move (tk := s.toks) hk (fun b hb => ⟨(Fr b hb).1, (Fr b hb).2.1⟩) fun a q e => ?_, E2.setσ (Fr _ rfl).2.2.2⟩
  by_cases q' : a = s.heap.objs.size
  · subst q'
    rw [Led.set_self] at e; cases e
    exact .inr ⟨rfl, hm _ p2⟩
  · rw [Led.set_ne _ _ q'] at e; exact .inl ⟨q', e⟩

theorem dict_core {A : Around} (ok : Ok A n) {keys : List (Option Expr)} {values : List Expr} {pos : Pos} (kvs : List (Expr × Expr)) {Q : Value → Shared → Prop} (h0 : kvs ≠ []) (hlen : kvs.length ≤ 15)
    (hshape : (evalEachOpt keys env).zip ((evalEach values env).map fun v => do let x ← v; standAt pos; pure x) = (pairE env pos kvs).map fun p => (some p.1, p.2))
    (R : RelC X P F σ s) (E : EnvIs X P F σ env m s.heap)
    (h : σ s.heap.objs.size = none → EvKV X n env m kvs (σ.set s.heap.objs.size (.dct [])) fun vs σ1 => σ1 s.heap.objs.size = some (.dct []) ∧ (vs.map (·.1)).Nodup ∧
      ∀ P' s', P.StaysIn P' → RelC X P' F (σ1.set s.heap.objs.size (.dct vs)) s' → EnvIs X P' F (σ1.set s.heap.objs.size (.dct vs)) env m s'.heap → Q (.ref s.heap.objs.size) s') :
    wpAny X.M A (eval (.Dict keys values pos) env) Q NoE s := by
  obtain ⟨P1, p1, hn, R1, E1⟩ := new_mo (o := { cls := .type "dict", data := .dict #[] }) (mo := .dct []) R E rfl fun P2 p2 => ⟨[], 0, Heap.get?_push_size _ rfl, .nil⟩
  refine wpAny_Dict_pairs (knd := strKind X.prog X.w) hshape (by cases kvs <;> simp_all [pairE]) (by simpa [pairE] using hlen) (wpM (EvKV_run ok (h hn) R1 E1) ?_)
  rintro vs s2 ⟨P2, kvs', cs, σ2, p2, h3, h4, R2, E2, hσ, hnd, hq⟩
  obtain ⟨⟨es, k, hg, he⟩, _⟩ := R2.own _ _ hσ
  cases he
  have hkeys := pairs_keys (w := X.w) (G := fun v c => VRel X.w P2 v c) h4
  refine ⟨cs, h3, ⟨_, #[], k, hg, ⟨rfl, rfl, rfl⟩, rfl, fun _ he => by simp at he, .nil, List.nodup_nil⟩, fun h' hd hs => ?_⟩
  rw [merged_nil_of_nodup _ (hkeys ▸ hnd)] at hd
  obtain ⟨es', k', hg', he'⟩ := dictOf_ent hd h4
  have hm : MoIs X.w P2 (.dct kvs') h' s.heap.objs.size := ⟨es', k', hg', he'⟩
  have nl := E2.not_own hσ
  refine hq P2 _ (stays_trans p1 p2) (R2.upd hσ (fun b q hb e => hs.extBut b q hb e) hm) ?_
  have E3 := E2.but (h' := h') (W := fun b => b = s.heap.objs.size) (fun b e => by cases e; exact nl) fun b q hb e => hs.extBut b q hb e
  exact E3.setσ nl

theorem RelC.above (R : RelC X P F σ s) : s.heap.objs.size ≠ sysModules := fun e => by
  obtain ⟨b, o, hb, hg⟩ := X.big
  have := Heap.lt_size (R.stay _ _ hg)
  rw [e] at this; exact absurd this (Nat.not_lt.mpr hb)

theorem EvKV.mono : ∀ {kvs : List (Expr × Expr)} {σ : Led} {Q Q' : List (Str × V) → Led → Prop}, EvKV X n env m kvs σ Q → (∀ a b, Q a b → Q' a b) → EvKV X n env m kvs σ Q'
  | [], _, _, _, h, hq => hq _ _ h
  | (k, e) :: r, _, _, _, h, hq => Ev.mono h fun v σ1 ⟨x, e1, h1⟩ => ⟨x, e1, h1.mono fun v σ2 h2 => EvKV.mono h2 fun a b => hq _ _⟩

theorem Ev_DictM {keys : List (Option Expr)} {values : List Expr} {pos : Pos} (kvs : List (Expr × Expr)) (h0 : kvs ≠ []) (hlen : kvs.length ≤ 15)
    (hshape : (evalEachOpt keys env).zip ((evalEach values env).map fun v => do let x ← v; standAt pos; pure x) = (pairE env pos kvs).map fun p => (some p.1, p.2))
    (h : ∀ a, σ a = none → EvKV X n env m kvs (σ.set a (.dct [])) fun vs σ1 => σ1 a = some (.dct []) ∧ (vs.map (·.1)).Nodup ∧ Q (.c (.ref a)) (σ1.set a (.dct vs))) : Ev X n env (eval (.Dict keys values pos) env) m σ Q := by
  intro A ok P F s R E
  exact dict_core ok kvs h0 hlen hshape R E fun hn => EvKV.mono (h _ hn) fun vs σ1 ⟨a1, a2, a3⟩ => ⟨a1, a2, fun P' s' p R' E' => ⟨P', _, _, p, .c _, R', E', a3⟩⟩
/-- a dict that stays as it is -/
theorem Ev_DictF {keys : List (Option Expr)} {values : List Expr} {pos : Pos} (kvs : List (Expr × Expr)) (h0 : kvs ≠ []) (hlen : kvs.length ≤ 15)
    (hshape : (evalEachOpt keys env).zip ((evalEach values env).map fun v => do let x ← v; standAt pos; pure x) = (pairE env pos kvs).map fun p => (some p.1, p.2))
    (h : ∀ a, σ a = none → EvKV X n env m kvs (σ.set a (.dct [])) fun vs σ1 => σ1 a = some (.dct []) ∧ (vs.map (·.1)).Nodup ∧ Q (.dct vs) (σ1.del a)) : Ev X n env (eval (.Dict keys values pos) env) m σ Q := by
  intro A ok P F s R E
  have ab := R.above
  refine dict_core ok kvs h0 hlen hshape R E fun hn => EvKV.mono (h _ hn) fun vs σ1 ⟨a1, a2, a3⟩ => ⟨a1, a2, fun P' s' p R' E' => ?_⟩
  have hσ : (σ1.set s.heap.objs.size (.dct vs)) s.heap.objs.size = some (.dct vs) := Led.set_self ..
  obtain ⟨up, R2⟩ := R'.freeze hσ
  have E2 := EnvIs.freeze R' hσ E'
  obtain ⟨⟨es, k, hg, he⟩, _⟩ := R'.own _ _ hσ
  have e : (σ1.set s.heap.objs.size (.dct vs)).del s.heap.objs.size = σ1.del s.heap.objs.size := by
    funext b; by_cases hb : b = s.heap.objs.size <;> simp [Led.del, Led.set, hb]
  rw [e] at R2 E2
  exact ⟨_, _, _, stays_trans p up, .dct ab (by rw [addP_new]; exact hg) (he.keeps up), R2, E2, a3⟩

/-! ## dict(pairs) -/
end
end Mine
set_option maxRecDepth 100000
namespace Mine
open PySem PySem.W PyProof.Rows

section
variable {prog : Program} {w : World} {A : Around} {E : Value → Shared → Prop} {s : Shared}

theorem emptyHeap_get (a : Addr) : (⟨#[], s.heap.life⟩ : Heap).get? a = none := size_none _ (Nat.zero_le _)

open Classical in
theorem setattr_raw {K : Frag} {x C dx L : Addr} {m : Str → Option Value} {es : List DictEntry} {n : Nat} {name : Str} {v : Value} {Q : Unit → Shared → Prop} (X : K.In s.heap) (hn : s.heap.Ns L m) (hx : s.heap.get? x = some (instObj C dx)) (hdx : s.heap.get? dx = some (dictOf es n))
    (hLd : L ≠ dx) (hs : findIn K (.ref C) "__setattr__" = some (some (.builtin "object.__setattr__"))) (hp : plainOver K C = true) (ht : takerIn K C name = some none) (hh : hasDictIn K C = true) (hl : (getL name es).isSome = true)
    (hz : (putL name (PyData.keyHash w.params name) (.str name (s.toks + 1)) v es).length ≤ 1000)
    (h : ∀ h', (∀ b o, b ≠ L → b ≠ dx → s.heap.get? b = some o → h'.get? b = some o) → h'.Ns L m → h'.get? dx = some (dictOf (putL name (PyData.keyHash w.params name) (.str name (s.toks + 1)) v es) (putN name es n)) → Q () { s with heap := h', toks := s.toks + 2 }) :
    wpAny (model prog w) A (setAttr (.ref x) name v) Q E s := by
  have I : InstAt s.heap x (instObj C dx) C (some (dictOf es n)) := ⟨hx, rfl, rfl, hdx⟩
  have F : Fr ⟨#[], s.heap.life⟩ L s.heap m := ⟨hn, fun b o e => (by rw [emptyHeap_get] at e; cases e), Nat.zero_le _⟩
  let rest := (List.range s.heap.objs.size).filterMap fun b => if b = L ∨ b = dx then none else (s.heap.get? b).map fun o => (b, o)
  have hr : ∀ p ∈ rest, s.heap.get? p.1 = some p.2 ∧ p.1 ≠ L ∧ p.1 ≠ dx := fun p hp => by
    obtain ⟨b, _, hb⟩ := List.mem_filterMap.mp hp
    split at hb
    · cases hb
    · rename_i hne
      cases hg : s.heap.get? b with
      | none => rw [hg] at hb; cases hb
      | some o => rw [hg] at hb; cases hb; exact ⟨hg, fun e => hne (.inl e), fun e => hne (.inr e)⟩
  have hall : ∀ b o, b ≠ L → b ≠ dx → s.heap.get? b = some o → (b, o) ∈ rest := fun b o h1 h2 hg =>
    List.mem_filterMap.mpr ⟨b, List.mem_range.mpr (Heap.lt_size hg), by rw [if_neg (by simp [h1, h2]), hg]; rfl⟩
  have N : News ⟨#[], s.heap.life⟩ L s.heap ((dx, dictOf es n) :: rest) := fun p hp => by
    rcases List.mem_cons.mp hp with rfl | hp
    · exact ⟨hdx, hLd.symm, emptyHeap_get _⟩
    · exact ⟨(hr p hp).1, (hr p hp).2.1, emptyHeap_get _⟩
  refine set_plain X I hs (osa_dict (s := { s with toks := s.toks + 1 }) (pre := []) F N X I rfl hp ht hh hl (fun _ h => by cases h) (fun p hp => (hr p hp).2.2) (putName_dict ..) rfl hz fun h' F' N' => ?_)
  exact h h' (fun b o h1 h2 hg => (N' _ (.tail _ (hall b o h1 h2 hg))).1) F'.ns (N' _ (.head _)).1
end

section
variable {X : Cx} {P P' : Heap} {F : Addr → Option Obj} {σ σ' : Led} {s s' : Shared} {h' : Heap} {W : Addr → Prop} {tk : Nat} {env : Env} {m mc : List (Str × V)} {n : Nat} {Q : V → Led → Prop}

theorem ent_getL {w : World} {x : Str} {kvs : List (Str × V)} {es : List DictEntry} (h : EntRel w P kvs es) : (∀ v, kvs.lookup x = some v → ∃ c, getL x es = some (some c) ∧ VRel w P v c) ∧ (kvs.lookup x = none → getL x es = some none) := by
  refine EntRel.ind (M := fun kvs es => (∀ v, kvs.lookup x = some v → ∃ c, getL x es = some (some c) ∧ VRel w P v c) ∧ (kvs.lookup x = none → getL x es = some none)) ⟨fun v h => (by cases h), fun _ => rfl⟩ (fun {y t u c r es} h1 h2 ih => ?_) h
  have e : getL x (⟨PyData.keyHash w.params y, .str y t, c⟩ :: es) = if x = y then some (some c) else getL x es := by
    unfold getL
    rw [List.find?_cons]
    by_cases q : x = y
    · subst q; simp [Value.isStr]
    · have q2 : Value.isStr (.str y t) x = false := by simp [Value.isStr, Ne.symm q]
      simp only [q2, q, if_false, List.any_cons]
      rfl
  rw [e, lookup_mset]
  by_cases q : x = y
  · rw [if_pos q, if_pos q]
    exact ⟨fun v h => (by cases h; exact ⟨c, rfl, h1⟩), fun h => (by cases h)⟩
  · rw [if_neg q, if_neg q]; exact ih
theorem ent_putL {w : World} {x : Str} {t : Tok} {v : V} {c : Value} (hv : VRel w P v c) {kvs : List (Str × V)} {es : List DictEntry} (h : EntRel w P kvs es) : kvs.lookup x = none → EntRel w P (kvs ++ [(x, v)]) (putL x (PyData.keyHash w.params x) (.str x t) c es) := by
  refine EntRel.ind (M := fun kvs es => kvs.lookup x = none → EntRel w P (kvs ++ [(x, v)]) (putL x (PyData.keyHash w.params x) (.str x t) c es)) (fun _ => .cons hv .nil) (fun {y t' u c' r es} h1 h2 ih h => ?_) h
  rw [lookup_mset] at h
  by_cases q : x = y
  · rw [if_pos q] at h; cases h
  · rw [if_neg q] at h
    have q2 : Value.isStr (.str y t') x = false := by simp [Value.isStr, Ne.symm q]
    unfold putL
    simp only [q2, Bool.false_eq_true, if_false]
    exact .cons h1 (ih h)
theorem ent_len {w : World} {kvs : List (Str × V)} {es : List DictEntry} (h : EntRel w P kvs es) : es.length = kvs.length := EntRel.ind (M := fun kvs es => es.length = kvs.length) rfl (fun _ _ ih => congrArg (· + 1) ih) h

/-- what a class of the written part lets be stored -/
structure Plain (K : Frag) (C : Addr) : Prop where
  set : findIn K (.ref C) "__setattr__" = some (some (.builtin "object.__setattr__"))
  over : plainOver K C = true
  dict : hasDictIn K C = true
  get : plainGet K C "" = true

theorem Ex_AssignAttr {o value : Expr} {attr : Str} {pos' pos : Pos} {C x dx : Addr} {Q : Fl → List (Str × V) → Led → Prop} (Pl : Plain X.K C) (ht : takerIn X.K C attr = some none)
    (h : Ev X n env (eval value env) m σ fun v σ1 => Ev X n env (eval o env) m σ1 fun ov σ2 => ov = .c (.ref x) ∧ ∃ kvs, σ2 x = some (.raw (instObj C dx)) ∧ σ2 dx = some (.dct kvs) ∧ kvs.lookup attr = none ∧ kvs.length ≤ 100 ∧ Q .next m (σ2.set dx (.dct (kvs ++ [(attr, v)]))))
    (hs : swapsWith value (some (.Attribute o attr pos')) pos.line env = pure false := by rfl) : Ex X n env (exec (.Assign [.Attribute o attr pos'] value pos) env) m σ Q := by
  intro A ok P F s R E
  refine plainObj_wpAny_Assign_Attribute (wpM (h A ok P F s R E) ?_) hs
  rintro c s1 ⟨P1, v, σ1, p1, r1, R1, E1, h1⟩
  refine wpM (h1 A ok P1 F s1 R1 E1) ?_
  rintro co s2 ⟨P2, ov, σ2, p2, r2, R2, E2, rfl, kvs, hx, hdx, hk, hl, hq⟩
  cases r2
  have hxo := (R2.own _ _ hx).1
  obtain ⟨⟨es, k, hg, he⟩, hP⟩ := R2.own _ _ hdx
  obtain ⟨cm, hn, hcm⟩ := E2.ns
  have nl := E2.not_own hdx
  have hLd : env.locals ≠ dx := fun e => nl (.inl e.symm)
  have hput := ent_putL (x := attr) (t := s2.toks + 1) (r1.keeps p2) he hk
  refine setattr_raw R2.KIn hn hxo hg hLd Pl.set Pl.over ht Pl.dict (by rw [(ent_getL (x := attr) he).2 hk]; rfl) (by rw [ent_len hput]; simp; omega) fun h' hk' hn' hg' => ?_
  have ap := E2.apart env.locals (.inl rfl)
  have hm : MoIs X.w P2 (.dct (kvs ++ [(attr, v)])) h' dx := ⟨_, _, hg', hput⟩
  -- the frame's own locals are written anew; nothing else but the dict
  have hL : ∀ b o, b ≠ dx → s2.heap.get? b = some o → b = env.locals ∨ h'.get? b = some o := fun b o hb e => by
    by_cases q : b = env.locals
    · exact .inl q
    · exact .inr (hk' b o q hb e)
  have R3 : RelC X P2 F (σ2.set dx (.dct (kvs ++ [(attr, v)]))) { s2 with heap := h', toks := s2.toks + 2 } := by
    refine ⟨R2.base, fun b q e => ?_, fun a q e => ?_, fun a q e => ?_, R2.gens, R2.os⟩
    · exact hk' b q (fun z => by rw [z, ap.1] at e; cases e) (fun z => by rw [z, hP] at e; cases e) (R2.stays _ _ e)
    · obtain ⟨a1, a2, a3⟩ := R2.fr a q e
      have n1 : a ≠ dx := fun z => by rw [z, hdx] at a3; cases a3
      exact ⟨hk' a q (fun z => by rw [z, ap.2.1] at e; cases e) n1 a1, a2, by rw [Led.set_ne _ _ n1]; exact a3⟩
    · by_cases n1 : a = dx
      · subst n1; rw [Led.set_self] at e; cases e; exact ⟨hm, hP⟩
      · rw [Led.set_ne _ _ n1] at e
        obtain ⟨a1, a2⟩ := R2.own a q e
        have n2 : a ≠ env.locals := fun z => by rw [z, ap.2.2] at e; cases e
        exact ⟨a1.keeps (stays_refl P2) fun q' e' => hk' a q' n2 n1 e', a2⟩
  refine ⟨P2, .next, m, _, stays_trans p1 p2, .next, R3, ?_, hq⟩
  have E3 : EnvIs X P2 F σ2 env m h' := by
    have oth : ∀ p ∈ env.cells, p.2 ≠ env.locals ∧ p.2 ≠ dx := fun p hp => ⟨fun e => by
      have := E2.dist
      rw [List.nodup_cons] at this
      exact this.1 (e ▸ List.mem_map_of_mem hp), fun e => nl (e ▸ .inr (List.mem_map_of_mem hp))⟩
    refine ⟨E2.kind, E2.glob, E2.blt, ⟨cm, hn', hcm⟩, fun y u h1 h2 => ?_, E2.kinds, fun p hp => ?_, E2.apart, E2.dist⟩
    · obtain ⟨a, c', h3, ⟨o, ho, hd⟩, h5⟩ := E2.cells y u h1 h2
      obtain ⟨n1, n2⟩ := oth _ (lookup_mem h3)
      exact ⟨a, c', h3, ⟨o, hk' a o n1 n2 ho, hd⟩, h5⟩
    · obtain ⟨u, o, ho, hd⟩ := E2.cellObj p hp
      obtain ⟨n1, n2⟩ := oth p hp
      exact ⟨u, o, hk' _ o n1 n2 ho, hd⟩
  exact E3.setσ nl

/-! ## an object of a class is made -/
theorem Cl_new {C fI : Addr} {vs : List V} (hm : makesIn X.K C = true) (hi : findIn X.K (.ref C) "__init__" = some (some (.ref fI))) (hf : typeIn X.K (.ref fI) = some (.type "function"))
    (h : ∀ x dx, σ x = none → σ dx = none → x ≠ dx → Ck X n (.ref fI) (.c (.ref x) :: vs) ((σ.set dx (.dct [])).set x (.raw (instObj C dx))) fun v σ1 => v = .d .none ∧ ∃ kvs, σ1 x = some (.raw (instObj C dx)) ∧ σ1 dx = some (.dct kvs) ∧ Q (.inst C kvs) ((σ1.del dx).del x)) :
    Cl X (n + 1) (.ref C) vs σ Q := by
  intro A ok P F s cs R r
  obtain ⟨hh, g, d, t, os⟩ := s
  refine wpAny_call (make_core (makes_of R.KIn hm) (looks_findIn R.KIn hi) (fun self => bind_fn R.KIn self hf) (.inl rfl) ?_)
  -- two new objects
  have n1 : hh.get? hh.objs.size = none := size_none _ (Nat.le_refl _)
  have n2 : hh.get? (hh.objs.size + 1) = none := size_none _ (Nat.le_succ _)
  have f1 := R.fresh n1
  have f2 := R.fresh n2
  have hne : hh.objs.size + 1 ≠ hh.objs.size := Nat.succ_ne_self _
  have hk : ∀ b o, ¬ (b = hh.objs.size ∨ b = hh.objs.size + 1) → hh.get? b = some o → ((hh.push emptyDict).push (instObj C hh.objs.size)).get? b = some o := fun b o _ e => Heap.get?_push_of_some _ (Heap.get?_push_of_some _ e)
  have hW : ∀ b, (b = hh.objs.size ∨ b = hh.objs.size + 1) → P.get? b = none ∧ F b = none := fun b hb => by
    rcases hb with rfl | rfl
    · exact ⟨f1.1, f1.2.1⟩
    · exact ⟨f2.1, f2.2.1⟩
  have p1 := R.stays_next hk fun b hb => (hW b hb).1
  have gx : ((hh.push emptyDict).push (instObj C hh.objs.size)).get? (hh.objs.size + 1) = some (instObj C hh.objs.size) := by
    have := Heap.get?_push_size (hh.push emptyDict) (o := instObj C hh.objs.size) rfl
    rwa [Heap.size_push] at this
  have gd : ((hh.push emptyDict).push (instObj C hh.objs.size)).get? hh.objs.size = some emptyDict := Heap.get?_push_of_some _ (Heap.get?_push_size _ rfl)
  have R1 : RelC X _ F ((σ.set hh.objs.size (.dct [])).set (hh.objs.size + 1) (.raw (instObj C hh.objs.size))) ⟨(hh.push emptyDict).push (instObj C hh.objs.size), g, d, t, os⟩ := R.move (tk := t) hk hW fun a o e => by
    by_cases q1 : a = hh.objs.size + 1
    · subst q1; rw [Led.set_self] at e; cases e
      exact .inr ⟨.inr rfl, gx⟩
    · rw [Led.set_ne _ _ q1] at e
      by_cases q2 : a = hh.objs.size
      · subst q2; rw [Led.set_self] at e; cases e
        exact .inr ⟨.inl rfl, [], 0, gd, .nil⟩
      · rw [Led.set_ne _ _ q2] at e
        exact .inl ⟨fun z => z.elim q2 q1, e⟩
  have hc := h (hh.objs.size + 1) hh.objs.size f2.2.2 f1.2.2 hne _ (Ok.make (C := C) (rest := cs) (kw := []) ok) _ _ _ (.ref (hh.objs.size + 1) :: cs) R1 (.cons (.c _) (paired_up p1 r))
  refine codeAny_mono hc fun r s' z => ?_
  rcases r with e | (c | _ | _ | _) <;> try exact z.elim
  obtain ⟨P2, v, σ1, p2, rv, R2, rfl, kvs, hx, hdx, hq⟩ := z
  have := vnone rv
  refine ⟨this, ?_⟩
  have hd' : (σ1.del hh.objs.size) (hh.objs.size + 1) = some (.raw (instObj C hh.objs.size)) := by simp [Led.del, hx]
  obtain ⟨up1, R3⟩ := R2.freeze hdx
  obtain ⟨up2, R4⟩ := R3.freeze hd'
  have ox := (R2.own _ _ hx).1
  obtain ⟨⟨es, k, hg, he⟩, _⟩ := R2.own _ _ hdx
  refine ⟨_, .inst C kvs, _, stays_trans p1 (stays_trans p2 (stays_trans up1 up2)), .inst (by rw [addP_new]; exact ox) (up2 _ _ (by rw [addP_new]; exact hg)) (he.keeps (stays_trans up1 up2)), R4, hq⟩

/-! ## its values and methods -/
theorem inst_attr {C : Addr} {fs : List (Str × V)} {attr : Str} {v : V} {a : Option Value} (Pl : plainGet X.K C attr = true) (hd : hasDictIn X.K C = true) (ha : findIn X.K (.ref C) attr = some a) (hng : noGet X.K a = true)
    (hv : fs.lookup attr = some v) (hh : ∀ (w : World) (P : Heap) (c : Value), VRel w P v c → handedIn c = true) (h : Q v σ) : Op1 X n (fun c => getAttr c attr true) (.inst C fs) σ Q := by
  intro A ok P F s c R r
  cases r with | @inst _ x dx es k _ h1 h2 h3 =>
    have I : InstAt s.heap x (instObj C dx) C (some (dictOf es k)) := ⟨R.stays _ _ h1, rfl, rfl, R.stays _ _ h2⟩
    obtain ⟨c', hc', hr⟩ := (ent_getL (x := attr) h3).1 v hv
    exact get_value R.KIn I (plainGet_of Pl).1 (findObj_own hd ha hng (by rw [lookIn_dict]; exact hc')) (hh _ _ _ hr) (PostO.intro R.toks hr h)
theorem inst_meth {C f : Addr} {fs : List (Str × V)} {name : Str} (Pl : plainGet X.K C name = true) (hf : findIn X.K (.ref C) name = some (some (.ref f))) (ht : typeIn X.K (.ref f) = some (.type "function"))
    (hv : fs.lookup name = none) : Mt X n (.inst C fs) name (.ref f) σ := by
  intro A ok P F s c pl R r
  cases r with | @inst _ x dx es k _ h1 h2 h3 =>
    have I : InstAt s.heap x (instObj C dx) C (some (dictOf es k)) := ⟨R.stays _ _ h1, rfl, rfl, R.stays _ _ h2⟩
    exact method_fn R.KIn I (plainGet_of Pl).1 (plainGet_of Pl).2 hf ht (by show Option.map _ (lookIn name (dictOf es k)) = _; rw [lookIn_dict, (ent_getL (x := name) h3).2 hv]; rfl) ⟨rfl, rfl⟩
theorem hand_dct {kvs : List (Str × V)} : ∀ (w : World) (P : Heap) (c : Value), VRel w P (.dct kvs) c → handedIn c = true := fun _ _ _ h => by cases h; rfl
theorem hand_inst {C : Addr} {kvs : List (Str × V)} : ∀ (w : World) (P : Heap) (c : Value), VRel w P (.inst C kvs) c → handedIn c = true := fun _ _ _ h => by cases h; rfl
theorem hand_tup {ds : List PyData} : ∀ (w : World) (P : Heap) (c : Value), VRel w P (.d (.tuple ds)) c → handedIn c = true := fun _ _ _ h => by obtain ⟨a, _, _, _, _, _, _, rfl, _⟩ := vtuple h; rfl
end
end Mine
set_option maxRecDepth 100000
namespace Mine
open PySem PySem.W PyProof.Rows

structure At (X : Cx) : Prop where
  K : X.K = hd.heap_39 X.w.params
  b : ∀ x : Str, x ≠ Str.ofString "__name__" → X.mb x = bootBuiltins x

section
variable {X : Cx} {P P' : Heap} {F : Addr → Option Obj} {σ σ' : Led} {s s' : Shared} {h' : Heap} {env : Env} {m mc : List (Str × V)} {n : Nat} {Q : V → Led → Prop}

theorem At.mg (a : At X) {x : Str} {v : Value} (e : nsIn (hd.heap_39 X.w.params) mainGlobals x = some (some v)) : X.mg x = some v := mg_of (a.K ▸ X.KIn) X.g e
theorem At.no (a : At X) {x : Str} (e : nsIn (hd.heap_39 X.w.params) mainGlobals x = some none) : X.mg x = none := mg_none_of (a.K ▸ X.KIn) X.g e
theorem At.mb (a : At X) {x : Str} {v : Value} (hn : x ≠ Str.ofString "__name__") (e : bootBuiltins x = some v) : X.mb x = some v := (a.b x hn).trans e
theorem At.fn (a : At X) {f : Value} (e : keepIn (hd.heap_39 X.w.params) f = true) : Callee X f := .fn (by rw [a.K]; exact e)

/-! the names of the top -/
theorem g_next (a : At X) : X.mg (Str.ofString "_law_next") = some (.ref 360) := a.mg (by kernel_rfl)
theorem g_turned (a : At X) : X.mg (Str.ofString "_law_turned") = some (.ref 365) := a.mg (by kernel_rfl)
theorem g_row (a : At X) : X.mg (Str.ofString "_law_row") = some (.ref 370) := a.mg (by kernel_rfl)
theorem g_rest (a : At X) : X.mg (Str.ofString "_law_rest") = some (.ref 375) := a.mg (by kernel_rfl)
theorem g_able (a : At X) : X.mg (Str.ofString "_law_able") = some (.ref 382) := a.mg (by kernel_rfl)
theorem g_term (a : At X) : X.mg (Str.ofString "_law_term") = some (.ref 389) := a.mg (by kernel_rfl)
theorem g_walk (a : At X) : X.mg (Str.ofString "_law_walk") = some (.ref 396) := a.mg (by kernel_rfl)
theorem g_steps (a : At X) : X.mg (Str.ofString "_law_steps") = some (.ref 345) := a.mg (by kernel_rfl)
theorem g_told (a : At X) : X.mg (Str.ofString "_law_told") = some (.ref 346) := a.mg (by kernel_rfl)
theorem g_isvar (a : At X) : X.mg (Str.ofString "is_variable") = some (.ref 109) := a.mg (by kernel_rfl)
theorem g_vars (a : At X) : X.mg (Str.ofString "variables") = some (.ref 114) := a.mg (by kernel_rfl)
theorem g_placed (a : At X) : X.mg (Str.ofString "placed") = some (.ref 119) := a.mg (by kernel_rfl)
theorem g_parts (a : At X) : X.mg (Str.ofString "parts") = some (.ref 124) := a.mg (by kernel_rfl)
theorem g_partat (a : At X) : X.mg (Str.ofString "part_at") = some (.ref 131) := a.mg (by kernel_rfl)
theorem g_repl (a : At X) : X.mg (Str.ofString "replaced") = some (.ref 138) := a.mg (by kernel_rfl)
theorem g_tstep (a : At X) : X.mg (Str.ofString "turned_step") = some (.ref 233) := a.mg (by kernel_rfl)
theorem g_canc (a : At X) : X.mg (Str.ofString "cancelled") = some (.ref 240) := a.mg (by kernel_rfl)
theorem g_Judge (a : At X) : X.mg (Str.ofString "Judge") = some (.ref 222) := a.mg (by kernel_rfl)
theorem g_Steps (a : At X) : X.mg (Str.ofString "Steps") = some (.ref 292) := a.mg (by kernel_rfl)
theorem g_Rule (a : At X) : X.mg (Str.ofString "Rule") = some (.ref 318) := a.mg (by kernel_rfl)
theorem n_len (a : At X) : X.mg (Str.ofString "len") = none := a.no (by kernel_rfl)
theorem n_range (a : At X) : X.mg (Str.ofString "range") = none := a.no (by kernel_rfl)
theorem n_enum (a : At X) : X.mg (Str.ofString "enumerate") = none := a.no (by kernel_rfl)
theorem n_sorted (a : At X) : X.mg (Str.ofString "sorted") = none := a.no (by kernel_rfl)
theorem n_set (a : At X) : X.mg (Str.ofString "set") = none := a.no (by kernel_rfl)
theorem n_tuple (a : At X) : X.mg (Str.ofString "tuple") = none := a.no (by kernel_rfl)
theorem n_dict (a : At X) : X.mg (Str.ofString "dict") = none := a.no (by kernel_rfl)
theorem n_list (a : At X) : X.mg (Str.ofString "list") = none := a.no (by kernel_rfl)
theorem n_int (a : At X) : X.mg (Str.ofString "int") = none := a.no (by kernel_rfl)
theorem b_len (a : At X) : X.mb (Str.ofString "len") = some (.builtin "len") := a.mb (by decide) (by kernel_rfl)
theorem b_range (a : At X) : X.mb (Str.ofString "range") = some (.type "range") := a.mb (by decide) (by kernel_rfl)
theorem b_enum (a : At X) : X.mb (Str.ofString "enumerate") = some (.type "enumerate") := a.mb (by decide) (by kernel_rfl)
theorem b_sorted (a : At X) : X.mb (Str.ofString "sorted") = some (.builtin "sorted") := a.mb (by decide) (by kernel_rfl)
theorem b_set (a : At X) : X.mb (Str.ofString "set") = some (.type "set") := a.mb (by decide) (by kernel_rfl)
theorem b_tuple (a : At X) : X.mb (Str.ofString "tuple") = some (.type "tuple") := a.mb (by decide) (by kernel_rfl)
theorem b_dict (a : At X) : X.mb (Str.ofString "dict") = some (.type "dict") := a.mb (by decide) (by kernel_rfl)
theorem b_list (a : At X) : X.mb (Str.ofString "list") = some (.type "list") := a.mb (by decide) (by kernel_rfl)
theorem b_int (a : At X) : X.mb (Str.ofString "int") = some (.type "int") := a.mb (by decide) (by kernel_rfl)

theorem EvL_nil {Q : List V → Led → Prop} (h : Q [] σ) : EvL X n env [] m σ Q := h
theorem EvL_cons {e : Expr} {r : List Expr} {Q : List V → Led → Prop} (h : Ev X n env (eval e env) m σ fun v σ1 => EvL X n env r m σ1 fun vs σ2 => Q (v :: vs) σ2) : EvL X n env (e :: r) m σ Q := h

/-- a function of the top called by its name -/
theorem Ev_fn (a : At X) {x : Str} {f : Addr} {npos pos : Pos} {args : List Expr} {Q : V → Led → Prop} (hg : X.mg x = some (.ref f)) (hc : keepIn (hd.heap_39 X.w.params) (.ref f) = true) (hp : plainArgs args = true) (hk : env.kindOf x = some .globalImplicit) (hd : (x == ("__debug__" : Str)) = false)
    (h : EvL X n env args m σ fun vs σ2 => Cl X n (.ref f) vs σ2 Q)
    (he : eval (.Call (.Name x npos) args [] pos) env = (do callWith pos (← eval (.Name x npos) env) [] (backTo pos (starEach args env)) (backToKw pos (keywordEach [] env))) := by rfl) :
    Ev X n env (eval (.Call (.Name x npos) args [] pos) env) m σ Q := Ev_Call hp (Ev_Glob hk hg (.c _) ⟨_, rfl, a.fn hc, h⟩ hd) he
theorem Ev_bf {x : Str} {c : Value} {npos pos : Pos} {args : List Expr} {Q : V → Led → Prop} (hg : X.mg x = none) (hb : X.mb x = some c) (hc : Callee X c) (hp : plainArgs args = true) (hk : env.kindOf x = some .globalImplicit) (hd : (x == ("__debug__" : Str)) = false)
    (h : EvL X n env args m σ fun vs σ2 => Cl X n c vs σ2 Q)
    (he : eval (.Call (.Name x npos) args [] pos) env = (do callWith pos (← eval (.Name x npos) env) [] (backTo pos (starEach args env)) (backToKw pos (keywordEach [] env))) := by rfl) :
    Ev X n env (eval (.Call (.Name x npos) args [] pos) env) m σ Q := Ev_Call hp (Ev_Blt hk hg hb ⟨_, rfl, hc, h⟩ hd) he

/-- the feed: the cells and the spot -/
def feedV (cells : List Int) (spot : Nat) : MO := .dct [(Str.ofString "cells", .d (.list (cells.map .int))), (Str.ofString "spot", .d (.int spot))]
theorem feed_set (cells : List Int) (spot : Nat) : MO.dct (vset [(Str.ofString "cells", V.d (.list (cells.map .int))), (Str.ofString "spot", .d (.int spot))] (Str.ofString "spot") (.d (.int (spot + 1)))) = feedV cells (spot + 1) := by
  unfold vset feedV
  have e1 : (Str.ofString "cells" = Str.ofString "spot") = False := by simp; decide
  simp [e1]

def drawnZ (cells : List Int) (spot : Nat) (wide : Nat) : Int :=
  if spot < cells.length then (cells.getD spot 0).fmod wide else ((4 * spot * spot + 9 * spot + 1 + 5 * cells.length : Int).fmod 107).fmod wide
def drawn (cells : List Int) (spot : Nat) (wide : Nat) : Nat := (drawnZ cells spot wide).toNat
theorem drawnZ_eq (cells : List Int) (spot : Nat) {wide : Nat} (hw : 0 < wide) : drawnZ cells spot wide = drawn cells spot wide := by
  have : 0 ≤ drawnZ cells spot wide := by
    unfold drawnZ; split <;> exact Int.fmod_nonneg_of_pos _ (by omega)
  unfold drawn; omega
theorem drawn_lt (cells : List Int) (spot : Nat) {wide : Nat} (hw : 0 < wide) : drawn cells spot wide < wide := by
  have : drawnZ cells spot wide < wide := by
    unfold drawnZ; split <;> exact Int.fmod_lt_of_pos _ (by omega)
  have := drawnZ_eq cells spot hw
  omega

def okScope (names : List (Str × NameKind)) (ps cn : List Str) : Bool :=
  decide ps.Nodup && decide cn.Nodup && ps.all fun x => names.lookup x == some .local || (names.lookup x == some .cell && cn.contains x)
theorem lookup_some_of_mem {x : Str} : ∀ {l : List (Str × Addr)}, x ∈ l.map (·.1) → (l.lookup x).isSome = true
  | (y, b) :: r, h => by
    rw [List.lookup_cons]
    by_cases q : x = y
    · simp [q]
    · have : (x == y) = false := by simpa using q
      simp only [this]
      rw [List.map_cons, List.mem_cons] at h
      exact lookup_some_of_mem (h.resolve_left q)
def cellNs (names : List (Str × NameKind)) : List Str := ((names.filter fun p => p.2 == .cell).map (·.1)).reverse
theorem cellsFrom_names : ∀ (names : List (Str × NameKind)) (k : Nat) (acc : List (Str × Addr)), (cellsFrom k names acc).map (·.1) = cellNs names ++ acc.map (·.1)
  | [], k, acc => by simp [cellsFrom, cellNs]
  | (x, kd) :: r, k, acc => by
    unfold cellsFrom
    cases h : kd == .cell with
    | true =>
      rw [if_pos rfl, cellsFrom_names r]
      simp [cellNs, h]
    | false =>
      rw [if_neg (by decide), cellsFrom_names r]
      simp [cellNs, h]
theorem Def.of {f : Addr} {fd : FuncData} {body : List Stmt} {ps : List Str} (h1 : ∃ o, X.K.lookup f = some o ∧ o.data = .func fd) (h2 : fd.body = .stmts body) (h3 : codeIn X.K fd.code fd.qualname = true) (h4 : fd.closure = []) (h5 : fd.globals = mainGlobals) (h6 : fd.builtins = builtinsNs)
    (hok : okScope fd.scope.names ps (cellNs fd.scope.names) = true) (h7 : fd.scope.isCoroutine = false) (h8 : fd.scope.isGenerator = false) (h9 : fd.scope.kind = .function)
    (hb : ∀ vals : List Value, vals.length = ps.length → bindArgs fd ⟨vals, []⟩ = pure (ps.zip vals)) : Def X f fd body ps := by
  have hcn : ∀ k, (cellsFrom k fd.scope.names []).map (·.1) = cellNs fd.scope.names := fun k => by rw [cellsFrom_names]; simp
  unfold okScope at hok
  simp only [Bool.and_eq_true, decide_eq_true_eq, List.all_eq_true, Bool.or_eq_true, beq_iff_eq, List.contains_iff_mem] at hok
  obtain ⟨⟨a1, a2⟩, a3⟩ := hok
  exact ⟨h1, h2, h3, h4, h5, h6, hb, a1, fun k x hx => (a3 x hx).imp id fun q => ⟨q.1, lookup_some_of_mem (by rw [hcn]; exact q.2)⟩, ⟨_, a2, hcn⟩, h7, h8, h9⟩

theorem lenS {l : List Value} {n : Nat} (h : l.length = n + 1) : ∃ a r, l = a :: r ∧ r.length = n := by
  cases l with
  | nil => cases h
  | cons a r => exact ⟨a, r, rfl, Nat.succ.inj h⟩
theorem len1 {l : List Value} (h : l.length = 1) : ∃ a, l = [a] := by
  obtain ⟨a, r, rfl, k⟩ := lenS h
  cases List.eq_nil_of_length_eq_zero k
  exact ⟨a, rfl⟩
theorem len2 {l : List Value} (h : l.length = 2) : ∃ a b, l = [a, b] := by
  obtain ⟨a, r, rfl, k⟩ := lenS h
  obtain ⟨b, rfl⟩ := len1 k
  exact ⟨a, b, rfl⟩
theorem len3 {l : List Value} (h : l.length = 3) : ∃ a b c, l = [a, b, c] := by
  obtain ⟨a, r, rfl, k⟩ := lenS h
  obtain ⟨b, c, rfl⟩ := len2 k
  exact ⟨a, b, c, rfl⟩
theorem len4 {l : List Value} (h : l.length = 4) : ∃ a b c d, l = [a, b, c, d] := by
  obtain ⟨a, r, rfl, k⟩ := lenS h
  obtain ⟨b, c, d, rfl⟩ := len3 k
  exact ⟨a, b, c, d, rfl⟩
theorem len5 {l : List Value} (h : l.length = 5) : ∃ a b c d e, l = [a, b, c, d, e] := by
  obtain ⟨a, r, rfl, k⟩ := lenS h
  obtain ⟨b, c, d, e, rfl⟩ := len4 k
  exact ⟨a, b, c, d, e, rfl⟩
theorem bind1 {fd : FuncData} {ps : List Str} (h : ∀ v0, bindArgs fd ⟨[v0], []⟩ = pure (ps.zip [v0])) (hl : ps.length = 1) : ∀ vals : List Value, vals.length = ps.length → bindArgs fd ⟨vals, []⟩ = pure (ps.zip vals) := fun vals hv => by obtain ⟨v0, rfl⟩ := len1 (hv.trans hl); exact h v0
theorem bind2 {fd : FuncData} {ps : List Str} (h : ∀ v0 v1, bindArgs fd ⟨[v0, v1], []⟩ = pure (ps.zip [v0, v1])) (hl : ps.length = 2) : ∀ vals : List Value, vals.length = ps.length → bindArgs fd ⟨vals, []⟩ = pure (ps.zip vals) := fun vals hv => by obtain ⟨v0, v1, rfl⟩ := len2 (hv.trans hl); exact h v0 v1
theorem bind3 {fd : FuncData} {ps : List Str} (h : ∀ v0 v1 v2, bindArgs fd ⟨[v0, v1, v2], []⟩ = pure (ps.zip [v0, v1, v2])) (hl : ps.length = 3) : ∀ vals : List Value, vals.length = ps.length → bindArgs fd ⟨vals, []⟩ = pure (ps.zip vals) := fun vals hv => by obtain ⟨v0, v1, v2, rfl⟩ := len3 (hv.trans hl); exact h v0 v1 v2
theorem bind4 {fd : FuncData} {ps : List Str} (h : ∀ v0 v1 v2 v3, bindArgs fd ⟨[v0, v1, v2, v3], []⟩ = pure (ps.zip [v0, v1, v2, v3])) (hl : ps.length = 4) : ∀ vals : List Value, vals.length = ps.length → bindArgs fd ⟨vals, []⟩ = pure (ps.zip vals) := fun vals hv => by obtain ⟨v0, v1, v2, v3, rfl⟩ := len4 (hv.trans hl); exact h v0 v1 v2 v3
theorem bind5 {fd : FuncData} {ps : List Str} (h : ∀ v0 v1 v2 v3 v4, bindArgs fd ⟨[v0, v1, v2, v3, v4], []⟩ = pure (ps.zip [v0, v1, v2, v3, v4])) (hl : ps.length = 5) : ∀ vals : List Value, vals.length = ps.length → bindArgs fd ⟨vals, []⟩ = pure (ps.zip vals) := fun vals hv => by obtain ⟨v0, v1, v2, v3, v4, rfl⟩ := len5 (hv.trans hl); exact h v0 v1 v2 v3 v4
theorem stmts_of {b b' : List Stmt} (h : b = b') : FuncBody.stmts b = .stmts b' := congrArg _ h
theorem lit_nil {b : List Stmt} (h : b = []) : b = [] := h
theorem lit_cons {b r r' : List Stmt} {a : Stmt} (h : b = a :: r) (hr : r = r') : b = a :: r' := by rw [h, hr]
end
end Mine
open Mine PySem PySem.W PyProof.Rows
local macro_rules | `(tactic| walk_at "mlit") => `(tactic| repeat (first | exact lit_nil rfl | apply lit_cons rfl))
namespace Mine
open PySem PySem.W PyProof.Rows
section
variable {X : Cx} {P P' : Heap} {F : Addr → Option Obj} {σ σ' : Led} {s s' : Shared} {h' : Heap} {env : Env} {m mc : List (Str × V)} {n : Nat} {Q : V → Led → Prop}
end
end Mine
local macro_rules | `(tactic| walk_at "mdef1") => `(tactic| exact Def.of (fd := ⟨_, _, ⟨_, _, _, _, _, _, _⟩, .stmts _, ⟨_, _, _, _, _⟩, _, _, _, _, _, _, _, _, _, _⟩) ⟨_, by rw [At.K ‹_›]; rfl, rfl⟩ (stmts_of (by walk_at "mlit")) (by rw [At.K ‹_›]; rfl) rfl rfl rfl (by rfl) rfl rfl rfl (bind1 (fun _ => rfl) rfl))
namespace Mine
open PySem PySem.W PyProof.Rows
section
variable {X : Cx} {P P' : Heap} {F : Addr → Option Obj} {σ σ' : Led} {s s' : Shared} {h' : Heap} {env : Env} {m mc : List (Str × V)} {n : Nat} {Q : V → Led → Prop}
end
end Mine
local macro_rules | `(tactic| walk_at "mdef2") => `(tactic| exact Def.of (fd := ⟨_, _, ⟨_, _, _, _, _, _, _⟩, .stmts _, ⟨_, _, _, _, _⟩, _, _, _, _, _, _, _, _, _, _⟩) ⟨_, by rw [At.K ‹_›]; rfl, rfl⟩ (stmts_of (by walk_at "mlit")) (by rw [At.K ‹_›]; rfl) rfl rfl rfl (by rfl) rfl rfl rfl (bind2 (fun _ _ => rfl) rfl))
namespace Mine
open PySem PySem.W PyProof.Rows
section
variable {X : Cx} {P P' : Heap} {F : Addr → Option Obj} {σ σ' : Led} {s s' : Shared} {h' : Heap} {env : Env} {m mc : List (Str × V)} {n : Nat} {Q : V → Led → Prop}
end
end Mine
local macro_rules | `(tactic| walk_at "mdef3") => `(tactic| exact Def.of (fd := ⟨_, _, ⟨_, _, _, _, _, _, _⟩, .stmts _, ⟨_, _, _, _, _⟩, _, _, _, _, _, _, _, _, _, _⟩) ⟨_, by rw [At.K ‹_›]; rfl, rfl⟩ (stmts_of (by walk_at "mlit")) (by rw [At.K ‹_›]; rfl) rfl rfl rfl (by rfl) rfl rfl rfl (bind3 (fun _ _ _ => rfl) rfl))
namespace Mine
open PySem PySem.W PyProof.Rows
section
variable {X : Cx} {P P' : Heap} {F : Addr → Option Obj} {σ σ' : Led} {s s' : Shared} {h' : Heap} {env : Env} {m mc : List (Str × V)} {n : Nat} {Q : V → Led → Prop}
end
end Mine
local macro_rules | `(tactic| walk_at "mdef4") => `(tactic| exact Def.of (fd := ⟨_, _, ⟨_, _, _, _, _, _, _⟩, .stmts _, ⟨_, _, _, _, _⟩, _, _, _, _, _, _, _, _, _, _⟩) ⟨_, by rw [At.K ‹_›]; rfl, rfl⟩ (stmts_of (by walk_at "mlit")) (by rw [At.K ‹_›]; rfl) rfl rfl rfl (by rfl) rfl rfl rfl (bind4 (fun _ _ _ _ => rfl) rfl))
namespace Mine
open PySem PySem.W PyProof.Rows
section
variable {X : Cx} {P P' : Heap} {F : Addr → Option Obj} {σ σ' : Led} {s s' : Shared} {h' : Heap} {env : Env} {m mc : List (Str × V)} {n : Nat} {Q : V → Led → Prop}
end
end Mine
local macro_rules | `(tactic| walk_at "mdef5") => `(tactic| exact Def.of (fd := ⟨_, _, ⟨_, _, _, _, _, _, _⟩, .stmts _, ⟨_, _, _, _, _⟩, _, _, _, _, _, _, _, _, _, _⟩) ⟨_, by rw [At.K ‹_›]; rfl, rfl⟩ (stmts_of (by walk_at "mlit")) (by rw [At.K ‹_›]; rfl) rfl rfl rfl (by rfl) rfl rfl rfl (bind5 (fun _ _ _ _ _ => rfl) rfl))
namespace Mine
open PySem PySem.W PyProof.Rows
section
variable {X : Cx} {P P' : Heap} {F : Addr → Option Obj} {σ σ' : Led} {s s' : Shared} {h' : Heap} {env : Env} {m mc : List (Str × V)} {n : Nat} {Q : V → Led → Prop}
theorem r_name {x : Str} {pos : Pos} {v : V} (hv : m.lookup x = some v) (hd : (x == ("__debug__" : Str)) = false) (h : Q v σ) : Ev X n env (eval (.Name x pos) env) m σ Q := Ev_Name hv h hd
theorem r_item {value slice : Expr} {pos : Pos} (hs : ∀ o i, subscripted slice false o i = operate [o, i] (getItem o i)) (h : Ev X n env (eval value env) m σ fun v σ1 => Ev X n env (eval slice env) m σ1 fun i σ2 => Gi X n v i σ2 Q) : Ev X n env (eval (.Subscript value slice pos) env) m σ Q := Ev_Item h hs
theorem r_cmp {l r : Expr} {op : CmpOp} {pos : Pos} (hm : behindInMarks op r = false) (h : Ev X n env (eval l env) m σ fun v1 σ1 => Ev X n env (eval r env) m σ1 fun v2 σ2 => Op2 X n (compareOp op) v1 v2 σ2 Q) : Ev X n env (eval (.Compare l [op] [r] pos) env) m σ Q := Ev_Cmp h hm
theorem r_tcmp {l r : Expr} {op : CmpOp} {pos : Pos} {whole : Sem Value} {Q : Bool → Led → Prop} (hm : behindInMarks op r = false) (h : Ev X n env (eval l env) m σ fun v1 σ1 => Ev X n env (eval r env) m σ1 fun v2 σ2 => Op2 X n (compareOp op) v1 v2 σ2 fun v σ3 => ∃ b, v = .d (.bool b) ∧ Q b σ3) : Tr X n env (isTrue (.Compare l [op] [r] pos) env whole) m σ Q := Tr_Cmp h hm
theorem r_assign {x : Str} {pos' pos : Pos} {value : Expr} {rest : List Stmt} {Q : Fl → List (Str × V) → Led → Prop} (hb : Binds env x) (hs : swapsWith value (some (.Name x pos')) pos.line env = pure false) (h : Ev X n env (eval value env) m σ fun v σ1 => Ex X n env (execs rest env) ((x, v) :: m) σ1 Q) :
    Ex X n env (execs (.Assign [.Name x pos'] value pos :: rest) env) m σ Q := Ex_cons (Ex_Assign hb h hs)
theorem r_return {e : Expr} {pos : Pos} {rest : List Stmt} {Q : Fl → List (Str × V) → Led → Prop} (h : Ev X n env (eval e env) m σ fun v σ1 => Q (.ret v) m σ1) : Ex X n env (execs (.Return (some e) pos :: rest) env) m σ Q := Ex_cons (Ex_Return h)
theorem r_slice {value : Expr} {lower upper step : Option Expr} {sp pos : Pos} (hs : ∃ f : Value → Value → List Value, ∀ o i, subscripted (.Slice lower upper step sp) false o i = operate (f o i) (getItem o i)) (h : Ev X n env (eval value env) m σ fun v σ1 => EvP X n env m lower σ1 fun lo σ2 => EvP X n env m upper σ2 fun hi σ3 => EvP X n env m step σ3 fun st σ4 => Sl X n v lo hi st σ4 Q) : Ev X n env (eval (.Subscript value (.Slice lower upper step sp) pos) env) m σ Q := Ev_Slice h hs
theorem r_pnone {Q : Option Int → Led → Prop} (h : Q none σ) : EvP X n env m none σ Q := h
theorem r_psome {e : Expr} {Q : Option Int → Led → Prop} (h : Ev X n env (eval e env) m σ fun v σ1 => ∃ i, v = .d (.int i) ∧ Q (some i) σ1) : EvP X n env m (some e) σ Q := h
theorem r_tuple {elts : List Expr} {k : Nat} {pos : Pos} (hp : plainArgs elts = true) (h : EvL X n env elts m σ fun vs σ1 => ∃ ds, vs = ds.map V.d ∧ ds.length ≤ sizeLine ∧ Q (.d (.tuple ds)) σ1) : Ev X n env (eval (.Tuple elts k pos) env) m σ Q := Ev_Tuple hp h
theorem r_list {elts : List Expr} {pos : Pos} (hp : plainArgs elts = true) (h : EvL X n env elts m σ fun vs σ1 => ∃ ds, vs = ds.map V.d ∧ ds.length ≤ sizeLine ∧ Q (.d (.list ds)) σ1) : Ev X n env (eval (.List elts pos) env) m σ Q := Ev_List hp h

theorem r_fn (a : At X) {x : Str} {f : Addr} {npos pos : Pos} {args : List Expr} {Q : V → Led → Prop} (hg : X.mg x = some (.ref f)) (hc : keepIn (hd.heap_39 X.w.params) (.ref f) = true) (hp : plainArgs args = true) (hk : env.kindOf x = some .globalImplicit) (hd : (x == ("__debug__" : Str)) = false)
    (he : eval (.Call (.Name x npos) args [] pos) env = (do callWith pos (← eval (.Name x npos) env) [] (backTo pos (starEach args env)) (backToKw pos (keywordEach [] env))))
    (h : EvL X n env args m σ fun vs σ2 => Cl X n (.ref f) vs σ2 Q) : Ev X n env (eval (.Call (.Name x npos) args [] pos) env) m σ Q := Ev_fn a hg hc hp hk hd h he
theorem r_bf {x : Str} {c : Value} {npos pos : Pos} {args : List Expr} {Q : V → Led → Prop} (hg : X.mg x = none) (hb : X.mb x = some c) (hc : Callee X c) (hp : plainArgs args = true) (hk : env.kindOf x = some .globalImplicit) (hd : (x == ("__debug__" : Str)) = false)
    (he : eval (.Call (.Name x npos) args [] pos) env = (do callWith pos (← eval (.Name x npos) env) [] (backTo pos (starEach args env)) (backToKw pos (keywordEach [] env))))
    (h : EvL X n env args m σ fun vs σ2 => Cl X n c vs σ2 Q) : Ev X n env (eval (.Call (.Name x npos) args [] pos) env) m σ Q := Ev_bf hg hb hc hp hk hd h he
theorem r_it {target : Expr} {args : List Expr} {pos : Pos} {c : Value} {x : Str} {npos : Pos} {Q : List V → Led → Prop} (hg : X.mg x = none) (hb : X.mb x = some c) (hc : Callee X c) (hp : plainArgs args = true) (hk : env.kindOf x = some .globalImplicit) (hd : (x == ("__debug__" : Str)) = false)
    (he : eval (.Call (.Name x npos) args [] pos) env = (do callWith pos (← eval (.Name x npos) env) [] (backTo pos (starEach args env)) (backToKw pos (keywordEach [] env))))
    (h : EvL X n env args m σ fun vs σ2 => Ci X n env target c vs m σ2 Q) : It X n env (.Call (.Name x npos) args [] pos) target m σ Q := It_call hp (Ev_Blt hk hg hb ⟨_, rfl, hc, h⟩ hd) he

end
end Mine
local macro_rules | `(tactic| walk_at "me") => `(tactic| first
  | ((with_reducible apply r_name); (· rfl); (· decide))
  | with_reducible refine Ev_Int ?_
  | with_reducible refine Ev_Str ?_
  | with_reducible refine Ev_Bool ?_
  | with_reducible refine Ev_None ?_
  | with_reducible refine Ev_BinOp ?_
  | ((with_reducible refine r_slice ?_ ?_); (· exact ⟨_, fun _ _ => rfl⟩))
  | ((with_reducible refine r_item ?_ ?_); (· intro _ _; rfl))
  | with_reducible refine r_pnone ?_
  | with_reducible refine r_psome ?_
  | ((with_reducible refine r_cmp ?_ ?_); (· with_unfolding_all rfl))
  | ((with_reducible refine r_tcmp ?_ ?_); (· with_unfolding_all rfl))
  | ((with_reducible refine r_tuple ?_ ?_); (· rfl))
  | ((with_reducible apply r_fn ‹At _›); (· (first | with_reducible exact g_next ‹_› | with_reducible exact g_turned ‹_› | with_reducible exact g_row ‹_› | with_reducible exact g_rest ‹_› | with_reducible exact g_able ‹_› | with_reducible exact g_term ‹_› | with_reducible exact g_walk ‹_› | with_reducible exact g_isvar ‹_› | with_reducible exact g_vars ‹_› | with_reducible exact g_placed ‹_› | with_reducible exact g_parts ‹_› | with_reducible exact g_partat ‹_› | with_reducible exact g_repl ‹_› | with_reducible exact g_tstep ‹_› | with_reducible exact g_canc ‹_› | with_reducible exact g_Judge ‹_› | with_reducible exact g_Steps ‹_› | with_reducible exact g_Rule ‹_›)); (· rfl); (· rfl); (· rfl); (· decide); (· rfl))
  | ((with_reducible apply r_bf); (· (first | with_reducible exact n_len ‹_› | with_reducible exact n_range ‹_› | with_reducible exact n_enum ‹_› | with_reducible exact n_sorted ‹_› | with_reducible exact n_set ‹_› | with_reducible exact n_tuple ‹_› | with_reducible exact n_dict ‹_› | with_reducible exact n_list ‹_› | with_reducible exact n_int ‹_›)); (· (first | with_reducible exact b_len ‹_› | with_reducible exact b_range ‹_› | with_reducible exact b_enum ‹_› | with_reducible exact b_sorted ‹_› | with_reducible exact b_set ‹_› | with_reducible exact b_tuple ‹_› | with_reducible exact b_dict ‹_› | with_reducible exact b_list ‹_› | with_reducible exact b_int ‹_›)); (· (first | exact Callee.blt _ | exact Callee.typ _)); (· rfl); (· rfl); (· decide); (· rfl))
  | ((with_reducible apply r_it); (· (first | with_reducible exact n_range ‹_› | with_reducible exact n_enum ‹_›)); (· (first | with_reducible exact b_range ‹_› | with_reducible exact b_enum ‹_›)); (· exact Callee.typ _); (· rfl); (· rfl); (· decide); (· rfl))
  | with_reducible refine Ev_Un ?_
  | with_reducible refine Ev_If ?_
  | with_reducible refine Tr_Not ?_
  | with_reducible refine Tr_Bool ?_
  | with_reducible refine Tr_and ?_
  | with_reducible refine Tr_and_nil ?_
  | with_reducible refine Tr_or ?_
  | with_reducible refine Tr_or_nil ?_
  | with_reducible refine EvL_nil ?_
  | with_reducible refine EvL_cons ?_
  | with_reducible refine op_add ?_
  | with_reducible refine op_sub ?_
  | with_reducible refine op_lt ?_
  | with_reducible refine op_le ?_
  | with_reducible refine op_gt ?_
  | with_reducible refine op_not ?_
  | with_reducible refine op_neg ?_)
namespace Mine
open PySem PySem.W PyProof.Rows
section
variable {X : Cx} {P P' : Heap} {F : Addr → Option Obj} {σ σ' : Led} {s s' : Shared} {h' : Heap} {env : Env} {m mc : List (Str × V)} {n : Nat} {Q : V → Led → Prop}
end
end Mine
local macro_rules | `(tactic| walk_at "ms") => `(tactic| first
  | ((with_reducible refine r_assign ?_ ?_ ?_); (· (first | exact Or.inl rfl | exact Or.inr ⟨rfl, rfl⟩)); (· rfl))
  | with_reducible refine r_return ?_
  | with_reducible refine Ex_cons (Ex_If ?_)
  | with_reducible refine Ex_nil ?_)
namespace Mine
open PySem PySem.W PyProof.Rows
section
variable {X : Cx} {P P' : Heap} {F : Addr → Option Obj} {σ σ' : Led} {s s' : Shared} {h' : Heap} {env : Env} {m mc : List (Str × V)} {n : Nat} {Q : V → Led → Prop}

end
end Mine
set_option maxRecDepth 100000
namespace Mine
open PySem PySem.W PyProof.Rows

section
variable {X : Cx} {P P' : Heap} {F : Addr → Option Obj} {σ σ' : Led} {s s' : Shared} {h' : Heap} {env : Env} {m mc : List (Str × V)} {n : Nat} {Q : V → Led → Prop}

theorem feed_nodup (cells : List Int) (spot : Nat) : (List.map (·.1) [(Str.ofString "cells", V.d (.list (cells.map .int))), (Str.ofString "spot", .d (.int spot))]).Nodup := by
  show [Str.ofString "cells", Str.ofString "spot"].Nodup
  decide
theorem c_next (a : At X) {f : Addr} {cells : List Int} {spot wide : Nat} (hσ : σ f = some (feedV cells spot)) (hw : 0 < wide) (hc : cells.length ≤ 100) (hs : spot ≤ 100000) (hn : 1 ≤ n)
    (h : Q (.d (.int (drawn cells spot wide))) (σ.set f (feedV cells (spot + 1)))) : Cl X n (.ref 360) [.c (.ref f), .d (.int wide)] σ Q := by
  refine Cl_def (ps := [Str.ofString "feed", Str.ofString "wide"]) (by walk_at "mdef2") rfl hn fun L => ?_
  have hσ' : (σ.set f (feedV cells (spot + 1))) f = some (feedV cells (spot + 1)) := Led.set_self ..
  have hl : ((cells.map PyData.int).length : Int) = cells.length := by simp
  have hsz : (cells.map PyData.int).length ≤ sizeLine := by rw [sizeLine_eq]; simp; omega
  walk_at "ms"
  repeat walk_at "me"
  refine gi_mdct hσ rfl ?_
  refine Ex_cons (Ex_AssignSub (l := f) (x := Str.ofString "spot") (kvs := []) (Ev_BinOp (Ev_Name rfl (Ev_Int (op_add (Ev_Name rfl ⟨rfl, Ev_Str ⟨rfl, _, hσ, feed_nodup cells spot, by rw [sizeLine_eq]; exact (by decide : 2 ≤ 16777216), ?_⟩⟩))))))
  rw [feed_set]
  walk_at "ms"
  repeat walk_at "me"
  refine gi_mdct hσ' rfl ?_
  repeat walk_at "me"
  refine len_listD hsz (op_lt ⟨_, rfl, ?_⟩)
  rw [hl]
  by_cases q : spot < cells.length
  · rw [decide_eq_true (by omega)]
    rw [if_pos rfl]
    walk_at "ms"
    repeat walk_at "me"
    refine gi_mdct hσ' rfl ?_
    repeat walk_at "me"
    refine gi_list (i := spot) (d := .int (cells.getD spot 0)) ?_ (by omega) ?_
    · simp [q]
    repeat walk_at "me"
    refine op_mod (by omega) ?_
    have e : (cells.getD spot 0).fmod wide = drawn cells spot wide := by rw [← drawnZ_eq _ _ hw]; unfold drawnZ; rw [if_pos q]
    rw [e]; exact h
  · rw [decide_eq_false (by omega)]
    rw [if_neg (by decide)]
    walk_at "ms"
    have e : ((4 * spot * spot + 9 * spot + 1 + 5 * cells.length : Int).fmod 107).fmod wide = drawn cells spot wide := by rw [← drawnZ_eq _ _ hw]; unfold drawnZ; rw [if_neg q]
    walk_at "ms"
    repeat walk_at "me"
    refine op_mul ?_ (by omega)
    repeat walk_at "me"
    refine op_mul ?_ (by omega)
    repeat walk_at "me"
    refine op_mul ?_ (by omega)
    repeat walk_at "me"
    refine gi_mdct hσ' rfl ?_
    repeat walk_at "me"
    refine len_listD hsz ?_
    refine op_mul ?_ (by omega)
    repeat walk_at "me"
    refine op_mod (by omega) ?_
    repeat walk_at "me"
    refine op_mod (by omega) ?_
    rw [hl, e]; exact h
end
end Mine
set_option maxRecDepth 100000
namespace Mine
open PySem PySem.W PyProof.Rows

/-! ## the law's data -/
inductive Lf where
  | a | b | c | x | y
  deriving DecidableEq
def Lf.name : Lf → Str
  | .a => Str.ofString "a"
  | .b => Str.ofString "b"
  | .c => Str.ofString "c"
  | .x => Str.ofString "?x"
  | .y => Str.ofString "?y"
inductive Tm where
  | leaf (l : Lf)
  | f (t : Tm)
  | g (t u : Tm)
  deriving DecidableEq
namespace Tm
def head : Tm → Str
  | leaf l => l.name
  | f _ => Str.ofString "f"
  | g _ _ => Str.ofString "g"
def kids : Tm → List Tm
  | leaf _ => []
  | f t => [t]
  | g t u => [t, u]
def enc : Tm → PyData
  | leaf l => .tuple [.str l.name]
  | f t => .tuple [.str (Str.ofString "f"), enc t]
  | g t u => .tuple [.str (Str.ofString "g"), enc t, enc u]
theorem enc_eq : ∀ t : Tm, t.enc = .tuple (.str t.head :: t.kids.map enc)
  | leaf l => rfl
  | f t => rfl
  | g t u => rfl
def sz : Tm → Nat
  | leaf _ => 1
  | f t => 1 + sz t
  | g t u => 1 + sz t + sz u
end Tm
def encP (p : List Nat) : PyData := .tuple (p.map fun (k : Nat) => .int (k : Int))

/-- what a step does, and where -/
inductive Core where
  | told (p : List Nat) (l : Bool)
  | rule (p : List Nat) (pl : List (Bool × Tm))
  deriving DecidableEq
def encPl (pl : List (Bool × Tm)) : PyData := .tuple (pl.map fun q => .tuple [.str (if q.1 then Lf.y.name else Lf.x.name), q.2.enc])
def labelName (l : Bool) : Str := if l then Str.ofString "m1" else Str.ofString "m0"
def Core.enc : Core → List PyData
  | .told p l => [encP p, .str (Str.ofString "told"), .str (labelName l), .tuple []]
  | .rule p pl => [encP p, .str (Str.ofString "rule"), .str (Str.ofString "r"), encPl pl]
theorem Core.enc_len : ∀ c : Core, c.enc.length = 4
  | .told _ _ => rfl
  | .rule _ _ => rfl
abbrev Sp := Core × Bool
def encS (s : Sp) : PyData := .tuple (s.1.enc ++ [.bool s.2])
def turnS (s : Sp) : Sp := (s.1, !s.2)
def turnedP (row : List Sp) : List Sp := row.reverse.map turnS

/-! ## equality -/
def noB : PyData → Bool
  | .int _ | .str _ => true
  | .tuple xs => noBs xs
  | _ => false
where noBs : List PyData → Bool
  | [] => true
  | x :: xs => noB x && noBs xs

mutual
theorem eqv_iff : ∀ a b : PyData, noB a = true → noB b = true → (PyData.eqv a b = true ↔ a = b)
  | .int i, .int j, _, _ => by simp [PyData.eqv]
  | .str x, .str y, _, _ => by simp [PyData.eqv]
  | .tuple xs, .tuple ys, ha, hb => by
    have := eqvAll_iff xs ys (by simpa [noB] using ha) (by simpa [noB] using hb)
    simp [PyData.eqv, this]
  | .int i, .str y, _, _ => by simp [PyData.eqv]
  | .int i, .tuple y, _, _ => by simp [PyData.eqv]
  | .str i, .int y, _, _ => by simp [PyData.eqv]
  | .str i, .tuple y, _, _ => by simp [PyData.eqv]
  | .tuple i, .int y, _, _ => by simp [PyData.eqv]
  | .tuple i, .str y, _, _ => by simp [PyData.eqv]
  | .none, _, h, _ => by simp [noB] at h
  | .bool _, _, h, _ => by simp [noB] at h
  | .list _, _, h, _ => by simp [noB] at h
  | .dict _, _, h, _ => by simp [noB] at h
  | _, .none, _, h => by simp [noB] at h
  | _, .bool _, _, h => by simp [noB] at h
  | _, .list _, _, h => by simp [noB] at h
  | _, .dict _, _, h => by simp [noB] at h
theorem eqvAll_iff : ∀ a b : List PyData, noB.noBs a = true → noB.noBs b = true → (PyData.eqvAll a b = true ↔ a = b)
  | [], [], _, _ => by simp [PyData.eqvAll]
  | [], _ :: _, _, _ => by simp [PyData.eqvAll]
  | _ :: _, [], _, _ => by simp [PyData.eqvAll]
  | x :: xs, y :: ys, ha, hb => by
    simp only [noB.noBs, Bool.and_eq_true] at ha hb
    simp [PyData.eqvAll, eqv_iff x y ha.1 hb.1, eqvAll_iff xs ys ha.2 hb.2]
end

theorem noBs_map {α : Type} {f : α → PyData} (h : ∀ a, noB (f a) = true) : ∀ l : List α, noB.noBs (l.map f) = true
  | [] => rfl
  | a :: l => by simp [noB.noBs, h a, noBs_map h l]
theorem noB_enc : ∀ t : Tm, noB t.enc = true
  | .leaf l => by simp [Tm.enc, noB, noB.noBs]
  | .f t => by simp [Tm.enc, noB, noB.noBs, noB_enc t]
  | .g t u => by simp [Tm.enc, noB, noB.noBs, noB_enc t, noB_enc u]
theorem noB_encP (p : List Nat) : noB (encP p) = true := by simp only [encP, noB]; exact noBs_map (fun (k : Nat) => (rfl : noB (.int (k : Int)) = true)) p
theorem noB_encPl (pl : List (Bool × Tm)) : noB (encPl pl) = true := by
  simp only [encPl, noB]
  exact noBs_map (fun q => by simp [noB, noB.noBs, noB_enc]) pl
theorem noB_core (c : Core) : noB.noBs c.enc = true := by
  cases c <;> simp [Core.enc, noB.noBs, noB_encP, noB_encPl, noB]

theorem name_inj : ∀ {a b : Lf}, a.name = b.name → a = b := by intro a b; cases a <;> cases b <;> first | (intro _; rfl) | (intro h; revert h; decide)
theorem enc_inj : ∀ {t u : Tm}, t.enc = u.enc → t = u
  | .leaf a, .leaf b, h => by simp [Tm.enc] at h; rw [name_inj h]
  | .f t, .f u, h => by simp [Tm.enc] at h; rw [enc_inj h]
  | .g t t', .g u u', h => by simp [Tm.enc] at h; rw [enc_inj h.1, enc_inj h.2]
  | .leaf _, .f _, h => by simp [Tm.enc] at h
  | .leaf _, .g _ _, h => by simp [Tm.enc] at h
  | .f _, .leaf _, h => by simp [Tm.enc] at h
  | .f _, .g _ _, h => by simp [Tm.enc] at h
  | .g _ _, .leaf _, h => by simp [Tm.enc] at h
  | .g _ _, .f _, h => by simp [Tm.enc] at h
theorem encP_inj {p q : List Nat} (h : encP p = encP q) : p = q := by
  simp only [encP, PyData.tuple.injEq] at h
  exact (List.map_inj_right (fun a b hab => by simp only [PyData.int.injEq] at hab; omega)).mp h
theorem encPl_inj {p q : List (Bool × Tm)} (h : encPl p = encPl q) : p = q := by
  simp only [encPl, PyData.tuple.injEq] at h
  refine (List.map_inj_right (fun a b hab => ?_)).mp h
  obtain ⟨a1, a2⟩ := a
  obtain ⟨b1, b2⟩ := b
  simp only [PyData.tuple.injEq, List.cons.injEq, PyData.str.injEq, and_true] at hab
  obtain ⟨h1, h2⟩ := hab
  rw [enc_inj h2]
  have h3 : (if a1 = true then Lf.y.name else Lf.x.name) = (if b1 = true then Lf.y.name else Lf.x.name) → a1 = b1 := by cases a1 <;> cases b1 <;> decide
  rw [h3 h1]
theorem core_inj : ∀ {c d : Core}, c.enc = d.enc → c = d
  | .told p l, .told q k, h => by
    simp only [Core.enc, List.cons.injEq, PyData.str.injEq, true_and, and_true] at h
    rw [encP_inj h.1]
    have : l = k := by
      have h3 : labelName l = labelName k → l = k := by cases l <;> cases k <;> decide
      exact h3 h.2
    rw [this]
  | .rule p l, .rule q k, h => by
    simp only [Core.enc, List.cons.injEq, PyData.str.injEq, true_and, and_true] at h
    rw [encP_inj h.1, encPl_inj h.2]
  | .told p l, .rule q k, h => by
    simp only [Core.enc, List.cons.injEq, PyData.str.injEq] at h
    exact absurd h.2.1 (by decide)
  | .rule p l, .told q k, h => by
    simp only [Core.enc, List.cons.injEq, PyData.str.injEq] at h
    exact absurd h.2.1 (by decide)

theorem eqv_enc (t u : Tm) : PyData.eqv t.enc u.enc = decide (t = u) := by
  rw [Bool.eq_iff_iff, eqv_iff _ _ (noB_enc t) (noB_enc u), decide_eq_true_iff]
  exact ⟨enc_inj, fun h => by rw [h]⟩
theorem eqv_str (x y : Str) : PyData.eqv (.str x) (.str y) = decide (x = y) := by simp [PyData.eqv, BEq.beq]
theorem eqvAll_append : ∀ {a b c d : List PyData}, a.length = b.length → PyData.eqvAll (a ++ c) (b ++ d) = (PyData.eqvAll a b && PyData.eqvAll c d)
  | [], [], c, d, _ => by simp [PyData.eqvAll]
  | x :: a, y :: b, c, d, h => by simp [PyData.eqvAll, eqvAll_append (a := a) (b := b) (by simpa using h), Bool.and_assoc]
theorem eqvAll_core (c d : Core) : PyData.eqvAll c.enc d.enc = decide (c = d) := by
  rw [Bool.eq_iff_iff, eqvAll_iff _ _ (noB_core c) (noB_core d), decide_eq_true_iff]
  exact ⟨core_inj, fun h => by rw [h]⟩
theorem eqv_encS (s r : Sp) : PyData.eqv (encS s) (encS r) = decide (s = r) := by
  obtain ⟨c, b⟩ := s
  obtain ⟨d, e⟩ := r
  simp only [encS, PyData.eqv]
  rw [eqvAll_append (by rw [Core.enc_len, Core.enc_len]), eqvAll_core]
  simp only [PyData.eqvAll, PyData.eqv, Bool.and_true, Prod.mk.injEq]
  by_cases h1 : c = d <;> cases b <;> cases e <;> simp [h1]
theorem eqvAll_map {α : Type} [DecidableEq α] {f : α → PyData} (h : ∀ a b, PyData.eqv (f a) (f b) = decide (a = b)) : ∀ l k : List α, PyData.eqvAll (l.map f) (k.map f) = decide (l = k)
  | [], [] => by simp [PyData.eqvAll]
  | [], _ :: _ => by simp [PyData.eqvAll]
  | _ :: _, [] => by simp [PyData.eqvAll]
  | a :: l, b :: k => by simp [PyData.eqvAll, h, eqvAll_map h l k, Bool.eq_iff_iff]
theorem eqv_rows (r k : List Sp) : PyData.eqv (.list (r.map encS)) (.list (k.map encS)) = decide (r = k) := by simp only [PyData.eqv]; exact eqvAll_map eqv_encS r k
theorem eqv_terms (r k : List Tm) : PyData.eqv (.list (r.map Tm.enc)) (.list (k.map Tm.enc)) = decide (r = k) := by simp only [PyData.eqv]; exact eqvAll_map eqv_enc r k

/-! ## what may be compared -/
theorem lay_map {α : Type} {f : α → PyData} {l : List α} (h : ∀ a ∈ l, (f a).canLay0 = true) : PyData.canLayAll0 (l.map f) = true := by
  induction l with
  | nil => rfl
  | cons a l ih => simp [PyData.canLayAll0, h a (.head _), ih fun b hb => h b (.tail _ hb)]
theorem lay_name (l : Lf) : (PyData.str l.name).canLay0 = true := by cases l <;> kernel_rfl
theorem lay_enc : ∀ t : Tm, t.enc.canLay0 = true
  | .leaf l => by simp [Tm.enc, PyData.canLay0, PyData.canLayAll0]; exact lay_name l
  | .f t => by
    have h : (PyData.str (Str.ofString "f")).canLay0 = true := by kernel_rfl
    simp [Tm.enc, PyData.canLay0, PyData.canLayAll0, lay_enc t] at h ⊢; exact h
  | .g t u => by
    have h : (PyData.str (Str.ofString "g")).canLay0 = true := by kernel_rfl
    simp [Tm.enc, PyData.canLay0, PyData.canLayAll0, lay_enc t, lay_enc u] at h ⊢; exact h
theorem lay_encP (p : List Nat) : (encP p).canLay0 = true := lay_map (l := p) fun _ _ => rfl
theorem lay_encPl (pl : List (Bool × Tm)) : (encPl pl).canLay0 = true := lay_map (l := pl) fun q _ => by
  obtain ⟨v, t⟩ := q
  have h1 := lay_name (if v then Lf.y else Lf.x)
  have h2 : (if v = true then Lf.y.name else Lf.x.name) = (if v then Lf.y else Lf.x).name := by cases v <;> rfl
  simp only [PyData.canLay0, PyData.canLayAll0, lay_enc, Bool.and_true] at h1 ⊢
  rw [h2]; exact h1
theorem lay_core (c : Core) : PyData.canLayAll0 c.enc = true := by
  cases c with
  | told p l =>
    simp only [Core.enc, PyData.canLayAll0, lay_encP, Bool.and_true, Bool.true_and]
    cases l <;> kernel_rfl
  | rule p pl =>
    simp only [Core.enc, PyData.canLayAll0, lay_encP, lay_encPl, Bool.and_true, Bool.true_and]
    kernel_rfl
theorem layAll_append : ∀ {a b : List PyData}, PyData.canLayAll0 (a ++ b) = (PyData.canLayAll0 a && PyData.canLayAll0 b)
  | [], _ => by simp [PyData.canLayAll0]
  | x :: a, b => by simp [PyData.canLayAll0, layAll_append (a := a) (b := b), Bool.and_assoc]
theorem lay_encS (s : Sp) : (encS s).canLay0 = true := by
  simp only [encS, PyData.canLay0]
  rw [layAll_append, lay_core]; rfl
theorem lay_rows (r : List Sp) : (PyData.list (r.map encS)).canLay0 = true := lay_map (l := r) fun s _ => lay_encS s
theorem lay_terms (r : List Tm) : (PyData.list (r.map Tm.enc)).canLay0 = true := lay_map (l := r) fun s _ => lay_enc s

theorem depth_map {α : Type} {f : α → PyData} {k : Nat} {l : List α} (h : ∀ a ∈ l, (f a).depth ≤ k) : PyData.depthAll (l.map f) ≤ k := by
  induction l with
  | nil => exact Nat.zero_le _
  | cons a l ih => simp only [List.map_cons, PyData.depthAll]; exact Nat.max_le.mpr ⟨h a (.head _), ih fun b hb => h b (.tail _ hb)⟩
theorem depth_enc : ∀ t : Tm, t.enc.depth ≤ t.sz
  | .leaf l => by simp [Tm.enc, PyData.depth, PyData.depthAll, Tm.sz]
  | .f t => by have := depth_enc t; simp [Tm.enc, PyData.depth, PyData.depthAll, Tm.sz]; omega
  | .g t u => by have := depth_enc t; have := depth_enc u; simp [Tm.enc, PyData.depth, PyData.depthAll, Tm.sz]; omega
def Core.sz : Core → Nat
  | .told _ _ => 0
  | .rule _ pl => (pl.map fun q => q.2.sz).sum
theorem sz_sum {q : Bool × Tm} : ∀ {pl : List (Bool × Tm)}, q ∈ pl → q.2.sz ≤ (pl.map fun q => q.2.sz).sum
  | p :: pl, h => by
    rcases List.mem_cons.mp h with rfl | h
    · simp
    · have := sz_sum h; simp; omega
theorem depth_encP (p : List Nat) : (encP p).depth ≤ 1 := by
  have := depth_map (f := fun (k : Nat) => PyData.int (k : Int)) (k := 0) (l := p) fun _ _ => Nat.le_refl _
  simp only [encP, PyData.depth]; omega
theorem depth_encPl (pl : List (Bool × Tm)) : (encPl pl).depth ≤ 2 + (pl.map fun q => q.2.sz).sum := by
  have : PyData.depthAll (pl.map fun q => PyData.tuple [.str (if q.1 then Lf.y.name else Lf.x.name), q.2.enc]) ≤ 1 + (pl.map fun q => q.2.sz).sum := depth_map fun q hq => by
    have h1 := depth_enc q.2
    have h2 := sz_sum hq
    simp [PyData.depth, PyData.depthAll]; omega
  simp only [encPl, PyData.depth]; omega
theorem depthAll_append : ∀ {x y : List PyData}, PyData.depthAll (x ++ y) = max (PyData.depthAll x) (PyData.depthAll y)
  | [], _ => by simp [PyData.depthAll]
  | a :: x, y => by simp [PyData.depthAll, depthAll_append (x := x) (y := y), Nat.max_assoc]
theorem depth_core (c : Core) : PyData.depthAll c.enc ≤ 2 + c.sz := by
  cases c with
  | told p l =>
    have := depth_encP p
    simp [Core.enc, PyData.depthAll, PyData.depth, Core.sz]; omega
  | rule p pl =>
    have := depth_encP p
    have := depth_encPl pl
    simp [Core.enc, PyData.depthAll, PyData.depth, Core.sz]; omega
theorem depth_encS (s : Sp) : (encS s).depth ≤ 3 + s.1.sz := by
  have := depth_core s.1
  simp only [encS, PyData.depth]
  rw [depthAll_append]
  simp [PyData.depthAll, PyData.depth]; omega
theorem depth_rows {r : List Sp} {k : Nat} (h : ∀ s ∈ r, s.1.sz ≤ k) : (PyData.list (r.map encS)).depth ≤ 4 + k := by
  have : PyData.depthAll (r.map encS) ≤ 3 + k := depth_map fun s hs => by have := depth_encS s; have := h s hs; omega
  simp only [PyData.depth]; omega
theorem depth_terms {r : List Tm} {k : Nat} (h : ∀ s ∈ r, s.sz ≤ k) : (PyData.list (r.map Tm.enc)).depth ≤ 1 + k := by
  have : PyData.depthAll (r.map Tm.enc) ≤ k := depth_map fun s hs => by have := depth_enc s; have := h s hs; omega
  simp only [PyData.depth]; omega
end Mine
set_option maxRecDepth 100000
namespace Mine
open PySem PySem.W PyProof.Rows

section
variable {X : Cx} {P P' : Heap} {F : Addr → Option Obj} {σ σ' : Led} {s s' : Shared} {h' : Heap} {env : Env} {m mc : List (Str × V)} {n : Nat} {Q : V → Led → Prop}

theorem s_take (s : Sp) : (s.1.enc ++ [PyData.bool s.2]).take 4 = s.1.enc := by rw [List.take_append_of_le_length (by rw [Core.enc_len]; exact Nat.le_refl _), List.take_of_length_le (by rw [Core.enc_len]; exact Nat.le_refl _)]
theorem s_get (s : Sp) : (s.1.enc ++ [PyData.bool s.2])[4]? = some (.bool s.2) := by rw [List.getElem?_append_right (by rw [Core.enc_len]; exact Nat.le_refl _), Core.enc_len]; rfl
theorem s_len (s : Sp) : (s.1.enc ++ [PyData.bool s.2]).length = 5 := by rw [List.length_append, Core.enc_len]; rfl

theorem sl16 {k : Nat} (h : k ≤ 1000) : k ≤ sizeLine := by rw [sizeLine_eq]; omega

/-- `step[:4] + (not step[4],)`, the parts at hand -/
theorem sl_step {s : Sp} (h : Q (.d (.tuple s.1.enc)) σ) : Sl X n (.d (encS s)) none (some 4) none σ Q :=
  sl_takeT (ds := s.1.enc ++ [.bool s.2]) (b := 4) (by rw [s_len]; decide) (sl16 (by simp [Core.enc_len])) (by rw [s_take]; exact h)
theorem gi_step {s : Sp} (h : Q (.d (.bool s.2)) σ) : Gi X n (.d (encS s)) (.d (.int 4)) σ Q :=
  gi_tuple (ds := s.1.enc ++ [.bool s.2]) (j := 4) (by rw [s_len]; rfl) (s_get s) (by decide) h
theorem add_step {c : Core} {b : Bool} (h : Q (.d (encS (c, b))) σ) : Op2 X n (binaryOp .Add) (.d (.tuple c.enc)) (.d (.tuple [.bool b])) σ Q :=
  op_addT (sl16 (by simp [Core.enc_len])) h

theorem c_tstep (a : At X) {s : Sp} (hn : 1 ≤ n) (h : Q (.d (encS (turnS s))) σ) : Cl X n (.ref 233) [.d (encS s)] σ Q := by
  refine Cl_def (ps := [Str.ofString "step"]) (by walk_at "mdef1") rfl hn fun L => ?_
  walk_at "ms"
  repeat walk_at "me"
  refine ⟨4, rfl, ?_⟩
  repeat walk_at "me"
  refine sl_step ?_
  repeat walk_at "me"
  refine gi_step ?_
  repeat walk_at "me"
  refine ⟨[.bool (!s.2)], rfl, sl16 (by simp), ?_⟩
  exact add_step h

theorem Capt.none {scope : Scope} (hk : scope.kind = .function) : Capt env scope m [] [] :=
  ⟨hk, (fun p hp => by cases hp), List.nodup_nil, List.nodup_nil, (fun x v h => by cases h), (fun x v h1 h2 => by cases h2)⟩

theorem compL_gen {α : Type} {target elt : Expr} {ifs : List Expr} {Q : List PyData → Led → Prop} (f : α → V) (o : α → Option PyData) : ∀ (l : List α) (acc : List PyData),
    (∀ x ∈ l, ∀ (K : Option PyData → Led → Prop), K (o x) σ → As X n env (assign target env) (f x) mc σ fun m1 σ1 => SubL mc m1 ∧ Tests X n env m1 ifs σ1 fun b σ2 =>
      if b then Ev X n env (eval elt env) m1 σ2 fun y σ3 => ∃ d, y = .d d ∧ K (some d) σ3 else K none σ2) →
    Q (acc ++ l.filterMap o) σ → CompL X n env target elt ifs mc Q (l.map f) acc σ
  | [], acc, _, h => by simpa [CompL] using h
  | x :: l, acc, hs, h => by
    refine As.mono (hs x (.head _) (fun r σ' => CompL X n env target elt ifs mc Q (l.map f) (match r with | some d => acc ++ [d] | none => acc) σ') ?_) ?_
    · cases ho : o x with
      | none => exact compL_gen f o l _ (fun y hy => hs y (.tail _ hy)) (by rw [List.filterMap_cons, ho] at h; exact h)
      | some d => exact compL_gen f o l _ (fun y hy => hs y (.tail _ hy)) (by rw [List.filterMap_cons, ho] at h; simpa using h)
    · intro m1 σ1 h1
      exact h1

theorem c_turned (a : At X) {row : List Sp} (hl : row.length ≤ 1000) (hn : 1 ≤ n) (h : Q (.d (.list ((turnedP row).map encS))) σ) : Cl X n (.ref 365) [.d (.list (row.map encS))] σ Q := by
  refine Cl_def (ps := [Str.ofString "row"]) (by walk_at "mdef1") rfl hn fun L => ?_
  walk_at "ms"
  refine Ev_Comp [] [] (Capt.none rfl) (by decide) (by decide) rfl (by decide) ?_
  refine It_val ?_
  repeat walk_at "me"
  refine ⟨-1, rfl, ?_⟩
  refine sl_rev (sl16 (by simpa using hl)) (Iv_list ⟨by simp; exact sl16 hl, fun C => ?_⟩)
  have e : (row.map encS).reverse.map V.d = row.reverse.map fun s => V.d (encS s) := by simp
  rw [e]
  refine compL_gen (fun s => V.d (encS s)) (fun s => some (encS (turnS s))) _ _ (fun s _ K hK => As_Name (.inl rfl) ⟨trivial, ?_⟩) ?_
  · show Ev X _ _ _ _ _ _
    repeat walk_at "me"
    refine ⟨4, rfl, ?_⟩
    repeat walk_at "me"
    refine sl_step ?_
    repeat walk_at "me"
    refine gi_step ?_
    repeat walk_at "me"
    refine ⟨[.bool (!s.2)], rfl, sl16 (by simp), ?_⟩
    exact add_step ⟨_, rfl, hK⟩
  · have e2 : List.filterMap (fun s => some (encS (turnS s))) row.reverse = (turnedP row).map encS := by simp [turnedP, Function.comp_def]
    rw [List.nil_append, e2]; exact h
end
end Mine
set_option maxRecDepth 100000
namespace Mine
open PySem PySem.W PyProof.Rows

section
variable {X : Cx} {P P' : Heap} {F : Addr → Option Obj} {σ σ' : Led} {s s' : Shared} {h' : Heap} {env : Env} {m mc : List (Str × V)} {n : Nat} {Q : V → Led → Prop}


theorem r_append {x : Str} {l : Addr} {ds0 : List PyData} {e : Expr} {npos apos pos spos : Pos} {rest : List Stmt} {pl : Sem Bool} {Q : Fl → List (Str × V) → Led → Prop} (hx : m.lookup x = some (.c (.ref l))) (hd : (x == ("__debug__" : Str)) = false) (hp : plainArgs [e] = true) (hi : interactive env = false)
    (hs : swapsWith (.Call (.Attribute (.Name x npos) (Str.ofString "append") apos) [e] [] pos) none spos.line env = pure false)
    (he : eval (.Call (.Attribute (.Name x npos) (Str.ofString "append") apos) [e] [] pos) env = (do
      let ov ← eval (.Name x npos) env
      standAt apos.atName
      let (f, first) ← holding [ov] (getMethod ov (Str.ofString "append") pl)
      callWith pos f first (backTo pos (starEach [e] env)) []))
    (hσ : σ l = some (.lst ds0))
    (h : Ev X n env (eval e env) m σ fun v σ1 => ∃ d ds, v = .d d ∧ σ1 l = some (.lst ds) ∧ ds.length ≤ sizeLine ∧ Ex X n env (execs rest env) m (σ1.set l (.lst (ds ++ [d]))) Q) :
    Ex X n env (execs (.Expr (.Call (.Attribute (.Name x npos) (Str.ofString "append") apos) [e] [] pos) spos :: rest) env) m σ Q := by
  refine Ex_cons (Ex_Expr' (Ev_CallM hp (Ev_Name hx ⟨.builtin "list.append", mt_list PySem.F.slot_list_append PySem.F.type_list_append hσ, .blt _, EvL_cons (h.mono ?_)⟩ hd) he) hi hs)
  rintro v σ1 ⟨d, ds, rfl, h1, h2, h3⟩
  exact EvL_nil (cl_append h1 h2 h3)
theorem r_pop {x : Str} {l : Addr} {ds : List PyData} {d : PyData} {npos apos pos spos : Pos} {rest : List Stmt} {pl : Sem Bool} {Q : Fl → List (Str × V) → Led → Prop} (hx : m.lookup x = some (.c (.ref l))) (hd : (x == ("__debug__" : Str)) = false) (hi : interactive env = false)
    (hs : swapsWith (.Call (.Attribute (.Name x npos) (Str.ofString "pop") apos) [] [] pos) none spos.line env = pure false)
    (he : eval (.Call (.Attribute (.Name x npos) (Str.ofString "pop") apos) [] [] pos) env = (do
      let ov ← eval (.Name x npos) env
      standAt apos.atName
      let (f, first) ← holding [ov] (getMethod ov (Str.ofString "pop") pl)
      callWith pos f first (backTo pos (starEach [] env)) []))
    (hσ : σ l = some (.lst ds)) (hl : ds.getLast? = some d) (hsz : ds.length ≤ sizeLine) (h : Ex X n env (execs rest env) m (σ.set l (.lst ds.dropLast)) Q) :
    Ex X n env (execs (.Expr (.Call (.Attribute (.Name x npos) (Str.ofString "pop") apos) [] [] pos) spos :: rest) env) m σ Q :=
  Ex_cons (Ex_Expr' (Ev_CallM rfl (Ev_Name hx ⟨.builtin "list.pop", mt_list PySem.F.slot_list_pop PySem.F.type_list_pop hσ, .blt _, EvL_nil (cl_pop hσ hl hsz h)⟩ hd) he) hi hs)
theorem r_extend {x : Str} {l : Addr} {ds0 : List PyData} {e : Expr} {npos apos pos spos : Pos} {rest : List Stmt} {pl : Sem Bool} {Q : Fl → List (Str × V) → Led → Prop} (hx : m.lookup x = some (.c (.ref l))) (hd : (x == ("__debug__" : Str)) = false) (hp : plainArgs [e] = true) (hi : interactive env = false)
    (hs : swapsWith (.Call (.Attribute (.Name x npos) (Str.ofString "extend") apos) [e] [] pos) none spos.line env = pure false)
    (he : eval (.Call (.Attribute (.Name x npos) (Str.ofString "extend") apos) [e] [] pos) env = (do
      let ov ← eval (.Name x npos) env
      standAt apos.atName
      let (f, first) ← holding [ov] (getMethod ov (Str.ofString "extend") pl)
      callWith pos f first (backTo pos (starEach [e] env)) []))
    (hσ : σ l = some (.lst ds0))
    (h : Ev X n env (eval e env) m σ fun v σ1 => ∃ es ds, v = .d (.list es) ∧ σ1 l = some (.lst ds) ∧ ds.length + es.length ≤ sizeLine ∧ Ex X n env (execs rest env) m (σ1.set l (.lst (ds ++ es))) Q) :
    Ex X n env (execs (.Expr (.Call (.Attribute (.Name x npos) (Str.ofString "extend") apos) [e] [] pos) spos :: rest) env) m σ Q := by
  refine Ex_cons (Ex_Expr' (Ev_CallM hp (Ev_Name hx ⟨.builtin "list.extend", mt_list PySem.F.slot_list_extend PySem.F.type_list_extend hσ, .blt _, EvL_cons (h.mono ?_)⟩ hd) he) hi hs)
  rintro v σ1 ⟨es, ds, rfl, h1, h2, h3⟩
  exact EvL_nil (cl_extend h1 h2 h3)

theorem Loop_inv {α : Type} {target : Expr} {body : List Stmt} {Q : Fl → List (Str × V) → Led → Prop} (f : α → V) (I : List α → Led → Prop) (m0 : List (Str × V))
    (hs : ∀ x r σ m, I (x :: r) σ → SubL m0 m → As X n env (assign target env) (f x) m σ fun m1 σ1 => Ex X n env (execs body env) m1 σ1 fun fl m2 σ2 => match fl with
      | .next | .cont => SubL m0 m2 ∧ I r σ2
      | .brk => Q .next m2 σ2
      | .ret v => Q (.ret v) m2 σ2)
    (hq : ∀ m σ, SubL m0 m → I [] σ → Q .next m σ) : ∀ (l : List α) (m : List (Str × V)) (σ : Led), SubL m0 m → I l σ → Loop X n env target body Q (l.map f) m σ
  | [], m, σ, hm, hI => hq m σ hm hI
  | x :: l, m, σ, hm, hI => (hs x l σ m hI hm).mono fun m1 σ1 h1 => h1.mono fun fl m2 σ2 h2 => by
    cases fl with
    | next => exact Loop_inv f I m0 hs hq l m2 σ2 h2.1 h2.2
    | cont => exact Loop_inv f I m0 hs hq l m2 σ2 h2.1 h2.2
    | brk => exact h2
    | ret v => exact h2
theorem subL_cons {x : Str} {v : V} {m0 : List (Str × V)} (h : SubL m0 m) (hx : (m0.lookup x).isSome = false) : SubL m0 ((x, v) :: m) := by
  have key : ∀ (r : List (Str × V)), SubL r m → (r.lookup x).isSome = false → SubL r ((x, v) :: m) := by
    intro r
    induction r with
    | nil => intro _ _; trivial
    | cons p r ih =>
      obtain ⟨y, u⟩ := p
      intro h hx
      rw [lookup_mset] at hx
      by_cases q : x = y
      · simp [q] at hx
      · simp only [q, if_false] at hx
        exact ⟨by rw [lookup_mset]; simp only [Ne.symm q, if_false]; exact h.1, ih h.2 hx⟩
  exact key m0 h hx

/-! ## cancelled -/
def pushE (st : List Sp) (s : Sp) : List Sp := if st.getLast? = some (turnS s) then st.dropLast else st ++ [s]
def cancP (row : List Sp) : List Sp := row.foldl pushE []
theorem pushE_len (st : List Sp) (s : Sp) : (pushE st s).length ≤ st.length + 1 := by unfold pushE; split <;> simp; omega
theorem pushE_mem {st : List Sp} {s r : Sp} (h : r ∈ pushE st s) : r ∈ st ∨ r = s := by
  unfold pushE at h
  split at h
  · exact .inl ((List.dropLast_sublist st).subset h)
  · rcases List.mem_append.mp h with h | h
    · exact .inl h
    · exact .inr (List.mem_singleton.mp h)
theorem cancP_mem_aux {s : Sp} : ∀ {row st : List Sp}, s ∈ row.foldl pushE st → s ∈ st ∨ s ∈ row
  | [], st, h => .inl h
  | r :: row, st, h => by
    rcases cancP_mem_aux (row := row) h with h | h
    · rcases pushE_mem h with h | h
      · exact .inl h
      · exact .inr (h ▸ .head _)
    · exact .inr (.tail _ h)
theorem cancP_mem {s : Sp} {row : List Sp} (h : s ∈ cancP row) : s ∈ row := (cancP_mem_aux h).resolve_left (by simp)
theorem foldl_len : ∀ (row st : List Sp), (row.foldl pushE st).length ≤ st.length + row.length
  | [], st => Nat.le_refl _
  | r :: row, st => by have := foldl_len row (pushE st r); have := pushE_len st r; simp only [List.foldl_cons, List.length_cons]; omega
theorem cancP_len (row : List Sp) : (cancP row).length ≤ row.length := by have := foldl_len row []; simp at this; exact this

theorem c_canc (a : At X) {row : List Sp} (hl : row.length ≤ 100) (hz : ∀ s ∈ row, s.1.sz ≤ 40) (hn : 2 ≤ n) (h : Q (.d (.list ((cancP row).map encS))) σ) : Cl X n (.ref 240) [.d (.list (row.map encS))] σ Q := by
  refine Cl_def (ps := [Str.ofString "steps"]) (by walk_at "mdef1") rfl (by omega) fun L => ?_
  walk_at "ms"
  refine Ev_ListM rfl (EvL_nil ⟨[], rfl, sl16 (by simp), fun fa hfa => ?_⟩)
  refine Ex_cons (For_rule (It_val ?_))
  repeat walk_at "me"
  refine Iv_list ?_
  have e : (row.map encS).map V.d = row.map fun s => V.d (encS s) := by simp
  rw [e]
  refine Loop_inv (fun s => V.d (encS s)) (fun r σ1 => ∃ st, r.foldl pushE st = cancP row ∧ σ1 = σ.set fa (.lst (st.map encS)) ∧ st.length + r.length ≤ 100 ∧ (∀ s ∈ st, s.1.sz ≤ 40) ∧ ∀ s ∈ r, s.1.sz ≤ 40)
    [(Str.ofString "found", .c (.ref fa))] ?_ ?_ _ _ _ (by exact ⟨rfl, trivial⟩) ⟨[], rfl, rfl, by simpa using hl, by simp, hz⟩
  · rintro x r σ1 m1 ⟨st, h1, rfl, h3, h4, h5⟩ hm
    refine As_Name (.inl rfl) ?_
    refine Ex_sub [(Str.ofString "step", .d (encS x)), (Str.ofString "found", .c (.ref fa))] ⟨by rw [lookup_mset]; simp, subL_cons hm rfl⟩ ?_
    have hσ : (σ.set fa (.lst (st.map encS))) fa = some (.lst (st.map encS)) := Led.set_self ..
    have hls : st.length ≤ 100 := by have := h3; simp at this; omega
    have hlen : (st.map encS).length ≤ sizeLine := sl16 (by simp; omega)
    have hx : x.1.sz ≤ 40 := h5 x (.head _)
    walk_at "ms"
    repeat walk_at "me"
    refine len_mut hσ hlen ?_
    repeat walk_at "me"
    refine ⟨_, rfl, ?_⟩
    have hnext : ∀ st', st' = pushE st x → SubL [(Str.ofString "found", V.c (.ref fa))] [(Str.ofString "step", V.d (encS x)), (Str.ofString "found", V.c (.ref fa))] ∧ ∃ st, r.foldl pushE st = cancP row ∧ (σ.set fa (.lst (st'.map encS))) = σ.set fa (.lst (st.map encS)) ∧ st.length + r.length ≤ 100 ∧ (∀ s ∈ st, s.1.sz ≤ 40) ∧ ∀ s ∈ r, s.1.sz ≤ 40 := by
      rintro st' rfl
      refine ⟨⟨rfl, trivial⟩, pushE st x, h1, rfl, ?_, fun s hs => ?_, fun s hs => h5 s (.tail _ hs)⟩
      · have := pushE_len st x; simp at h3; omega
      · rcases pushE_mem hs with hs | rfl
        · exact h4 s hs
        · exact hx
    rcases List.eq_nil_or_concat st with h0 | ⟨st0, l, h0⟩
    · subst h0
      rw [decide_eq_false (by simp), if_neg (by decide), if_neg (by decide)]
      refine r_append rfl (by decide) rfl rfl rfl rfl hσ ?_
      repeat walk_at "me"
      refine ⟨encS x, _, rfl, hσ, sl16 (by simp), ?_⟩
      walk_at "ms"
      walk_at "ms"
      rw [Led.set_set]
      exact hnext [x] rfl
    · rw [List.concat_eq_append] at h0
      subst h0
      rw [decide_eq_true (by simp), if_pos rfl]
      repeat walk_at "me"
      refine gi_mutN (i := st0.length) (d := encS l) hσ (by decide) (by simp; omega) (by simp) (by decide) ?_
      repeat walk_at "me"
      refine c_tstep a (by omega) ?_
      refine op_eq (lay_encS _) (lay_encS _) (by have := depth_encS l; have := h4 l (by simp); omega) ⟨_, rfl, ?_⟩
      rw [eqv_encS]
      by_cases q : l = turnS x
      · rw [decide_eq_true q, if_pos rfl]
        walk_at "me"
        rw [if_pos rfl]
        refine r_pop rfl (by decide) rfl rfl rfl hσ (d := encS l) (by simp) hlen ?_
        walk_at "ms"
        walk_at "ms"
        rw [Led.set_set]
        have e3 : (List.map encS (st0 ++ [l])).dropLast = List.map encS st0 := by simp
        rw [e3]
        exact hnext st0 (by unfold pushE; rw [if_pos (by simp [q])]; simp)
      · rw [decide_eq_false q, if_neg (by decide), if_neg (by decide)]
        refine r_append rfl (by decide) rfl rfl rfl rfl hσ ?_
        repeat walk_at "me"
        refine ⟨encS x, _, rfl, hσ, hlen, ?_⟩
        walk_at "ms"
        walk_at "ms"
        rw [Led.set_set]
        have e3 : List.map encS (st0 ++ [l]) ++ [encS x] = List.map encS ((st0 ++ [l]) ++ [x]) := by simp
        rw [e3]
        exact hnext _ (by unfold pushE; rw [if_neg (by simp [q])])
  · rintro m1 σ1 hm ⟨st, h1, rfl, h3, h4, _⟩
    have e0 : st = cancP row := h1
    subst e0
    refine Ex_sub [(Str.ofString "found", .c (.ref fa))] hm ?_
    refine Ex_freeze (a := fa) (ds := (cancP row).map encS) (Led.set_self ..) ?_
    rw [Led.del_set _ _ _ hfa]
    have e4 : frz fa (.d (.list ((cancP row).map encS))) [(Str.ofString "found", .c (.ref fa))] = [(Str.ofString "found", .d (.list ((cancP row).map encS)))] := by simp [frz]
    rw [e4]
    walk_at "ms"
    walk_at "me"
    exact h
end
end Mine
set_option maxRecDepth 100000
namespace Mine
open PySem PySem.W PyProof.Rows

section
variable {X : Cx} {P P' : Heap} {F : Addr → Option Obj} {σ σ' : Led} {s s' : Shared} {h' : Heap} {env : Env} {m mc : List (Str × V)} {n : Nat} {Q : V → Led → Prop}

theorem lookup_c {β : Type} {x y : Str} {v : β} {m : List (Str × β)} : ((x, v) :: m).lookup y = if y = x then some v else m.lookup y := by
  rw [List.lookup_cons]
  by_cases h : y = x
  · simp [h]
  · have : (y == x) = false := by simpa using h
    simp [this, h]
theorem Capt.one {scope : Scope} {y : Str} {ad : Addr} {v0 : V} (hk : scope.kind = .function) (h1 : env.cells.lookup y = some ad) (h2 : env.kindOf y = some .cell) (h3 : m.lookup y = some v0) (h4 : (relabel scope env).names.lookup y = some .cell) :
    Capt env scope m [(y, v0)] [(y, ad)] where
  kind := hk
  at_ := fun p hp => by rw [List.mem_singleton.mp hp]; exact ⟨h1, h2⟩
  nodup := by simp
  names := by simp
  sub := fun x v h => by
    rw [lookup_c] at h
    rw [lookup_c]
    by_cases q : x = y
    · subst q; simp only [if_true] at h ⊢; cases h; exact ⟨h3, rfl, h4⟩
    · simp [q] at h
  all := fun x v e1 e2 => by
    rw [lookup_c] at e2 ⊢
    by_cases q : x = y
    · subst q; rw [h3] at e1; simp only [if_true]; exact e1
    · simp [q] at e2

theorem At.get (a : At X) {ad : Addr} {o : Obj} (h : (hd.heap_39 X.w.params).lookup ad = some o) : X.base.get? ad = some o := (a.K ▸ X.KIn) ad o h

def lawSteps : List Core := [.told [] false, .told [0] false, .told [0, 1] true, .rule [] [], .rule [1] [(false, .leaf .a)], .rule [1] [(false, .leaf .b)]]
theorem xr_nil {h : Heap} : ∃ as, ReadsAll h [] [] as := ⟨_, .nil⟩
theorem xr_cons {h : Heap} {v : Value} {vs : List Value} {d : PyData} {ds : List PyData} : (∃ as, Reads h v d as) → (∃ as, ReadsAll h vs ds as) → ∃ as, ReadsAll h (v :: vs) (d :: ds) as := fun ⟨_, a⟩ ⟨_, b⟩ => ⟨_, .cons a b⟩
theorem xr_str {h : Heap} {x : Str} {t : Tok} : ∃ as, Reads h (.str x t) (.str x) as := ⟨_, .str x t⟩
theorem xr_int {h : Heap} {x : Int} {t : Tok} : ∃ as, Reads h (.int x t) (.int x) as := ⟨_, .int x t⟩
theorem xr_tup {h : Heap} {a : Addr} {o : Obj} {vs : Array Value} {n : Nat} {xs : List PyData} (h1 : h.get? a = some o) (h2 : o.cls = .type "tuple") (h3 : o.data = .seq vs n) (h4 : o.dict = none) : (∃ as, ReadsAll h vs.toList xs as) → ∃ as, Reads h (.ref a) (.tuple xs) as := fun ⟨_, b⟩ => ⟨_, .tuple h1 h2 h3 b h4⟩
end
end Mine
local macro_rules | `(tactic| walk_at "mreads") => `(tactic| repeat (first | exact xr_nil | refine xr_cons ?_ ?_ | exact xr_str | exact xr_int | refine xr_tup (At.get ‹_› rfl) rfl rfl rfl ?_))
namespace Mine
open PySem PySem.W PyProof.Rows
section
variable {X : Cx} {P P' : Heap} {F : Addr → Option Obj} {σ σ' : Led} {s s' : Shared} {h' : Heap} {env : Env} {m mc : List (Str × V)} {n : Nat} {Q : V → Led → Prop}
theorem d_steps (a : At X) : ∃ as, Reads X.base (.ref 345) (.tuple (lawSteps.map fun c => .tuple c.enc)) as := by
  refine xr_tup (a.get rfl) rfl rfl rfl ?_
  walk_at "mreads"
def toldA (l : Bool) : Tm := if l then .f (.leaf .a) else .leaf .a
def toldB (l : Bool) : Tm := if l then .leaf .c else .leaf .b
def toldV : List (Str × V) := [(Str.ofString "m0", .d (.tuple [(toldA false).enc, (toldB false).enc])), (Str.ofString "m1", .d (.tuple [(toldA true).enc, (toldB true).enc]))]
theorem d_told (a : At X) : VRel X.w X.base (.dct toldV) (.ref 346) := by
  have h1 : ∃ as, Reads X.base (.ref 349) (.tuple [(toldA false).enc, (toldB false).enc]) as := by
    refine xr_tup (a.get rfl) rfl rfl rfl ?_
    walk_at "mreads"
  have h2 : ∃ as, Reads X.base (.ref 353) (.tuple [(toldA true).enc, (toldB true).enc]) as := by
    refine xr_tup (a.get rfl) rfl rfl rfl ?_
    walk_at "mreads"
  obtain ⟨_, h1⟩ := h1
  obtain ⟨_, h2⟩ := h2
  exact .dct (by decide) (a.get rfl) (.cons (.d h1) (.cons (.d h2) .nil))

/-! ## a row is drawn -/
def coreAt (k : Nat) : Core := lawSteps.getD k (.told [] false)
def rowP (cells : List Int) : Nat → Nat → List Sp
  | 0, _ => []
  | k + 1, spot => (coreAt (drawn cells spot 6), drawn cells (spot + 1) 2 = 1) :: rowP cells k (spot + 2)
theorem rowP_len (cells : List Int) : ∀ k spot, (rowP cells k spot).length = k
  | 0, _ => rfl
  | k + 1, spot => by simp [rowP, rowP_len cells k]
theorem coreAt_sz (k : Nat) : (coreAt k).sz ≤ 1 := by
  unfold coreAt
  match k with
  | 0 | 1 | 2 | 3 | 4 | 5 => decide
  | k + 6 => simp [lawSteps, Core.sz]
theorem rowP_sz (cells : List Int) : ∀ k spot, ∀ s ∈ rowP cells k spot, s.1.sz ≤ 1
  | k + 1, spot, s, h => by
    rcases List.mem_cons.mp h with rfl | h
    · exact coreAt_sz _
    · exact rowP_sz cells k _ s h
end
end Mine
set_option maxRecDepth 100000
namespace Mine
open PySem PySem.W PyProof.Rows

section
variable {X : Cx} {P P' : Heap} {F : Addr → Option Obj} {σ σ' : Led} {s s' : Shared} {h' : Heap} {env : Env} {m mc : List (Str × V)} {n : Nat} {Q : V → Led → Prop}

theorem CompL_inv {α : Type} {target elt : Expr} {ifs : List Expr} {Q : List PyData → Led → Prop} (f : α → V) (I : List α → List PyData → Led → Prop)
    (hs : ∀ x r acc σ, I (x :: r) acc σ → As X n env (assign target env) (f x) mc σ fun m1 σ1 => SubL mc m1 ∧ Tests X n env m1 ifs σ1 fun b σ2 =>
      if b then Ev X n env (eval elt env) m1 σ2 fun y σ3 => ∃ d, y = .d d ∧ I r (acc ++ [d]) σ3 else I r acc σ2)
    (hq : ∀ acc σ, I [] acc σ → Q acc σ) : ∀ (l : List α) (acc : List PyData) (σ : Led), I l acc σ → CompL X n env target elt ifs mc Q (l.map f) acc σ
  | [], acc, σ, hI => hq acc σ hI
  | x :: l, acc, σ, hI => by
    refine (hs x l acc σ hI).mono fun m1 σ1 ⟨h1, h2⟩ => ⟨h1, ?_⟩
    have tmono : ∀ (ifs : List Expr) (σ : Led) (Q Q' : Bool → Led → Prop), Tests X n env m1 ifs σ Q → (∀ b σ, Q b σ → Q' b σ) → Tests X n env m1 ifs σ Q' := by
      intro ifs
      induction ifs with
      | nil => intro σ Q Q' h hq; exact hq _ _ h
      | cons c r ih =>
        intro σ Q Q' h hq
        refine Tr.mono h fun b σ1 h1 => ?_
        cases b with
        | true => exact ih σ1 _ _ h1 hq
        | false => exact hq _ _ h1
    refine tmono _ _ _ _ h2 fun b σ2 h3 => ?_
    cases b with
    | true => exact Ev.mono h3 fun y σ3 ⟨d, e, h4⟩ => ⟨d, e, CompL_inv f I hs hq l _ _ h4⟩
    | false => exact CompL_inv f I hs hq l _ _ h3

theorem coreAt_get {k : Nat} (h : k < 6) : (lawSteps.map fun c => PyData.tuple c.enc)[k]? = some (.tuple (coreAt k).enc) := by
  match k, h with
  | 0, _ | 1, _ | 2, _ | 3, _ | 4, _ | 5, _ => rfl
theorem eqv_int (i j : Int) : PyData.eqv (.int i) (.int j) = decide (i = j) := by simp [PyData.eqv, BEq.beq]

theorem op_eqi {i j : Int} (h : Q (.d (.bool (decide (i = j)))) σ) : Op2 X n (compareOp .Eq) (.d (.int i)) (.d (.int j)) σ Q := op_eq rfl rfl (by simp [PyData.depth]) (by rw [eqv_int]; exact h)
theorem op_eqs {x y : Str} (hx : (PyData.str x).canLay0 = true) (hy : (PyData.str y).canLay0 = true) (h : Q (.d (.bool (decide (x = y)))) σ) : Op2 X n (compareOp .Eq) (.d (.str x)) (.d (.str y)) σ Q := op_eq hx hy (by simp [PyData.depth]) (by rw [eqv_str]; exact h)
theorem c_row (a : At X) {f : Addr} {cells : List Int} {spot : Nat} (hσ : σ f = some (feedV cells spot)) (hc : cells.length ≤ 100) (hs : spot ≤ 90000) (hn : 2 ≤ n)
    (h : Q (.d (.list ((rowP cells (drawn cells spot 8) (spot + 1)).map encS))) (σ.set f (feedV cells (spot + 1 + 2 * drawn cells spot 8)))) : Cl X n (.ref 370) [.c (.ref f)] σ Q := by
  refine Cl_def (ps := [Str.ofString "feed"]) (by walk_at "mdef1") rfl (by omega) fun L => ?_
  have hd := drawn_lt cells spot (wide := 8) (by decide)
  walk_at "ms"
  refine Ev_Comp [(Str.ofString "feed", L + 1)] [(Str.ofString "feed", .c (.ref f))] (Capt.one rfl rfl rfl rfl rfl) (by decide) (by decide) rfl (by decide) ?_
  repeat walk_at "me"
  refine c_next a (wide := 8) hσ (by decide) hc (by omega) (by omega) ?_
  repeat walk_at "me"
  refine ci_range1 (k := drawn cells spot 8) (by omega) ⟨by unfold rng; rw [List.length_map, List.length_range]; exact sl16 (by omega), fun C => ?_⟩
  refine CompL_inv (fun (i : Nat) => V.d (.int (0 + (i : Int)))) (fun r acc σ' => ∃ sp, acc ++ (rowP cells r.length sp).map encS = (rowP cells (drawn cells spot 8) (spot + 1)).map encS ∧ σ' = σ.set f (feedV cells sp) ∧ sp + 2 * r.length = spot + 1 + 2 * drawn cells spot 8) ?_ ?_ (List.range (drawn cells spot 8)) _ _ ⟨spot + 1, by simp, rfl, by simp⟩
  · rintro x r acc σ1 ⟨sp, h1, rfl, h3⟩
    simp only [List.length_cons] at h1 h3
    refine As_Name (.inl rfl) ⟨⟨rfl, trivial⟩, ?_⟩
    show Ev X _ _ _ _ _ _
    have hσ1 : (σ.set f (feedV cells sp)) f = some (feedV cells sp) := Led.set_self ..
    have hσ2 : (σ.set f (feedV cells (sp + 1))) f = some (feedV cells (sp + 1)) := Led.set_self ..
    repeat walk_at "me"
    refine Ev_Glob rfl (g_steps a) (.d (d_steps a).choose_spec) ?_
    repeat walk_at "me"
    refine c_next a (wide := 6) hσ1 (by decide) hc (by omega) (by omega) ?_
    have hd6 := drawn_lt cells sp (wide := 6) (by decide)
    refine gi_tuple (j := drawn cells sp 6) (d := .tuple (coreAt (drawn cells sp 6)).enc) ?_ (coreAt_get hd6) (by omega) ?_
    · unfold seqIndex?
      have : (lawSteps.map fun c => PyData.tuple c.enc).length = 6 := rfl
      rw [this]
      split <;> first | (simp; omega) | skip
      all_goals (try (split <;> simp_all <;> omega))
    repeat walk_at "me"
    rw [Led.set_set]
    refine c_next a (wide := 2) hσ2 (by decide) hc (by omega) (by omega) ?_
    repeat walk_at "me"
    refine op_eqi ?_
    rw [Led.set_set]
    refine EvL_nil ⟨[.bool (decide ((drawn cells (sp + 1) 2 : Int) = 1))], rfl, sl16 (by simp), ?_⟩
    refine add_step ⟨_, rfl, sp + 2, ?_, rfl, by omega⟩
    rw [← h1]
    have e : decide ((drawn cells (sp + 1) 2 : Int) = 1) = decide (drawn cells (sp + 1) 2 = 1) := by
      rw [Bool.eq_iff_iff, decide_eq_true_iff, decide_eq_true_iff]; omega
    rw [e]
    simp [rowP]
  · rintro acc σ1 ⟨sp, h1, rfl, h3⟩
    have h4 : acc = (rowP cells (drawn cells spot 8) (spot + 1)).map encS := by simpa [rowP] using h1
    simp at h3
    rw [h3, h4]
    exact h
end
end Mine
set_option maxRecDepth 100000
namespace Mine
open PySem PySem.W PyProof.Rows

section
variable {X : Cx} {P P' : Heap} {F : Addr → Option Obj} {σ σ' : Led} {s s' : Shared} {h' : Heap} {env : Env} {m mc : List (Str × V)} {n : Nat} {Q : V → Led → Prop}

def adj (row : List Sp) (i : Nat) : Bool := match row[i]?, row[i + 1]? with
  | some s, some r => decide (s.1 = r.1) && (s.2 != r.2)
  | _, _ => false
def spotsI (row : List Sp) : List Nat := (List.range (row.length - 1)).filter (adj row)
def restP (cells : List Int) : Nat → List Sp → Nat → List Sp × Nat
  | 0, row, spot => (row, spot)
  | k + 1, row, spot => if spotsI row = [] then (row, spot) else
    let i := (spotsI row).getD (drawn cells spot (spotsI row).length) 0
    restP cells k (row.take i ++ row.drop (i + 2)) (spot + 1)

theorem Tests_one {c : Expr} {Q : Bool → Led → Prop} (h : Tr X n env (isTrue c env (eval c env)) m σ Q) : Tests X n env m [c] σ Q :=
  Tr.mono h fun b σ1 hb => by cases b <;> exact hb
theorem op_eq_core {c d : Core} (hc : c.sz ≤ 40) (h : Q (.d (.bool (decide (c = d)))) σ) : Op2 X n (compareOp .Eq) (.d (.tuple c.enc)) (.d (.tuple d.enc)) σ Q :=
  op_eq (by simp only [PyData.canLay0]; exact lay_core c) (by simp only [PyData.canLay0]; exact lay_core d) (by have := depth_core c; simp only [PyData.depth]; omega) (by simp only [PyData.eqv]; rw [eqvAll_core]; exact h)
theorem op_ne_bool {b d : Bool} (h : Q (.d (.bool (b != d))) σ) : Op2 X n (compareOp .NotEq) (.d (.bool b)) (.d (.bool d)) σ Q :=
  op_ne rfl rfl (by simp [PyData.depth]) (by simp only [PyData.eqv]; exact h)

theorem gi_listI {ds : List PyData} {z : Int} {i : Nat} {d : PyData} (hz : z = i) (hd : ds[i]? = some d) (hi : i < 10000) (h : Q (.d d) σ) : Gi X n (.d (.list ds)) (.d (.int z)) σ Q := by
  subst hz; exact gi_list hd (by omega) h

theorem c_rest (a : At X) {f : Addr} {cells : List Int} {spot : Nat} {row : List Sp} (hσ : σ f = some (feedV cells spot)) (hc : cells.length ≤ 100) (hs : spot ≤ 90000) (hl : row.length ≤ 100) (hz : ∀ s ∈ row, s.1.sz ≤ 40) (hn : 2 ≤ n)
    (h : Q (.d (.list ((restP cells row.length row spot).1.map encS))) (σ.set f (feedV cells (restP cells row.length row spot).2))) : Cl X n (.ref 375) [.c (.ref f), .d (.list (row.map encS))] σ Q := by
  refine Cl_def (ps := [Str.ofString "feed", Str.ofString "row"]) (by walk_at "mdef2") rfl (by omega) fun L => ?_
  refine Ex_cons (While_rule (fun k m' σ' => ∃ row' spot', row'.length ≤ k ∧ restP cells k row' spot' = restP cells row.length row spot ∧ (∀ s ∈ row', s.1.sz ≤ 40) ∧ spot' + k ≤ spot + row.length ∧ k ≤ row.length ∧
    σ' = σ.set f (feedV cells spot') ∧ SubL [(Str.ofString "feed", .c (.ref f)), (Str.ofString "row", .d (.list (row'.map encS)))] m') ?_ row.length ⟨row, spot, Nat.le_refl _, rfl, hz, Nat.le_refl _, Nat.le_refl _, by
      funext b; by_cases q : b = f
      · subst q; simp [hσ]
      · rw [Led.set_ne _ _ q], ⟨rfl, rfl, trivial⟩⟩)
  rintro k m' σ' ⟨row', spot', h1, h2, h3, h4, h5, rfl, hm⟩
  have hσ' : (σ.set f (feedV cells spot')) f = some (feedV cells spot') := Led.set_self ..
  refine Tr_val (Ev_Bool ⟨true, rfl, ?_⟩)
  rw [if_pos rfl]
  refine Ex_sub _ hm ?_
  refine Ex_cons (Ex_AssignComp [(Str.ofString "row", L + 1)] [(Str.ofString "row", .d (.list (row'.map encS)))] (.inl rfl) (Capt.one rfl rfl rfl rfl rfl) (by decide) (by decide) rfl (by decide) rfl ?_)
  repeat walk_at "me"
  refine len_listD (sl16 (by simp; omega)) ?_
  repeat walk_at "me"
  refine ci_range2 (k := row'.length - 1) (by decide) (by simp; omega) (by simp; split <;> omega) ⟨by unfold rng; rw [List.length_map, List.length_range]; exact sl16 (by omega), fun C => ?_⟩
  refine compL_gen (fun (i : Nat) => V.d (.int (1 + (i : Int)))) (fun i => if adj row' i then some (.int (1 + (i : Int))) else none) (List.range (row'.length - 1)) [] (fun i hi K hK => As_Name (.inl rfl) ⟨⟨rfl, trivial⟩, Tests_one ?_⟩) ?_
  · have hi1 : i + 1 < row'.length := by have := List.mem_range.mp hi; omega
    have g0 : (row'.map encS)[i]? = some (encS row'[i]) := by simp [show i < row'.length by omega]
    have g1 : (row'.map encS)[i + 1]? = some (encS row'[i + 1]) := by simp [hi1]
    have z0 := h3 row'[i] (List.getElem_mem _)
    have ha : adj row' i = (decide ((row'[i]).1 = (row'[i + 1]).1) && ((row'[i]).2 != (row'[i + 1]).2)) := by
      unfold adj
      rw [List.getElem?_eq_getElem (by omega), List.getElem?_eq_getElem hi1]
    repeat walk_at "me"
    refine gi_listI (i := i) (by omega) g0 (by omega) ?_
    repeat walk_at "me"
    refine ⟨4, rfl, ?_⟩
    repeat walk_at "me"
    refine sl_step ?_
    repeat walk_at "me"
    refine gi_listI (i := i + 1) (by omega) g1 (by omega) ?_
    repeat walk_at "me"
    refine ⟨4, rfl, ?_⟩
    repeat walk_at "me"
    refine sl_step (op_eq_core z0 ⟨_, rfl, ?_⟩)
    by_cases q : (row'[i]).1 = (row'[i + 1]).1
    · rw [decide_eq_true q, if_pos rfl]
      repeat walk_at "me"
      refine gi_listI (i := i) (by omega) g0 (by omega) ?_
      repeat walk_at "me"
      refine gi_step ?_
      repeat walk_at "me"
      refine gi_listI (i := i + 1) (by omega) g1 (by omega) ?_
      repeat walk_at "me"
      refine gi_step (op_ne_bool ⟨_, rfl, ?_⟩)
      rw [decide_eq_true q, Bool.true_and] at ha
      cases hb : ((row'[i]).2 != (row'[i + 1]).2) with
      | true =>
        rw [if_pos rfl]
        walk_at "me"
        rw [if_pos rfl]
        walk_at "me"
        rw [ha, hb, if_pos rfl] at hK
        exact ⟨_, rfl, hK⟩
      | false =>
        rw [if_neg (by decide), if_neg (by decide)]
        rw [ha, hb, if_neg (by decide)] at hK
        exact hK
    · rw [decide_eq_false q, if_neg (by decide), if_neg (by decide)]
      rw [decide_eq_false q, Bool.false_and] at ha
      rw [ha, if_neg (by decide)] at hK
      exact hK
  have e1 : List.filterMap (fun i => if adj row' i = true then some (PyData.int (1 + (i : Int))) else none) (List.range (row'.length - 1)) = (spotsI row').map fun (i : Nat) => PyData.int (1 + (i : Int)) := by
    unfold spotsI
    induction List.range (row'.length - 1) with
    | nil => rfl
    | cons b r ih =>
      rw [List.filterMap_cons, List.filter_cons]
      cases adj row' b <;> simp [ih]
  rw [List.nil_append, e1]
  have hsl : (spotsI row').length ≤ 100 := by
    have := List.length_filter_le (adj row') (List.range (row'.length - 1))
    rw [List.length_range] at this
    show (List.filter (adj row') (List.range (row'.length - 1))).length ≤ 100
    omega
  walk_at "ms"
  repeat walk_at "me"
  refine Ev_List rfl (EvL_nil ⟨[], rfl, sl16 (by simp), ?_⟩)
  refine op_eq (lay_map fun _ _ => rfl) rfl (by
    have := depth_map (f := fun (i : Nat) => PyData.int (1 + (i : Int))) (k := 0) (l := spotsI row') fun _ _ => Nat.le_refl _
    simp only [PyData.depth]; omega) ⟨_, rfl, ?_⟩
  have e2 : PyData.eqv (.list ((spotsI row').map fun (i : Nat) => PyData.int (1 + (i : Int)))) (.list []) = decide (spotsI row' = []) := by
    cases spotsI row' <;> simp [PyData.eqv, PyData.eqvAll]
  rw [e2]
  by_cases q : spotsI row' = []
  · rw [decide_eq_true q, if_pos rfl]
    walk_at "ms"
    walk_at "me"
    have e3 : restP cells k row' spot' = (row', spot') := by
      cases k with
      | zero => rfl
      | succ k => unfold restP; rw [if_pos q]
    rw [← h2, e3] at h
    exact h
  · rw [decide_eq_false q, if_neg (by decide)]
    walk_at "ms"
    have hpos : 0 < (spotsI row').length := List.length_pos_iff.mpr q
    have hdr := drawn_lt cells spot' hpos
    have hlen : (((spotsI row').map fun (i : Nat) => PyData.int (1 + (i : Int))).length : Int) = (spotsI row').length := by simp
    walk_at "ms"
    repeat walk_at "me"
    refine len_listD (sl16 (by simp; exact Nat.le_trans hsl (by decide))) ?_
    rw [hlen]
    repeat walk_at "me"
    refine c_next a (wide := (spotsI row').length) hσ' hpos hc (by omega) (by omega) ?_
    rw [Led.set_set]
    have hj : ∃ i, (spotsI row')[drawn cells spot' (spotsI row').length]? = some i ∧ (spotsI row').getD (drawn cells spot' (spotsI row').length) 0 = i := ⟨_, List.getElem?_eq_getElem hdr, by simp [hdr]⟩
    obtain ⟨i, hi1, hi2⟩ := hj
    have hir : i < row'.length - 1 := by
      have := List.mem_of_getElem? hi1
      exact List.mem_range.mp (List.mem_filter.mp this).1
    refine gi_list (i := drawn cells spot' (spotsI row').length) (d := .int (1 + (i : Int))) (by rw [List.getElem?_map, hi1]; rfl) (by omega) ?_
    walk_at "ms"
    repeat walk_at "me"
    refine ⟨(i : Nat), by congr 2; omega, sl_take (sl16 (by simp; omega)) ?_⟩
    repeat walk_at "me"
    refine ⟨((i + 2 : Nat) : Int), by congr 2; omega, ?_⟩
    repeat walk_at "me"
    refine sl_drop (sl16 (by simp; omega)) ?_
    refine op_addL (sl16 (by simp; omega)) ?_
    walk_at "ms"
    have hk : k ≠ 0 := fun e => by
      have : row'.length = 0 := by omega
      omega
    refine ⟨k - 1, by omega, row'.take i ++ row'.drop (i + 2), spot' + 1, by simp; omega, ?_, ?_, by omega, by omega, rfl, ⟨rfl, ?_, trivial⟩⟩
    · rw [← h2]
      obtain ⟨k', rfl⟩ : ∃ k', k = k' + 1 := ⟨k - 1, by omega⟩
      conv => rhs; unfold restP
      rw [if_neg q, hi2]
      rfl
    · intro s hs
      rcases List.mem_append.mp hs with hs | hs
      · exact h3 s (List.mem_of_mem_take hs)
      · exact h3 s (List.mem_of_mem_drop hs)
    · simp [lookup_mset]
end
end Mine
set_option maxRecDepth 100000
namespace Mine
open PySem PySem.W PyProof.Rows

section
variable {X : Cx} {P P' : Heap} {F : Addr → Option Obj} {σ σ' : Led} {s s' : Shared} {h' : Heap} {env : Env} {m mc : List (Str × V)} {n : Nat} {Q : V → Led → Prop}

/-! ## is_variable -/
def Lf.isVar : Lf → Bool
  | .x | .y => true
  | _ => false
def Tm.isVar : Tm → Bool
  | .leaf l => l.isVar
  | _ => false
theorem first_q (l : Lf) : decide (first1 l.name = Str.ofString "?") = l.isVar := by cases l <;> kernel_rfl
theorem first_lay (l : Lf) : (PyData.str (first1 l.name)).canLay0 = true := by cases l <;> kernel_rfl
theorem first_len (l : Lf) : (first1 l.name).length ≤ sizeLine := by
  refine sl16 ?_
  have : (decide ((first1 l.name).length ≤ 1000)) = true := by cases l <;> kernel_rfl
  exact of_decide_eq_true this
theorem lay_q : (PyData.str (Str.ofString "?")).canLay0 = true := by kernel_rfl

theorem c_isvar (a : At X) {t : Tm} (hn : 1 ≤ n) (h : Q (.d (.bool t.isVar)) σ) : Cl X n (.ref 109) [.d t.enc] σ Q := by
  refine Cl_def (ps := [Str.ofString "t"]) (by walk_at "mdef1") rfl hn fun L => ?_
  walk_at "ms"
  refine Ev_And ?_
  have e : t.enc = .tuple (.str t.head :: t.kids.map Tm.enc) := t.enc_eq
  rw [e]
  refine (?_ : Ev X _ _ (eval _ _) _ _ _)
  repeat walk_at "me"
  refine len_tupleD (sl16 (by cases t <;> simp [Tm.kids])) ?_
  repeat walk_at "me"
  refine op_eqi ⟨_, rfl, ?_⟩
  cases t with
  | leaf l =>
    rw [decide_eq_true (by rfl), if_pos rfl]
    refine (?_ : Ev X _ _ (eval _ _) _ _ _)
    repeat walk_at "me"
    refine gi_tuple (j := 0) (d := .str l.name) rfl rfl (by decide) ?_
    repeat walk_at "me"
    refine ⟨1, rfl, ?_⟩
    repeat walk_at "me"
    refine sl_str1 (first_len l) ?_
    repeat walk_at "me"
    refine op_eqs (first_lay l) lay_q ?_
    rw [first_q]
    exact h
  | f t =>
    rw [decide_eq_false (by simp [Tm.kids]; try omega), if_neg (by decide)]
    exact h
  | g t u =>
    rw [decide_eq_false (by simp [Tm.kids]; try omega), if_neg (by decide)]
    exact h

/-! ## parts -/
def partsP : Tm → List (List Nat × Tm)
  | .leaf l => [([], .leaf l)]
  | .f t => ([], .f t) :: (partsP t).map fun q => (0 :: q.1, q.2)
  | .g t u => ([], .g t u) :: ((partsP t).map fun q => (0 :: q.1, q.2)) ++ ((partsP u).map fun q => (1 :: q.1, q.2))
def encPart (q : List Nat × Tm) : PyData := .tuple [encP q.1, q.2.enc]
def kidsI : Tm → List (Nat × Tm)
  | .leaf _ => []
  | .f t => [(0, t)]
  | .g t u => [(0, t), (1, u)]
theorem partsP_eq (t : Tm) : partsP t = ([], t) :: (kidsI t).flatMap fun q => (partsP q.2).map fun r => (q.1 :: r.1, r.2) := by
  cases t <;> simp [partsP, kidsI]
theorem partsP_len : ∀ t : Tm, (partsP t).length = t.sz
  | .leaf l => rfl
  | .f t => by simp [partsP, Tm.sz, partsP_len t]; omega
  | .g t u => by simp [partsP, Tm.sz, partsP_len t, partsP_len u]; omega
theorem path_len : ∀ t : Tm, ∀ q ∈ partsP t, q.1.length < t.sz
  | .leaf l, q, h => by simp [partsP] at h; subst h; simp [Tm.sz]
  | .f t, q, h => by
    simp only [partsP, List.mem_cons, List.mem_map] at h
    rcases h with rfl | ⟨r, hr, rfl⟩
    · simp [Tm.sz]; omega
    · have := path_len t r hr; simp [Tm.sz]; omega
  | .g t u, q, h => by
    simp only [partsP, List.cons_append, List.mem_cons, List.mem_append, List.mem_map] at h
    rcases h with rfl | ⟨r, hr, rfl⟩ | ⟨r, hr, rfl⟩
    · simp [Tm.sz]; omega
    · have := path_len t r hr; simp [Tm.sz]; omega
    · have := path_len u r hr; simp [Tm.sz]; omega
theorem kidsI_sz {t : Tm} {q : Nat × Tm} (h : q ∈ kidsI t) : q.2.sz < t.sz := by
  cases t with
  | leaf l => cases h
  | f t => simp [kidsI] at h; subst h; simp [Tm.sz]
  | g t u => simp [kidsI] at h; rcases h with rfl | rfl <;> simp [Tm.sz] <;> omega
theorem kidsI_enum (t : Tm) : enumV 0 ((PyData.str t.head :: t.kids.map Tm.enc).drop 1) = (kidsI t).map fun q => V.pr (.int (q.1 : Int)) q.2.enc := by
  cases t <;> rfl

theorem c_parts (a : At X) : ∀ (N : Nat) (t : Tm), t.sz ≤ N → t.sz ≤ 200 → ∀ {n : Nat} {σ : Led} {Q : V → Led → Prop}, t.sz + 1 ≤ n → Q (.d (.list ((partsP t).map encPart))) σ → Cl X n (.ref 124) [.d t.enc] σ Q := by
  intro N
  induction N with
  | zero => intro t h; cases t <;> simp [Tm.sz] at h
  | succ N ih =>
  intro t hN ht n σ Q hn h
  refine Cl_def (ps := [Str.ofString "t"]) (by walk_at "mdef1") rfl (by omega) fun L => ?_
  walk_at "ms"
  refine Ev_ListM rfl ?_
  repeat walk_at "me"
  refine ⟨[], rfl, sl16 (by simp), ?_⟩
  repeat walk_at "me"
  refine ⟨[.tuple [], t.enc], rfl, sl16 (by simp), ?_⟩
  refine EvL_nil ⟨[encPart ([], t)], rfl, sl16 (by simp), fun fa hfa => ?_⟩
  refine Ex_cons (For_rule ?_)
  walk_at "me"
  walk_at "me"
  have e : t.enc = .tuple (.str t.head :: t.kids.map Tm.enc) := t.enc_eq
  have hk : (t.kids.map Tm.enc).length ≤ 2 := by cases t <;> simp [Tm.kids]
  repeat walk_at "me"
  refine ⟨1, rfl, ?_⟩
  repeat walk_at "me"
  rw [e]
  refine sl_dropT (b := 1) (Nat.le_refl _) (by simp) (sl16 (by simp at hk ⊢; omega)) ?_
  walk_at "me"
  refine ci_enumT ?_
  rw [kidsI_enum]
  refine Loop_inv (fun q => V.pr (.int (q.1 : Int)) q.2.enc) (fun r σ1 => ∃ acc : List (List Nat × Tm), σ1 = σ.set fa (.lst (acc.map encPart)) ∧ (acc ++ r.flatMap fun q => (partsP q.2).map fun r => (q.1 :: r.1, r.2)) = partsP t ∧ ∀ q ∈ r, q.2.sz < t.sz)
    [(Str.ofString "found", .c (.ref fa))] ?_ ?_ _ _ _ ?_ ⟨[([], t)], rfl, by rw [partsP_eq t]; rfl, fun q hq => kidsI_sz hq⟩
  · rintro ⟨k, kid⟩ r σ1 m1 ⟨acc, rfl, h2, h3⟩ hm
    have hkid : kid.sz < t.sz := h3 _ (.head _)
    have hlen : acc.length + (partsP kid).length ≤ 200 := by
      have := congrArg List.length h2
      rw [partsP_len] at this
      simp at this
      omega
    refine As_Pair (As_Name (.inr ⟨rfl, rfl⟩) (As_Name (.inl rfl) ?_))
    refine Ex_sub [(Str.ofString "kid", .d kid.enc), (Str.ofString "k", .d (.int (k : Int))), (Str.ofString "found", .c (.ref fa))] ⟨by rw [lookup_c, if_pos rfl], by rw [lookup_c, if_neg (by decide), lookup_c, if_pos rfl], subL_cons (subL_cons hm rfl) rfl⟩ ?_
    refine r_extend rfl (by decide) rfl rfl rfl rfl (Led.set_self ..) ?_
    refine Ev_Comp [(Str.ofString "k", L + 1)] [(Str.ofString "k", .d (.int (k : Int)))] (Capt.one rfl rfl rfl rfl rfl) (by decide) (by decide) rfl (by decide) ?_
    refine It_val ?_
    repeat walk_at "me"
    refine ih kid (by omega) (by omega) (by omega) ?_
    refine Iv_list ⟨by simp [partsP_len]; exact sl16 (by omega), fun C => ?_⟩
    have e2 : (List.map encPart (partsP kid)).map V.d = (partsP kid).map fun q => V.d (encPart q) := by simp
    rw [e2]
    refine compL_gen (fun q => V.d (encPart q)) (fun q => some (encPart (k :: q.1, q.2))) (partsP kid) [] (fun q hq K hK => As_Tuple (As_Name (.inl rfl) (As_Name (.inl rfl) ⟨⟨rfl, trivial⟩, ?_⟩))) ?_
    · show Ev X _ _ _ _ _ _
      repeat walk_at "me"
      refine ⟨[.int (k : Int)], rfl, sl16 (by simp), ?_⟩
      repeat walk_at "me"
      refine op_addT (xs := [.int (k : Int)]) (ys := q.1.map fun (i : Nat) => PyData.int (i : Int)) ?_ ?_
      · have := path_len kid q hq
        exact sl16 (by simp; omega)
      repeat walk_at "me"
      exact ⟨[encP (k :: q.1), q.2.enc], rfl, sl16 (by simp), _, rfl, hK⟩
    · have e3 : List.filterMap (fun q => some (encPart (k :: q.1, q.2))) (partsP kid) = ((partsP kid).map fun r => (k :: r.1, r.2)).map encPart := by simp [Function.comp_def]
      rw [List.nil_append, e3]
      refine ⟨_, _, rfl, Led.set_self .., sl16 (by simp [partsP_len]; have := congrArg List.length h2; rw [partsP_len] at this; simp at this; omega), ?_⟩
      rw [Led.set_set, ← List.map_append]
      walk_at "ms"
      refine ⟨⟨?_, trivial⟩, _, rfl, by rw [List.append_assoc]; simpa using h2, fun q hq => h3 q (.tail _ hq)⟩
      rfl
  · rintro m1 σ1 hm ⟨acc, rfl, h2, _⟩
    have h3 : acc = partsP t := by simpa using h2
    subst h3
    refine Ex_sub _ hm ?_
    refine Ex_freeze (a := fa) (ds := (partsP t).map encPart) (Led.set_self ..) ?_
    rw [Led.del_set _ _ _ hfa]
    have e4 : frz fa (.d (.list ((partsP t).map encPart))) [(Str.ofString "found", .c (.ref fa))] = [(Str.ofString "found", .d (.list ((partsP t).map encPart)))] := by simp [frz]
    rw [e4]
    walk_at "ms"
    walk_at "me"
    exact h
  · exact ⟨rfl, trivial⟩
end
end Mine
set_option maxRecDepth 100000
namespace Mine
open PySem PySem.W PyProof.Rows

section
variable {X : Cx} {P P' : Heap} {F : Addr → Option Obj} {σ σ' : Led} {s s' : Shared} {h' : Heap} {env : Env} {m mc : List (Str × V)} {n : Nat} {Q : V → Led → Prop}

theorem Loop_inv2 {α : Type} {target : Expr} {body : List Stmt} {Q : Fl → List (Str × V) → Led → Prop} (f : α → V) (I : List α → List (Str × V) → Led → Prop)
    (hs : ∀ x r σ m, I (x :: r) m σ → As X n env (assign target env) (f x) m σ fun m1 σ1 => Ex X n env (execs body env) m1 σ1 fun fl m2 σ2 => match fl with
      | .next | .cont => I r m2 σ2
      | .brk => Q .next m2 σ2
      | .ret v => Q (.ret v) m2 σ2)
    (hq : ∀ m σ, I [] m σ → Q .next m σ) : ∀ (l : List α) (m : List (Str × V)) (σ : Led), I l m σ → Loop X n env target body Q (l.map f) m σ
  | [], m, σ, hI => hq m σ hI
  | x :: l, m, σ, hI => (hs x l σ m hI).mono fun m1 σ1 h1 => h1.mono fun fl m2 σ2 h2 => by
    cases fl with
    | next => exact Loop_inv2 f I hs hq l m2 σ2 h2
    | cont => exact Loop_inv2 f I hs hq l m2 σ2 h2
    | brk => exact h2
    | ret v => exact h2

def partAt : Tm → List Nat → Option Tm
  | t, [] => some t
  | t, k :: p => match t.kids[k]? with
    | some u => partAt u p
    | none => none
def setKid : Tm → Nat → Tm → Tm
  | .f _, 0, u => .f u
  | .g _ s, 0, u => .g u s
  | .g s _, 1, u => .g s u
  | t, _, _ => t
def replP : Tm → List Nat → Tm → Tm
  | _, [], u => u
  | t, k :: p, u => match t.kids[k]? with
    | some v => setKid t k (replP v p u)
    | none => t
theorem kids_len (t : Tm) : t.kids.length ≤ 2 := by cases t <;> simp [Tm.kids]
theorem enc_kid {t v : Tm} {k : Nat} (h : t.kids[k]? = some v) : (PyData.str t.head :: t.kids.map Tm.enc)[k + 1]? = some v.enc := by simp [h]
theorem kid_lt {t v : Tm} {k : Nat} (h : t.kids[k]? = some v) : k < t.kids.length := (List.getElem?_eq_some_iff.mp h).1
theorem kid_sz {t v : Tm} {k : Nat} (h : t.kids[k]? = some v) : v.sz < t.sz := by
  cases t with
  | leaf l => simp [Tm.kids] at h
  | f t => match k, h with
    | 0, h => simp [Tm.kids] at h; subst h; simp [Tm.sz]
  | g t u => match k, h with
    | 0, h => simp [Tm.kids] at h; subst h; simp [Tm.sz]; omega
    | 1, h => simp [Tm.kids] at h; subst h; simp [Tm.sz]; omega
theorem setKid_enc {t v r : Tm} {k : Nat} (h : t.kids[k]? = some v) : (setKid t k r).enc = .tuple ((PyData.str t.head :: t.kids.map Tm.enc).take (k + 1) ++ [r.enc] ++ (PyData.str t.head :: t.kids.map Tm.enc).drop (k + 2)) := by
  cases t with
  | leaf l => simp [Tm.kids] at h
  | f t => match k, h with
    | 0, h => rfl
  | g t u => match k, h with
    | 0, h => rfl
    | 1, h => rfl

theorem lastTr (op1 op2 : CmpOp) {l r1 r2 : Expr} {pos : Pos} {whole : Sem Value} {Q : Bool → Led → Prop} (hm : lastMarks [op1, op2] [r1, r2] = false)
    (h : Ev X n env (eval l env) m σ fun v0 σ0 => Ev X n env (eval r1 env) m σ0 fun v1 σ1 => Op2 X n (compareOp op1) v0 v1 σ1 fun c σ2 => ∃ b, c = .d (.bool b) ∧
      if b then Ev X n env (eval r2 env) m σ2 fun v2 σ3 => Op2 X n (compareOp op2) v1 v2 σ3 fun c σ4 => ∃ b, c = .d (.bool b) ∧ Q b σ4 else Q false σ2) : Tr X n env (isTrue (.Compare l [op1, op2] [r1, r2] pos) env whole) m σ Q := Tr_chain2 h hm
theorem gi_tupI {ds : List PyData} {z : Int} {i : Nat} {d : PyData} (hz : z = i) (hd : ds[i]? = some d) (hl : ds.length ≤ 100) (h : Q (.d d) σ) : Gi X n (.d (.tuple ds)) (.d (.int z)) σ Q := by
  have hi : i < ds.length := (List.getElem?_eq_some_iff.mp hd).1
  subst hz
  refine gi_tuple (j := i) ?_ hd (by omega) h
  unfold seqIndex?
  simp; omega

theorem c_partat (a : At X) {t u : Tm} {p : List Nat} (hp : partAt t p = some u) (hl : p.length ≤ 100) (hn : 1 ≤ n) (h : Q (.d u.enc) σ) : Cl X n (.ref 131) [.d t.enc, .d (encP p)] σ Q := by
  refine Cl_def (ps := [Str.ofString "t", Str.ofString "path"]) (by walk_at "mdef2") rfl (by omega) fun L => ?_
  refine Ex_cons (For_rule (It_val ?_))
  repeat walk_at "me"
  refine Iv_tuple (ds := p.map fun (k : Nat) => PyData.int (k : Int)) ?_
  have e : List.map V.d (p.map fun (k : Nat) => PyData.int (k : Int)) = p.map fun (k : Nat) => V.d (.int (k : Int)) := by simp
  rw [e]
  refine Loop_inv2 (fun (k : Nat) => V.d (.int (k : Int))) (fun r m' σ' => ∃ v, partAt v r = some u ∧ σ' = σ ∧ SubL [(Str.ofString "t", .d v.enc)] m') ?_ ?_ p _ _ ⟨t, hp, rfl, rfl, trivial⟩
  · rintro k r σ1 m1 ⟨v, h1, rfl, hm⟩
    unfold partAt at h1
    cases hk : v.kids[k]? with
    | none => rw [hk] at h1; cases h1
    | some w =>
      rw [hk] at h1
      have hkl := kid_lt hk
      refine As_Name (.inl rfl) ?_
      refine Ex_sub [(Str.ofString "k", .d (.int (k : Int))), (Str.ofString "t", .d v.enc)] ⟨by rw [lookup_c, if_pos rfl], subL_cons hm rfl⟩ ?_
      have ev : v.enc = .tuple (.str v.head :: v.kids.map Tm.enc) := v.enc_eq
      have e2 : (((PyData.str v.head :: v.kids.map Tm.enc).length : Nat) : Int) - 1 = v.kids.length := by simp
      have hk2 := kids_len v
      walk_at "ms"
      repeat walk_at "me"
      refine lastTr _ _ rfl ?_
      repeat walk_at "me"
      refine ⟨_, rfl, ?_⟩
      rw [decide_eq_true (by omega), if_pos rfl]
      repeat walk_at "me"
      rw [ev]
      refine len_tupleD (sl16 (by simp; omega)) ?_
      repeat walk_at "me"
      rw [e2]
      refine ⟨_, rfl, ?_⟩
      rw [decide_eq_true (by omega)]
      rw [if_neg (by decide)]
      walk_at "ms"
      walk_at "ms"
      repeat walk_at "me"
      refine gi_tupI (i := k + 1) (by omega) (enc_kid hk) (by simp; omega) ?_
      walk_at "ms"
      exact ⟨w, h1, rfl, by rw [lookup_c, if_pos rfl], trivial⟩
  · rintro m1 σ1 ⟨v, h1, rfl, hm⟩
    have : v = u := by simpa [partAt] using h1
    subst this
    refine Ex_sub _ hm ?_
    walk_at "ms"
    walk_at "me"
    exact h

theorem c_repl (a : At X) {u : Tm} : ∀ (p : List Nat) (t : Tm) {v : Tm}, partAt t p = some v → p.length ≤ 50 → ∀ {n : Nat} {σ : Led} {Q : V → Led → Prop}, p.length + 2 ≤ n → Q (.d (replP t p u).enc) σ → Cl X n (.ref 138) [.d t.enc, .d (encP p), .d u.enc] σ Q := by
  intro p
  induction p with
  | nil =>
    intro t v hp hl n σ Q hn h
    refine Cl_def (ps := [Str.ofString "t", Str.ofString "path", Str.ofString "u"]) (by walk_at "mdef3") rfl (by omega) fun L => ?_
    walk_at "ms"
    repeat walk_at "me"
    refine ⟨[], rfl, sl16 (by simp), op_eq (lay_encP []) rfl (by decide) ⟨_, rfl, ?_⟩⟩
    rw [if_pos (by rfl)]
    walk_at "ms"
    walk_at "me"
    exact h
  | cons k p ih =>
    intro t v hp hl n σ Q hn h
    simp only [List.length_cons] at hl hn
    unfold partAt at hp
    unfold replP at h
    cases hk : t.kids[k]? with
    | none => rw [hk] at hp; cases hp
    | some w =>
    rw [hk] at hp h
    dsimp only at h
    have ev : t.enc = .tuple (.str t.head :: t.kids.map Tm.enc) := t.enc_eq
    have hkl := kid_lt hk
    have hk2 := kids_len t
    have hpd : encP (k :: p) = .tuple (.int (k : Int) :: p.map fun (i : Nat) => PyData.int (i : Int)) := rfl
    refine Cl_def (ps := [Str.ofString "t", Str.ofString "path", Str.ofString "u"]) (by walk_at "mdef3") rfl (by omega) fun L => ?_
    walk_at "ms"
    repeat walk_at "me"
    refine ⟨[], rfl, sl16 (by simp), op_eq (lay_encP _) rfl (by have := depth_encP (k :: p); omega) ⟨_, rfl, ?_⟩⟩
    have e1 : PyData.eqv (encP (k :: p)) (.tuple []) = false := by simp [hpd, PyData.eqv, PyData.eqvAll]
    rw [e1, if_neg (by decide)]
    walk_at "ms"
    walk_at "ms"
    repeat walk_at "me"
    refine ⟨1, rfl, ?_⟩
    repeat walk_at "me"
    refine sl_takeT (ds := .int (k : Int) :: p.map fun (i : Nat) => PyData.int (i : Int)) (b := 1) (by simp) (sl16 (by simp; omega)) ?_
    repeat walk_at "me"
    refine c_partat a (p := [k]) (u := w) (by unfold partAt; rw [hk]; rfl) (by simp) (by omega) ?_
    walk_at "ms"
    repeat walk_at "me"
    refine gi_tupI (ds := .int (k : Int) :: p.map fun (i : Nat) => PyData.int (i : Int)) (i := 0) rfl rfl (by simp; omega) ?_
    repeat walk_at "me"
    refine ⟨((k + 1 : Nat) : Int), by congr 2, ?_⟩
    repeat walk_at "me"
    rw [ev]
    refine sl_takeT (by simp; omega) (sl16 (by simp; omega)) ?_
    repeat walk_at "me"
    refine ⟨1, rfl, ?_⟩
    repeat walk_at "me"
    refine sl_dropT (ds := .int (k : Int) :: p.map fun (i : Nat) => PyData.int (i : Int)) (b := 1) (Nat.le_refl _) (by simp) (sl16 (by simp; omega)) ?_
    repeat walk_at "me"
    refine ih w hp (by omega) (by omega) ?_
    refine EvL_nil ⟨[(replP w p u).enc], rfl, sl16 (by simp), ?_⟩
    refine op_addT (sl16 (by simp; omega)) ?_
    repeat walk_at "me"
    refine gi_tupI (ds := .int (k : Int) :: p.map fun (i : Nat) => PyData.int (i : Int)) (i := 0) rfl rfl (by simp; omega) ?_
    repeat walk_at "me"
    refine ⟨((k + 2 : Nat) : Int), by congr 2, ?_⟩
    repeat walk_at "me"
    refine sl_dropT (by omega) (by simp; omega) (sl16 (by simp; omega)) ?_
    refine op_addT (sl16 (by simp; omega)) ?_
    rw [← setKid_enc hk]
    exact h
end
end Mine
set_option maxRecDepth 100000
namespace Mine
open PySem PySem.W PyProof.Rows

section
variable {X : Cx} {P P' : Heap} {F : Addr → Option Obj} {σ σ' : Led} {s s' : Shared} {h' : Heap} {env : Env} {m mc : List (Str × V)} {n : Nat} {Q : V → Led → Prop}

/-! ## a term is drawn -/
def abc (k : Nat) : Lf := match k with
  | 0 => .a
  | 1 => .b
  | _ => .c
def termP (cells : List Int) : Nat → Nat → Tm × Nat
  | 0, spot => (.leaf (abc (drawn cells spot 3)), spot + 1)
  | d + 1, spot => if drawn cells spot 5 < 3 then (.leaf (abc (drawn cells spot 5)), spot + 1)
    else if drawn cells spot 5 = 3 then (.f (termP cells d (spot + 1)).1, (termP cells d (spot + 1)).2)
    else (.g (termP cells d (spot + 1)).1 (termP cells d (termP cells d (spot + 1)).2).1, (termP cells d (termP cells d (spot + 1)).2).2)
theorem termP_bound (cells : List Int) : ∀ d spot, (termP cells d spot).1.sz + 1 ≤ 2 ^ (d + 1) ∧ spot < (termP cells d spot).2 ∧ (termP cells d spot).2 + 1 ≤ spot + 2 ^ (d + 1)
  | 0, spot => by simp [termP, Tm.sz]
  | d + 1, spot => by
    have h1 := termP_bound cells d (spot + 1)
    have h2 := termP_bound cells d (termP cells d (spot + 1)).2
    have hp : 2 ^ (d + 1 + 1) = 2 * 2 ^ (d + 1) := by rw [Nat.pow_succ]; omega
    have hq : 2 ≤ 2 ^ (d + 1) := by have := Nat.pow_le_pow_right (n := 2) (by decide) (show 1 ≤ d + 1 by omega); simpa using this
    unfold termP
    split
    · simp only [Tm.sz]; omega
    · split
      · simp only [Tm.sz]; omega
      · simp only [Tm.sz]; omega

theorem ev_abc {k : Nat} (hk : k < 3) (h : Q (.d (.str (abc k).name)) σ) : Gi X n (.d (.str (Str.ofString "abc"))) (.d (.int (k : Int))) σ Q := by
  match k, hk with
  | 0, _ => exact gi_str (j := 0) (c := 97) (by kernel_rfl) (by kernel_rfl) (by decide) h
  | 1, _ => exact gi_str (j := 1) (c := 98) (by kernel_rfl) (by kernel_rfl) (by decide) h
  | 2, _ => exact gi_str (j := 2) (c := 99) (by kernel_rfl) (by kernel_rfl) (by decide) h

theorem c_term (a : At X) {f : Addr} {cells : List Int} (hc : cells.length ≤ 100) : ∀ (d : Nat) {spot : Nat} {n : Nat} {σ : Led} {Q : V → Led → Prop}, σ f = some (feedV cells spot) → spot + 2 ^ (d + 1) ≤ 90000 → d + 2 ≤ n →
    Q (.d (termP cells d spot).1.enc) (σ.set f (feedV cells (termP cells d spot).2)) → Cl X n (.ref 389) [.c (.ref f), .d (.int (d : Int))] σ Q := by
  intro d
  induction d with
  | zero =>
    intro spot n σ Q hσ hs hn h
    refine Cl_def (ps := [Str.ofString "feed", Str.ofString "deep"]) (by walk_at "mdef2") rfl (by omega) fun L => ?_
    have hd := drawn_lt cells spot (wide := 3) (by decide)
    walk_at "ms"
    repeat walk_at "me"
    refine ⟨_, rfl, ?_⟩
    rw [decide_eq_false (by decide), if_neg (by decide)]
    repeat walk_at "me"
    refine c_next a (wide := 3) hσ (by decide) hc (by omega) (by omega) ?_
    walk_at "ms"
    repeat walk_at "me"
    refine ⟨_, rfl, ?_⟩
    rw [decide_eq_true (by omega), if_pos rfl]
    walk_at "ms"
    repeat walk_at "me"
    refine ev_abc hd ?_
    refine EvL_nil ⟨[.str (abc (drawn cells spot 3)).name], rfl, sl16 (by simp), ?_⟩
    exact h
  | succ d ih =>
    intro spot n σ Q hσ hs hn h
    refine Cl_def (ps := [Str.ofString "feed", Str.ofString "deep"]) (by walk_at "mdef2") rfl (by omega) fun L => ?_
    have hd := drawn_lt cells spot (wide := 5) (by decide)
    have hp : 2 ^ (d + 1 + 1) = 2 * 2 ^ (d + 1) := by rw [Nat.pow_succ]; omega
    have hq : 2 ≤ 2 ^ (d + 1) := by have := Nat.pow_le_pow_right (n := 2) (by decide) (show 1 ≤ d + 1 by omega); simpa using this
    have hb := termP_bound cells d (spot + 1)
    have hσ1 : (σ.set f (feedV cells (spot + 1))) f = some (feedV cells (spot + 1)) := Led.set_self ..
    have hσ2 : (σ.set f (feedV cells (termP cells d (spot + 1)).2)) f = some (feedV cells (termP cells d (spot + 1)).2) := Led.set_self ..
    unfold termP at h
    walk_at "ms"
    repeat walk_at "me"
    refine ⟨_, rfl, ?_⟩
    rw [decide_eq_true (by omega), if_pos rfl]
    repeat walk_at "me"
    refine c_next a (wide := 5) hσ (by decide) hc (by omega) (by omega) ?_
    walk_at "ms"
    repeat walk_at "me"
    refine ⟨_, rfl, ?_⟩
    by_cases q : drawn cells spot 5 < 3
    · rw [if_pos q] at h
      rw [decide_eq_true (by omega), if_pos rfl]
      walk_at "ms"
      repeat walk_at "me"
      refine ev_abc q ?_
      refine EvL_nil ⟨[.str (abc (drawn cells spot 5)).name], rfl, sl16 (by simp), ?_⟩
      exact h
    · rw [if_neg q] at h
      rw [decide_eq_false (by omega), if_neg (by decide)]
      walk_at "ms"
      walk_at "ms"
      repeat walk_at "me"
      rw [show ((d + 1 : Nat) : Int) - 1 = (d : Int) by omega]
      refine ih hσ1 (by omega) (by omega) ?_
      rw [Led.set_set]
      walk_at "ms"
      repeat walk_at "me"
      refine op_eqi ⟨_, rfl, ?_⟩
      by_cases q3 : drawn cells spot 5 = 3
      · rw [if_pos q3] at h
        rw [decide_eq_true (by omega), if_pos rfl]
        repeat walk_at "me"
        exact ⟨[.str (Str.ofString "f"), _], rfl, sl16 (by simp), h⟩
      · rw [if_neg q3] at h
        rw [decide_eq_false (by omega), if_neg (by decide)]
        repeat walk_at "me"
        rw [show ((d + 1 : Nat) : Int) - 1 = (d : Int) by omega]
        refine ih hσ2 (by omega) (by omega) ?_
        rw [Led.set_set]
        exact EvL_nil ⟨[.str (Str.ofString "g"), _, _], rfl, sl16 (by simp), h⟩
end
end Mine
set_option maxRecDepth 100000
set_option maxHeartbeats 8000000
namespace Mine
open PySem PySem.W PyProof.Rows

section
variable {X : Cx} {P P' : Heap} {F : Addr → Option Obj} {σ σ' : Led} {s s' : Shared} {h' : Heap} {env : Env} {m mc : List (Str × V)} {n : Nat} {Q : V → Led → Prop}

theorem partAt_parts : ∀ t : Tm, ∀ q ∈ partsP t, partAt t q.1 = some q.2
  | .leaf l, q, h => by simp [partsP] at h; subst h; rfl
  | .f t, q, h => by
    simp only [partsP, List.mem_cons, List.mem_map] at h
    rcases h with rfl | ⟨r, hr, rfl⟩
    · rfl
    · exact partAt_parts t r hr
  | .g t u, q, h => by
    simp only [partsP, List.cons_append, List.mem_cons, List.mem_append, List.mem_map] at h
    rcases h with rfl | ⟨r, hr, rfl⟩ | ⟨r, hr, rfl⟩
    · rfl
    · exact partAt_parts t r hr
    · exact partAt_parts u r hr

def toldS (l b : Bool) : Tm := if b then toldB l else toldA l
def tellP (t : Tm) (q : List Nat × Tm) (l b : Bool) : List (Sp × Tm) := if q.2 = toldS l b then [((.told q.1 l, b), replP t q.1 (toldS l (!b)))] else []
def ruleAt (t : Tm) (p : List Nat) (x y : Tm) (b : Bool) : Sp × Tm := ((.rule p [(false, if b then y else x), (true, if b then x else y)], b), replP t p (.g y x))
def ruleP (t : Tm) (q : List Nat × Tm) (b : Bool) : List (Sp × Tm) := match q.2 with
  | .g x y => [ruleAt t q.1 x y b]
  | _ => []
def ableAt (t : Tm) (q : List Nat × Tm) : List (Sp × Tm) := ([false, true].flatMap fun l => [false, true].flatMap fun b => tellP t q l b) ++ [false, true].flatMap fun b => ruleP t q b
def ableP (t : Tm) : List (Sp × Tm) := (partsP t).flatMap (ableAt t)
def encA (q : Sp × Tm) : PyData := .tuple [encS q.1, q.2.enc]

theorem lay_head (t : Tm) : (PyData.str t.head).canLay0 = true := by cases t with | leaf l => exact lay_name l | f t => kernel_rfl | g t u => kernel_rfl
theorem told_lookup (l : Bool) : toldV.lookup (labelName l) = some (.d (.tuple [(toldA l).enc, (toldB l).enc])) := by cases l <;> rfl
theorem told_get (l b : Bool) : [(toldA l).enc, (toldB l).enc][if b then 1 else 0]? = some (toldS l b).enc := by cases b <;> rfl
theorem head_g (t : Tm) : decide (t.head = Str.ofString "g") = (match t with | .g _ _ => true | _ => false) := by
  cases t with
  | leaf l => cases l <;> kernel_rfl
  | f t => kernel_rfl
  | g t u => kernel_rfl
theorem tellP_len (t : Tm) (q : List Nat × Tm) (l b : Bool) : (tellP t q l b).length ≤ 1 := by unfold tellP; split <;> simp
theorem ruleP_len (t : Tm) (q : List Nat × Tm) (b : Bool) : (ruleP t q b).length ≤ 1 := by unfold ruleP; split <;> simp
theorem ableAt_len (t : Tm) (q : List Nat × Tm) : (ableAt t q).length ≤ 6 := by
  have a1 := tellP_len t q false false
  have a2 := tellP_len t q false true
  have a3 := tellP_len t q true false
  have a4 := tellP_len t q true true
  have a5 := ruleP_len t q false
  have a6 := ruleP_len t q true
  simp [ableAt]; omega
theorem flat_len {α β : Type} {f : α → List β} {k : Nat} : ∀ (l : List α), (∀ x ∈ l, (f x).length ≤ k) → (l.flatMap f).length ≤ k * l.length
  | [], _ => by simp
  | x :: l, h => by
    have h1 := h x (.head _)
    have h2 := flat_len l fun y hy => h y (.tail _ hy)
    simp only [List.flatMap_cons, List.length_append, List.length_cons, Nat.mul_succ]; omega
theorem ableP_len (t : Tm) : (ableP t).length ≤ 6 * t.sz := by
  have := flat_len (f := ableAt t) (k := 6) (partsP t) fun q _ => ableAt_len t q
  rw [partsP_len] at this; exact this

theorem part_sz : ∀ t : Tm, ∀ q ∈ partsP t, q.2.sz ≤ t.sz
  | .leaf l, q, h => by simp [partsP] at h; subst h; exact Nat.le_refl _
  | .f t, q, h => by
    simp only [partsP, List.mem_cons, List.mem_map] at h
    rcases h with rfl | ⟨r, hr, rfl⟩
    · exact Nat.le_refl _
    · have := part_sz t r hr; simp [Tm.sz]; omega
  | .g t u, q, h => by
    simp only [partsP, List.cons_append, List.mem_cons, List.mem_append, List.mem_map] at h
    rcases h with rfl | ⟨r, hr, rfl⟩ | ⟨r, hr, rfl⟩
    · exact Nat.le_refl _
    · have := part_sz t r hr; simp [Tm.sz]; omega
    · have := part_sz u r hr; simp [Tm.sz]; omega
/-- the side that stands in the table -/
theorem gi_told {l b : Bool} {z : Int} (hz : z = if b then 1 else 0) (h : Q (.d (toldS l b).enc) σ) : Gi X n (.d (.tuple [(toldA l).enc, (toldB l).enc])) (.d (.int z)) σ Q :=
  gi_tupI (i := if b then 1 else 0) (by rw [hz]; cases b <;> rfl) (told_get l b) (by simp) h

theorem c_able (a : At X) {t : Tm} (ht : t.sz ≤ 40) (hn : t.sz + 10 ≤ n) (h : Q (.d (.list ((ableP t).map encA))) σ) : Cl X n (.ref 382) [.d t.enc] σ Q := by
  refine Cl_def (ps := [Str.ofString "t"]) (by walk_at "mdef1") rfl (by omega) fun L => ?_
  walk_at "ms"
  refine Ev_ListM rfl (EvL_nil ⟨[], rfl, sl16 (by simp), fun fa hfa => ?_⟩)
  refine Ex_cons (For_rule (It_val ?_))
  repeat walk_at "me"
  refine c_parts a t.sz t (Nat.le_refl _) (by omega) (by omega) (Iv_list ?_)
  have e2 : (List.map encPart (partsP t)).map V.d = (partsP t).map fun q => V.d (encPart q) := by simp
  rw [e2]
  have hlen : ∀ {acc r : List (Sp × Tm)}, acc ++ r = ableP t → acc.length + r.length ≤ 240 := fun {acc r} e => by
    have := ableP_len t
    have := congrArg List.length e
    rw [List.length_append] at this
    omega
  refine Loop_inv (fun q => V.d (encPart q)) (fun r σ1 => ∃ acc : List (Sp × Tm), σ1 = σ.set fa (.lst (acc.map encA)) ∧ acc ++ r.flatMap (ableAt t) = ableP t ∧ ∀ q ∈ r, q ∈ partsP t)
    [(Str.ofString "found", .c (.ref fa)), (Str.ofString "t", .d t.enc)] ?_ ?_ _ _ _ ?_ ⟨[], rfl, rfl, fun q hq => hq⟩
  · rintro ⟨p, u⟩ r σ1 m1 ⟨acc, rfl, h2, h3⟩ hm
    have hq := h3 _ (.head _)
    have hpart : partAt t p = some u := partAt_parts t _ hq
    have hpl : p.length < t.sz := path_len t _ hq
    rw [List.flatMap_cons, ← List.append_assoc] at h2
    refine As_Tuple (As_Name (.inl rfl) (As_Name (.inl rfl) ?_))
    refine Ex_sub [(Str.ofString "part", .d u.enc), (Str.ofString "path", .d (encP p)), (Str.ofString "found", .c (.ref fa)), (Str.ofString "t", .d t.enc)] ⟨by rw [lookup_c, if_pos rfl], by rw [lookup_c, if_neg (by decide), lookup_c, if_pos rfl], subL_cons (subL_cons hm rfl) rfl⟩ ?_
    -- the told ones
    refine Ex_cons (For_rule (It_val ?_))
    repeat walk_at "me"
    refine ⟨[.str (labelName false), .str (labelName true)], rfl, sl16 (by simp), Iv_tuple ?_⟩
    refine Loop_inv (fun l => V.d (.str (labelName l))) (fun rl σ1 => ∃ done : List (Sp × Tm), σ1 = σ.set fa (.lst ((acc ++ done).map encA)) ∧ (done ++ rl.flatMap fun l => [false, true].flatMap fun b => tellP t (p, u) l b) = [false, true].flatMap fun l => [false, true].flatMap fun b => tellP t (p, u) l b)
      [(Str.ofString "part", .d u.enc), (Str.ofString "path", .d (encP p)), (Str.ofString "found", .c (.ref fa)), (Str.ofString "t", .d t.enc)] ?_ ?_ [false, true] _ _ ?_ ⟨[], by simp, rfl⟩
    · rintro l rl σ2 m2 ⟨done, rfl, h5⟩ hm2
      refine As_Name (.inl rfl) ?_
      refine Ex_sub [(Str.ofString "label", .d (.str (labelName l))), (Str.ofString "part", .d u.enc), (Str.ofString "path", .d (encP p)), (Str.ofString "found", .c (.ref fa)), (Str.ofString "t", .d t.enc)] ⟨by rw [lookup_c, if_pos rfl], subL_cons hm2 rfl⟩ ?_
      refine Ex_cons (For_rule (It_val ?_))
      repeat walk_at "me"
      refine ⟨[.bool false, .bool true], rfl, sl16 (by simp), Iv_tuple ?_⟩
      refine Loop_inv (fun b => V.d (.bool b)) (fun rb σ1 => ∃ dn : List (Sp × Tm), σ1 = σ.set fa (.lst ((acc ++ dn).map encA)) ∧ (dn ++ rb.flatMap fun b => tellP t (p, u) l b) = done ++ [false, true].flatMap fun b => tellP t (p, u) l b)
        [(Str.ofString "label", .d (.str (labelName l))), (Str.ofString "part", .d u.enc), (Str.ofString "path", .d (encP p)), (Str.ofString "found", .c (.ref fa)), (Str.ofString "t", .d t.enc)] ?_ ?_ [false, true] _ _ ?_ ⟨done, rfl, rfl⟩
      · rintro b rb σ3 m3 ⟨dn, rfl, h7⟩ hm3
        refine As_Name (.inl rfl) ?_
        refine Ex_sub [(Str.ofString "is_back", .d (.bool b)), (Str.ofString "label", .d (.str (labelName l))), (Str.ofString "part", .d u.enc), (Str.ofString "path", .d (encP p)), (Str.ofString "found", .c (.ref fa)), (Str.ofString "t", .d t.enc)] ⟨by rw [lookup_c, if_pos rfl], subL_cons hm3 rfl⟩ ?_
        walk_at "ms"
        repeat walk_at "me"
        refine Ev_Glob rfl (g_told a) (d_told a) ?_
        repeat walk_at "me"
        refine gi_dct (told_lookup l) ?_
        repeat walk_at "me"
        refine int_boolD ?_
        refine gi_told rfl ?_
        have hu : u.sz ≤ 40 := Nat.le_trans (part_sz t _ hq) ht
        refine op_eq (lay_enc _) (lay_enc _) (by have := depth_enc u; omega) ⟨_, rfl, ?_⟩
        rw [eqv_enc]
        rw [List.flatMap_cons] at h7
        by_cases q : u = toldS l b
        · rw [decide_eq_true q, if_pos rfl]
          have e4 : tellP t (p, u) l b = [((.told p l, b), replP t p (toldS l (!b)))] := by unfold tellP; rw [if_pos q]
          refine r_append rfl (by decide) rfl rfl rfl rfl (Led.set_self ..) ?_
          repeat walk_at "me"
          refine ⟨[], rfl, sl16 (by simp), ?_⟩
          repeat walk_at "me"
          refine ⟨[encP p, .str (Str.ofString "told"), .str (labelName l), .tuple [], .bool b], rfl, sl16 (by simp), ?_⟩
          repeat walk_at "me"
          refine Ev_Glob rfl (g_told a) (d_told a) ?_
          repeat walk_at "me"
          refine gi_dct (told_lookup l) ?_
          repeat walk_at "me"
          refine int_boolD ?_
          repeat walk_at "me"
          refine gi_told (b := !b) (by cases b <;> rfl) ?_
          repeat walk_at "me"
          refine c_repl a p t hpart (by omega) (by omega) ?_
          refine EvL_nil ⟨[encS (.told p l, b), (replP t p (toldS l (!b))).enc], rfl, sl16 (by simp), ?_⟩
          refine ⟨encA ((.told p l, b), replP t p (toldS l (!b))), _, rfl, Led.set_self .., sl16 ?_, ?_⟩
          · have h8 := hlen h2
            have h9 := congrArg List.length h7
            have h10 := congrArg List.length h5
            have a1 := tellP_len t (p, u) false false
            have a2 := tellP_len t (p, u) false true
            have a3 := tellP_len t (p, u) true false
            have a4 := tellP_len t (p, u) true true
            have a5 := tellP_len t (p, u) l false
            have a6 := tellP_len t (p, u) l true
            have h11 : (acc ++ ableAt t (p, u)).length ≤ 240 := by omega
            simp at h9 h10 h11 ⊢
            omega
          walk_at "ms"
          walk_at "ms"
          rw [Led.set_set]
          refine ⟨⟨rfl, rfl, rfl, rfl, rfl, trivial⟩, dn ++ [((.told p l, b), replP t p (toldS l (!b)))], ?_, ?_⟩
          · congr 2; simp
          · rw [← h7, e4]; simp
        · rw [decide_eq_false q, if_neg (by decide)]
          have e4 : tellP t (p, u) l b = [] := by unfold tellP; rw [if_neg q]
          walk_at "ms"
          walk_at "ms"
          refine ⟨⟨rfl, rfl, rfl, rfl, rfl, trivial⟩, dn, rfl, ?_⟩
          rw [← h7, e4]; simp
      · rintro m3 σ3 hm3 ⟨dn, rfl, h7⟩
        walk_at "ms"
        refine ⟨?_, dn, rfl, ?_⟩
        · exact hm3.2
        · simp at h7
          rw [← h5, h7]; simp
      · exact ⟨rfl, rfl, rfl, rfl, rfl, trivial⟩
    · rintro m2 σ2 hm2 ⟨done, rfl, h5⟩
      simp only [List.flatMap_nil, List.append_nil] at h5
      -- the rule
      refine Ex_sub _ hm2 ?_
      walk_at "ms"
      repeat walk_at "me"
      have eu : u.enc = .tuple (.str u.head :: u.kids.map Tm.enc) := u.enc_eq
      have hk2 := kids_len u
      rw [eu]
      refine gi_tupI (i := 0) rfl rfl (by simp; omega) ?_
      repeat walk_at "me"
      refine op_eqs (lay_head u) (by kernel_rfl) ⟨_, rfl, ?_⟩
      rw [head_g]
      cases u with
      | leaf l =>
        rw [if_neg (by simp)]
        walk_at "ms"
        walk_at "ms"
        refine ⟨⟨rfl, rfl, trivial⟩, acc ++ done, rfl, ?_, fun q hq' => h3 q (.tail _ hq')⟩
        rw [← h2, h5]; simp [ableAt, ruleP]
      | f u =>
        rw [if_neg (by simp)]
        walk_at "ms"
        walk_at "ms"
        refine ⟨⟨rfl, rfl, trivial⟩, acc ++ done, rfl, ?_, fun q hq' => h3 q (.tail _ hq')⟩
        rw [← h2, h5]; simp [ableAt, ruleP]
      | g x y =>
        rw [if_pos rfl]
        refine Ex_cons (For_rule (It_val ?_))
        repeat walk_at "me"
        refine ⟨[.bool false, .bool true], rfl, sl16 (by simp), Iv_tuple ?_⟩
        refine Loop_inv (fun b => V.d (.bool b)) (fun rb σ1 => ∃ dn : List (Sp × Tm), σ1 = σ.set fa (.lst ((acc ++ done ++ dn).map encA)) ∧ (dn ++ rb.map fun b => ruleAt t p x y b) = [false, true].map fun b => ruleAt t p x y b)
          [(Str.ofString "part", .d (Tm.g x y).enc), (Str.ofString "path", .d (encP p)), (Str.ofString "found", .c (.ref fa)), (Str.ofString "t", .d t.enc)] ?_ ?_ [false, true] _ _ ?_ ⟨[], by simp, rfl⟩
        · rintro b rb σ3 m3 ⟨dn, rfl, h7⟩ hm3
          refine As_Name (.inl rfl) ?_
          refine Ex_sub [(Str.ofString "is_back", .d (.bool b)), (Str.ofString "part", .d (Tm.g x y).enc), (Str.ofString "path", .d (encP p)), (Str.ofString "found", .c (.ref fa)), (Str.ofString "t", .d t.enc)] ⟨by rw [lookup_c, if_pos rfl], subL_cons hm3 rfl⟩ ?_
          refine Ex_cons (Ex_AssignT ?_)
          repeat walk_at "me"
          refine Tr_val ?_
          walk_at "me"
          refine ⟨b, rfl, ?_⟩
          have hsz : ((acc ++ done ++ dn).map encA).length ≤ 1000 := by
            have h8 := hlen h2
            have h9 := congrArg List.length h7
            have h11 : (acc ++ ableAt t (p, Tm.g x y)).length ≤ 240 := by omega
            have h10 := congrArg List.length h5
            have a1 := tellP_len t (p, Tm.g x y) false false
            have a2 := tellP_len t (p, Tm.g x y) false true
            have a3 := tellP_len t (p, Tm.g x y) true false
            have a4 := tellP_len t (p, Tm.g x y) true true
            simp at h9 h10 h11 ⊢
            omega
          cases b with
          | false =>
            rw [if_neg (by decide)]
            repeat walk_at "me"
            refine gi_tupI (ds := [.str (Str.ofString "g"), x.enc, y.enc]) (i := 1) rfl rfl (by simp) ?_
            repeat walk_at "me"
            refine gi_tupI (ds := [.str (Str.ofString "g"), x.enc, y.enc]) (i := 2) rfl rfl (by simp) ?_
            refine EvL_nil ⟨[x.enc, y.enc], rfl, sl16 (by simp), As_Tuple (As_Name (.inl rfl) (As_Name (.inl rfl) ?_))⟩
            refine r_append rfl (by decide) rfl rfl rfl rfl (Led.set_self ..) ?_
            repeat walk_at "me"
            refine ⟨[.str Lf.x.name, x.enc], rfl, sl16 (by simp), ?_⟩
            repeat walk_at "me"
            refine ⟨[.str Lf.y.name, y.enc], rfl, sl16 (by simp), ?_⟩
            repeat walk_at "me"
            refine ⟨[.tuple [.str Lf.x.name, x.enc], .tuple [.str Lf.y.name, y.enc]], rfl, sl16 (by simp), ?_⟩
            repeat walk_at "me"
            refine ⟨[encP p, .str (Str.ofString "rule"), .str (Str.ofString "r"), .tuple [.tuple [.str Lf.x.name, x.enc], .tuple [.str Lf.y.name, y.enc]], .bool false], rfl, sl16 (by simp), ?_⟩
            repeat walk_at "me"
            refine gi_tupI (ds := [.str (Str.ofString "g"), x.enc, y.enc]) (i := 2) rfl rfl (by simp) ?_
            repeat walk_at "me"
            refine gi_tupI (ds := [.str (Str.ofString "g"), x.enc, y.enc]) (i := 1) rfl rfl (by simp) ?_
            refine EvL_nil ⟨[.str (Str.ofString "g"), y.enc, x.enc], rfl, sl16 (by simp), ?_⟩
            repeat walk_at "me"
            refine c_repl a (u := .g y x) p t hpart (by omega) (by omega) ?_
            refine EvL_nil ⟨[encS (ruleAt t p x y false).1, (ruleAt t p x y false).2.enc], rfl, sl16 (by simp), ?_⟩
            refine ⟨encA (ruleAt t p x y false), _, rfl, Led.set_self .., sl16 hsz, ?_⟩
            walk_at "ms"
            rw [Led.set_set]
            refine ⟨⟨rfl, rfl, rfl, rfl, trivial⟩, dn ++ [ruleAt t p x y false], ?_, ?_⟩
            · congr 2; simp
            · rw [← h7]; simp
          | true =>
            rw [if_pos rfl]
            repeat walk_at "me"
            refine gi_tupI (ds := [.str (Str.ofString "g"), x.enc, y.enc]) (i := 2) rfl rfl (by simp) ?_
            repeat walk_at "me"
            refine gi_tupI (ds := [.str (Str.ofString "g"), x.enc, y.enc]) (i := 1) rfl rfl (by simp) ?_
            refine EvL_nil ⟨[y.enc, x.enc], rfl, sl16 (by simp), As_Tuple (As_Name (.inl rfl) (As_Name (.inl rfl) ?_))⟩
            refine r_append rfl (by decide) rfl rfl rfl rfl (Led.set_self ..) ?_
            repeat walk_at "me"
            refine ⟨[.str Lf.x.name, y.enc], rfl, sl16 (by simp), ?_⟩
            repeat walk_at "me"
            refine ⟨[.str Lf.y.name, x.enc], rfl, sl16 (by simp), ?_⟩
            repeat walk_at "me"
            refine ⟨[.tuple [.str Lf.x.name, y.enc], .tuple [.str Lf.y.name, x.enc]], rfl, sl16 (by simp), ?_⟩
            repeat walk_at "me"
            refine ⟨[encP p, .str (Str.ofString "rule"), .str (Str.ofString "r"), .tuple [.tuple [.str Lf.x.name, y.enc], .tuple [.str Lf.y.name, x.enc]], .bool true], rfl, sl16 (by simp), ?_⟩
            repeat walk_at "me"
            refine gi_tupI (ds := [.str (Str.ofString "g"), x.enc, y.enc]) (i := 2) rfl rfl (by simp) ?_
            repeat walk_at "me"
            refine gi_tupI (ds := [.str (Str.ofString "g"), x.enc, y.enc]) (i := 1) rfl rfl (by simp) ?_
            refine EvL_nil ⟨[.str (Str.ofString "g"), y.enc, x.enc], rfl, sl16 (by simp), ?_⟩
            repeat walk_at "me"
            refine c_repl a (u := .g y x) p t hpart (by omega) (by omega) ?_
            refine EvL_nil ⟨[encS (ruleAt t p x y true).1, (ruleAt t p x y true).2.enc], rfl, sl16 (by simp), ?_⟩
            refine ⟨encA (ruleAt t p x y true), _, rfl, Led.set_self .., sl16 hsz, ?_⟩
            walk_at "ms"
            rw [Led.set_set]
            refine ⟨⟨rfl, rfl, rfl, rfl, trivial⟩, dn ++ [ruleAt t p x y true], ?_, ?_⟩
            · congr 2; simp
            · rw [← h7]; simp
        · rintro m3 σ3 hm3 ⟨dn, rfl, h7⟩
          walk_at "ms"
          walk_at "ms"
          refine ⟨⟨hm3.2.2.1, hm3.2.2.2.1, trivial⟩, acc ++ done ++ dn, rfl, ?_, fun q hq' => h3 q (.tail _ hq')⟩
          simp at h7
          rw [← h2, h5, h7]; simp [ableAt, ruleP]
        · exact ⟨rfl, rfl, rfl, rfl, trivial⟩
    · exact ⟨rfl, rfl, rfl, rfl, trivial⟩
  · rintro m1 σ1 hm ⟨acc, rfl, h2, _⟩
    have h3 : acc = ableP t := by simpa using h2
    subst h3
    refine Ex_sub [(Str.ofString "found", .c (.ref fa))] ⟨hm.1, trivial⟩ ?_
    refine Ex_freeze (a := fa) (ds := (ableP t).map encA) (Led.set_self ..) ?_
    rw [Led.del_set _ _ _ hfa]
    have e4 : frz fa (.d (.list ((ableP t).map encA))) [(Str.ofString "found", .c (.ref fa))] = [(Str.ofString "found", .d (.list ((ableP t).map encA)))] := by simp [frz]
    rw [e4]
    walk_at "ms"
    walk_at "me"
    exact h
  · exact ⟨rfl, rfl, trivial⟩
end
end Mine
set_option maxRecDepth 100000
namespace Mine
open PySem PySem.W PyProof.Rows

/-! ## steps on terms -/
def sidesP (s : Sp) : Option (List Nat × Tm × Tm) := match s.1 with
  | .told p l => some (p, toldS l s.2, toldS l (!s.2))
  | .rule p [(false, x), (true, y)] => some (p, if s.2 then Tm.g y x else Tm.g x y, if s.2 then Tm.g x y else Tm.g y x)
  | .rule _ _ => none
def stepT (u : Tm) (s : Sp) : Option Tm := match sidesP s with
  | some (p, l, r) => if partAt u p = some l then some (replP u p r) else none
  | none => none
inductive RunF : Tm → List Sp → List Tm → Prop
  | nil {u} : RunF u [] []
  | cons {u s v r vs} : stepT u s = some v → RunF v r vs → RunF u (s :: r) (v :: vs)
def endOf (u : Tm) (vs : List Tm) : Tm := vs.getLastD u

theorem setKid_part {t v r : Tm} {k : Nat} (h : t.kids[k]? = some v) : (setKid t k r).kids[k]? = some r := by
  cases t with
  | leaf l => simp [Tm.kids] at h
  | f t => match k, h with
    | 0, h => rfl
  | g t u => match k, h with
    | 0, h => rfl
    | 1, h => rfl
theorem part_repl : ∀ (p : List Nat) {t v r : Tm}, partAt t p = some v → partAt (replP t p r) p = some r
  | [], t, v, r, h => rfl
  | k :: p, t, v, r, h => by
    unfold partAt at h
    cases hk : t.kids[k]? with
    | none => rw [hk] at h; cases h
    | some w =>
      rw [hk] at h
      unfold replP partAt
      rw [hk]
      dsimp only
      rw [setKid_part hk]
      exact part_repl p h
theorem repl_back : ∀ (p : List Nat) {t v r : Tm}, partAt t p = some v → replP (replP t p r) p v = t
  | [], t, v, r, h => by simp [partAt] at h; subst h; rfl
  | k :: p, t, v, r, h => by
    unfold partAt at h
    cases hk : t.kids[k]? with
    | none => rw [hk] at h; cases h
    | some w =>
      rw [hk] at h
      have e : replP t (k :: p) r = setKid t k (replP w p r) := by
        conv => lhs; unfold replP
        rw [hk]
      rw [e]
      unfold replP
      rw [setKid_part hk]
      dsimp only
      rw [repl_back p h, ]
      have : ∀ x y, setKid (setKid t k x) k y = setKid t k y := by
        intro x y
        cases t with
        | leaf l => simp [Tm.kids] at hk
        | f t => match k, hk with
          | 0, _ => rfl
        | g t u => match k, hk with
          | 0, _ => rfl
          | 1, _ => rfl
      rw [this]
      cases t with
      | leaf l => simp [Tm.kids] at hk
      | f t => match k, hk with
        | 0, hk => simp [Tm.kids] at hk; subst hk; rfl
      | g t u => match k, hk with
        | 0, hk => simp [Tm.kids] at hk; subst hk; rfl
        | 1, hk => simp [Tm.kids] at hk; subst hk; rfl
theorem sides_turn {s : Sp} {p : List Nat} {l r : Tm} (h : sidesP s = some (p, l, r)) : sidesP (turnS s) = some (p, r, l) := by
  obtain ⟨c, b⟩ := s
  unfold sidesP turnS at *
  cases c with
  | told q k => simp at h ⊢; obtain ⟨rfl, rfl, rfl⟩ := h; simp
  | rule q pl =>
    match pl, h with
    | [(false, x), (true, y)], h => simp at h ⊢; obtain ⟨rfl, rfl, rfl⟩ := h; cases b <;> simp
theorem step_back {u v : Tm} {s : Sp} (h : stepT u s = some v) : stepT v (turnS s) = some u := by
  unfold stepT at *
  cases hs : sidesP s with
  | none => rw [hs] at h; cases h
  | some q =>
    obtain ⟨p, l, r⟩ := q
    rw [hs] at h
    rw [sides_turn hs]
    dsimp only at h ⊢
    split at h
    · rename_i hp
      cases h
      rw [if_pos (part_repl p hp), repl_back p hp]
    · cases h

/-! ## sizes, grounds -/
def Lf.ground : Lf → Bool
  | .a | .b | .c => true
  | _ => false
def Tm.ground : Tm → Bool
  | .leaf l => l.ground
  | .f t => t.ground
  | .g t u => t.ground && u.ground
theorem toldS_ground (l b : Bool) : (toldS l b).ground = true := by cases l <;> cases b <;> rfl
theorem kid_ground {t v : Tm} {k : Nat} (h : t.kids[k]? = some v) (hg : t.ground = true) : v.ground = true := by
  cases t with
  | leaf l => simp [Tm.kids] at h
  | f t => match k, h with
    | 0, h => simp [Tm.kids] at h; subst h; exact hg
  | g t u =>
    simp [Tm.ground] at hg
    match k, h with
    | 0, h => simp [Tm.kids] at h; subst h; exact hg.1
    | 1, h => simp [Tm.kids] at h; subst h; exact hg.2
theorem setKid_ground {t v r : Tm} {k : Nat} (h : t.kids[k]? = some v) (hg : t.ground = true) (hr : r.ground = true) : (setKid t k r).ground = true := by
  cases t with
  | leaf l => simp [Tm.kids] at h
  | f t => match k, h with
    | 0, h => exact hr
  | g t u =>
    simp [Tm.ground] at hg
    match k, h with
    | 0, h => simp [setKid, Tm.ground, hr, hg.2]
    | 1, h => simp [setKid, Tm.ground, hr, hg.1]
theorem setKid_sz {t v r : Tm} {k : Nat} (h : t.kids[k]? = some v) : (setKid t k r).sz + v.sz = t.sz + r.sz := by
  cases t with
  | leaf l => simp [Tm.kids] at h
  | f t => match k, h with
    | 0, h => simp [Tm.kids] at h; subst h; simp [setKid, Tm.sz]; omega
  | g t u => match k, h with
    | 0, h => simp [Tm.kids] at h; subst h; simp [setKid, Tm.sz]; omega
    | 1, h => simp [Tm.kids] at h; subst h; simp [setKid, Tm.sz]; omega
theorem repl_ground : ∀ (p : List Nat) {t v r : Tm}, partAt t p = some v → t.ground = true → (v.ground = true → r.ground = true) → (replP t p r).ground = true ∧ v.ground = true
  | [], t, v, r, h, hg, hr => by simp [partAt] at h; subst h; exact ⟨hr hg, hg⟩
  | k :: p, t, v, r, h, hg, hr => by
    unfold partAt at h
    cases hk : t.kids[k]? with
    | none => rw [hk] at h; cases h
    | some w =>
      rw [hk] at h
      have ih := repl_ground p h (kid_ground hk hg) hr
      unfold replP
      rw [hk]
      exact ⟨setKid_ground hk hg ih.1, ih.2⟩
theorem repl_sz : ∀ (p : List Nat) {t v r : Tm}, partAt t p = some v → (replP t p r).sz + v.sz = t.sz + r.sz
  | [], t, v, r, h => by simp [partAt] at h; subst h; simp [replP]; omega
  | k :: p, t, v, r, h => by
    unfold partAt at h
    cases hk : t.kids[k]? with
    | none => rw [hk] at h; cases h
    | some w =>
      rw [hk] at h
      have ih := repl_sz p (r := r) h
      have := setKid_sz (r := replP w p r) hk
      unfold replP
      rw [hk]
      dsimp only
      omega
theorem part_le : ∀ (p : List Nat) {t v : Tm}, partAt t p = some v → v.sz ≤ t.sz
  | [], t, v, h => by simp [partAt] at h; subst h; exact Nat.le_refl _
  | k :: p, t, v, h => by
    unfold partAt at h
    cases hk : t.kids[k]? with
    | none => rw [hk] at h; cases h
    | some w =>
      rw [hk] at h
      have := part_le p h
      have := kid_sz hk
      omega

structure AbleOk (u : Tm) (s : Sp) (v : Tm) : Prop where
  step : stepT u s = some v
  sz : v.sz ≤ u.sz + 1
  csz : s.1.sz ≤ u.sz
  ground : u.ground = true → v.ground = true
theorem able_ok {u : Tm} {q : Sp × Tm} (h : q ∈ ableP u) : AbleOk u q.1 q.2 := by
  obtain ⟨⟨p, w⟩, hp, hq⟩ := List.mem_flatMap.mp h
  have hpart : partAt u p = some w := partAt_parts u _ hp
  unfold ableAt at hq
  rcases List.mem_append.mp hq with hq | hq
  · obtain ⟨l, _, hq⟩ := List.mem_flatMap.mp hq
    obtain ⟨b, _, hq⟩ := List.mem_flatMap.mp hq
    unfold tellP at hq
    split at hq
    · rename_i hw
      dsimp only at hw
      rw [List.mem_singleton.mp hq]
      subst hw
      refine ⟨by simp [stepT, sidesP, hpart], ?_, by simp [Core.sz], fun hg => (repl_ground p hpart hg fun _ => toldS_ground _ _).1⟩
      have h1 := repl_sz p (r := toldS l (!b)) hpart
      have h2 : (toldS l (!b)).sz ≤ (toldS l b).sz + 1 := by cases l <;> cases b <;> decide
      show (replP u p (toldS l (!b))).sz ≤ u.sz + 1
      omega
    · cases hq
  · obtain ⟨b, _, hq⟩ := List.mem_flatMap.mp hq
    unfold ruleP at hq
    split at hq
    · rename_i x y hw
      dsimp only at hw
      subst hw
      rw [List.mem_singleton.mp hq]
      have h3 := part_le p hpart
      refine ⟨?_, ?_, ?_, fun hg => (repl_ground p (r := .g y x) hpart hg fun hh => ?_).1⟩
      · cases b <;> simp [ruleAt, stepT, sidesP, hpart]
      · have h1 := repl_sz p (r := .g y x) hpart
        show (replP u p (.g y x)).sz ≤ u.sz + 1
        simp only [Tm.sz] at h1 ⊢; omega
      · simp only [Tm.sz] at h3
        cases b <;> simp [ruleAt, Core.sz] <;> omega
      · simp only [Tm.ground, Bool.and_eq_true] at hh ⊢; exact ⟨hh.2, hh.1⟩
    · cases hq
theorem ground_leaf : ∀ {u : Tm}, u.ground = true → ∃ q ∈ partsP u, ∃ l b, q.2 = toldS l b
  | .leaf l, h => by
    refine ⟨([], .leaf l), by simp [partsP], ?_⟩
    cases l with
    | a => exact ⟨false, false, rfl⟩
    | b => exact ⟨false, true, rfl⟩
    | c => exact ⟨true, true, rfl⟩
    | x => cases h
    | y => cases h
  | .f t, h => by
    obtain ⟨q, hq, l, b, e⟩ := ground_leaf (u := t) h
    exact ⟨(0 :: q.1, q.2), by simp only [partsP, List.mem_cons, List.mem_map]; exact .inr ⟨q, hq, rfl⟩, l, b, e⟩
  | .g t u, h => by
    simp [Tm.ground] at h
    obtain ⟨q, hq, l, b, e⟩ := ground_leaf (u := t) h.1
    exact ⟨(0 :: q.1, q.2), by simp only [partsP, List.cons_append, List.mem_cons, List.mem_append, List.mem_map]; exact .inr (.inl ⟨q, hq, rfl⟩), l, b, e⟩
theorem able_ne {u : Tm} (h : u.ground = true) : ableP u ≠ [] := by
  obtain ⟨q, hq, l, b, e⟩ := ground_leaf h
  intro hn
  have : ((.told q.1 l, b), replP u q.1 (toldS l (!b))) ∈ ableP u := by
    refine List.mem_flatMap.mpr ⟨q, hq, List.mem_append.mpr (.inl (List.mem_flatMap.mpr ⟨l, by cases l <;> simp, List.mem_flatMap.mpr ⟨b, by cases b <;> simp, ?_⟩⟩))⟩
    unfold tellP
    rw [if_pos e]; simp
  rw [hn] at this; cases this
theorem termP_ground (cells : List Int) : ∀ d spot, (termP cells d spot).1.ground = true
  | 0, spot => by
    have h : ∀ k, (abc k).ground = true := fun k => by match k with | 0 => rfl | 1 => rfl | k + 2 => rfl
    exact h _
  | d + 1, spot => by
    have h : ∀ k, (abc k).ground = true := fun k => by match k with | 0 => rfl | 1 => rfl | k + 2 => rfl
    unfold termP
    split
    · exact h _
    · split
      · exact termP_ground cells d _
      · simp [Tm.ground, termP_ground cells d]

theorem endOf_cons (u v : Tm) (vs : List Tm) : endOf u (v :: vs) = endOf v vs := by cases vs <;> rfl
theorem endOf_snoc (u v : Tm) (vs : List Tm) : endOf u (vs ++ [v]) = v := by simp [endOf]
theorem RunF.snoc {s : Sp} {v : Tm} : ∀ {u : Tm} {r : List Sp} {vs : List Tm}, RunF u r vs → stepT (endOf u vs) s = some v → RunF u (r ++ [s]) (vs ++ [v])
  | u, _, _, .nil, h => .cons h .nil
  | u, _, _, .cons (v := w) (vs := vs) h1 h2, h => .cons h1 (RunF.snoc h2 (by
      rwa [endOf_cons] at h))
theorem RunF.len : ∀ {u : Tm} {r : List Sp} {vs : List Tm}, RunF u r vs → vs.length = r.length
  | _, _, _, .nil => rfl
  | _, _, _, .cons _ h => by simp [RunF.len h]
/-- the last step, and the terms at its ends -/
theorem RunF.unsnoc : ∀ {r : List Sp} {u : Tm} {s : Sp} {vs : List Tm}, RunF u (r ++ [s]) vs → ∃ ws w, vs = ws ++ [w] ∧ RunF u r ws ∧ stepT (endOf u ws) s = some w
  | [], u, s, _, .cons h1 .nil => ⟨[], _, rfl, .nil, h1⟩
  | _ :: r, u, s, _, .cons (v := v) h1 h2 => by
    obtain ⟨ws, w, rfl, h3, h4⟩ := RunF.unsnoc h2
    refine ⟨v :: ws, w, rfl, .cons h1 h3, ?_⟩
    rw [endOf_cons]; exact h4
end Mine
set_option maxRecDepth 100000
set_option maxHeartbeats 8000000
namespace Mine
open PySem PySem.W PyProof.Rows

section
variable {X : Cx} {P P' : Heap} {F : Addr → Option Obj} {σ σ' : Led} {s s' : Shared} {h' : Heap} {env : Env} {m mc : List (Str × V)} {n : Nat} {Q : V → Led → Prop}

theorem rng_map (a : Int) (k : Nat) : rng a k = (List.range k).map fun (i : Nat) => V.d (.int (a + (i : Int))) := rfl

structure WIs (t : Tm) (row : List Sp) (vs : List Tm) : Prop where
  run : RunF t row vs
  terms : ∀ x ∈ t :: vs, x.ground = true ∧ x.sz ≤ 10 + row.length
  steps : ∀ s ∈ row, s.1.sz ≤ 30
theorem WIs.snoc {t : Tm} {row : List Sp} {vs : List Tm} {s : Sp} {v : Tm} (w : WIs t row vs) (h : stepT (endOf t vs) s = some v) (hg : v.ground = true) (hs : v.sz ≤ 11 + row.length) (hc : s.1.sz ≤ 30) : WIs t (row ++ [s]) (vs ++ [v]) := by
  refine ⟨w.run.snoc h, fun x hx => ?_, fun r hr => ?_⟩
  · rw [← List.cons_append] at hx
    rcases List.mem_append.mp hx with hx | hx
    · have h1 := w.terms x hx
      simp only [List.length_append, List.length_singleton]
      exact ⟨h1.1, by omega⟩
    · rw [List.mem_singleton.mp hx]; simp; exact ⟨hg, by omega⟩
  · rcases List.mem_append.mp hr with hr | hr
    · exact w.steps r hr
    · rw [List.mem_singleton.mp hr]; exact hc
theorem endOf_mem (t : Tm) (vs : List Tm) : endOf t vs ∈ t :: vs := by
  induction vs generalizing t with
  | nil => simp [endOf]
  | cons v vs ih => rw [endOf_cons]; exact .tail _ (ih v)
theorem endOf_get (t : Tm) (vs : List Tm) : (t :: vs)[vs.length]? = some (endOf t vs) := by
  induction vs generalizing t with
  | nil => rfl
  | cons v vs ih => rw [endOf_cons]; simpa using ih v

theorem c_lwalk (a : At X) {f : Addr} {cells : List Int} {spot : Nat} {t : Tm} (hσ : σ f = some (feedV cells spot)) (hc : cells.length ≤ 100) (hs : spot ≤ 80000) (ht : t.sz ≤ 10) (hg : t.ground = true) (hn : 60 ≤ n)
    (h : ∀ row vs sp, WIs t row vs → row.length ≤ 7 → sp ≤ spot + 20 → Q (.d (.tuple [.list (row.map encS), .list ((t :: vs).map Tm.enc)])) (σ.set f (feedV cells sp))) : Cl X n (.ref 396) [.c (.ref f), .d t.enc] σ Q := by
  refine Cl_def (ps := [Str.ofString "feed", Str.ofString "t"]) (by walk_at "mdef2") rfl (by omega) fun L => ?_
  have hd8 := drawn_lt cells spot (wide := 8) (by decide)
  refine Ex_cons (Ex_AssignSwap rfl (.inl rfl) (.inl rfl) (EvL_cons (Ev_ListM rfl (EvL_nil ⟨[], rfl, sl16 (by simp), fun ra hra => EvL_cons (Ev_ListM rfl (EvL_cons (Ev_Name rfl (EvL_nil ⟨[t.enc], rfl, sl16 (by simp), fun ta hta => EvL_nil ⟨_, _, rfl, ?_⟩⟩))))⟩))))
  have hft : ta ≠ ra := fun e => by subst e; simp at hta
  have hta' : σ ta = none := by rwa [Led.set_ne _ _ hft] at hta
  have hfr : f ≠ ra := fun e => by subst e; rw [hσ] at hra; cases hra
  have hfa : f ≠ ta := fun e => by subst e; rw [hσ] at hta'; cases hta'
  refine Ex_cons (For_rule ?_)
  walk_at "me"
  repeat walk_at "me"
  have h0 : ((σ.set ra (.lst [])).set ta (.lst [t.enc])) f = some (feedV cells spot) := by rw [Led.set_ne _ _ hfa, Led.set_ne _ _ hfr]; exact hσ
  refine c_next a (wide := 8) h0 (by decide) hc (by omega) (by omega) ?_
  walk_at "me"
  refine ci_range1 (k := drawn cells spot 8) (by omega) ?_
  rw [rng_map]
  refine Loop_inv (fun (i : Nat) => V.d (.int (0 + (i : Int)))) (fun r σ' => ∃ row vs sp, WIs t row vs ∧ row.length + r.length ≤ 7 ∧ sp + 2 * r.length ≤ spot + 1 + 14 ∧ σ' f = some (feedV cells sp) ∧ σ' ra = some (.lst (row.map encS)) ∧ σ' ta = some (.lst ((t :: vs).map Tm.enc)) ∧ ∀ b, b ≠ f → b ≠ ra → b ≠ ta → σ' b = σ b)
    [(Str.ofString "row", .c (.ref ra)), (Str.ofString "terms", .c (.ref ta)), (Str.ofString "feed", .c (.ref f))] ?_ ?_ (List.range (drawn cells spot 8)) _ _ ?_ ⟨[], [], spot + 1, ⟨.nil, (by simp [hg]; exact ht), (by simp)⟩, (by simp; omega), (by simp; omega), ?_, ?_, ?_, fun b h1 h2 h3 => ?_⟩
  · rintro lap r σ1 m1 ⟨row, vs, sp, W, h2, h3, h4, h5, h6, h7⟩ hm
    simp only [List.length_cons] at h2 h3
    have hvl := W.run.len
    refine As_Name (.inl rfl) ?_
    refine Ex_sub _ (subL_cons hm rfl) ?_
    have hrl : (row.map encS).length ≤ sizeLine := sl16 (by simp; omega)
    -- a new step is drawn
    have fresh : ∀ {σ2 : Led} {sp2 : Nat}, sp2 + 1 + 2 * r.length ≤ spot + 1 + 14 → σ2 f = some (feedV cells sp2) → σ2 ra = some (.lst (row.map encS)) → σ2 ta = some (.lst ((t :: vs).map Tm.enc)) → (∀ b, b ≠ f → b ≠ ra → b ≠ ta → σ2 b = σ b) → True := fun _ _ _ _ _ => trivial
    walk_at "ms"
    repeat walk_at "me"
    refine Ev_List rfl (EvL_nil ⟨[], rfl, sl16 (by simp), ?_⟩)
    refine op_neM h5 (lay_rows row) rfl (by have := depth_rows W.steps; omega) ⟨_, rfl, ?_⟩
    have e1 : PyData.eqv (.list (row.map encS)) (.list []) = decide (row = []) := by cases row <;> simp [PyData.eqv, PyData.eqvAll]
    rw [e1]
    by_cases hrow : row = []
    · rw [decide_eq_true hrow, if_neg (by decide), if_neg (by decide)]
      walk_at "ms"
      repeat walk_at "me"
      refine gi_mutN (i := vs.length) (d := (endOf t vs).enc) h6 (by decide) (by simp; omega) (by rw [List.getElem?_map, endOf_get]; rfl) (by decide) ?_
      have hE := W.terms _ (endOf_mem t vs)
      refine c_able a (by omega) (by omega) ?_
      have hAl := ableP_len (endOf t vs)
      have hApos : 0 < (ableP (endOf t vs)).length := List.length_pos_iff.mpr (able_ne hE.1)
      have hAd := drawn_lt cells sp hApos
      have hAlen : (((ableP (endOf t vs)).map encA).length : Int) = (ableP (endOf t vs)).length := by simp
      refine Ex_cons (Ex_AssignT ?_)
      repeat walk_at "me"
      refine len_listD (sl16 (by simp; omega)) ?_
      rw [hAlen]
      repeat walk_at "me"
      refine c_next a (wide := (ableP (endOf t vs)).length) h4 hApos hc (by omega) (by omega) ?_
      obtain ⟨q, hq⟩ : ∃ q, (ableP (endOf t vs))[drawn cells sp (ableP (endOf t vs)).length]? = some q := ⟨_, List.getElem?_eq_getElem hAd⟩
      have hqo := able_ok (List.mem_of_getElem? hq)
      refine gi_list (i := drawn cells sp (ableP (endOf t vs)).length) (d := encA q) (by rw [List.getElem?_map, hq]; rfl) (by omega) ?_
      refine As_Tuple (As_Name (.inl rfl) (As_Name (.inl rfl) ?_))
      refine r_append rfl (by decide) rfl rfl rfl rfl (l := ra) (ds0 := row.map encS) (by rw [Led.set_ne _ _ hfr.symm]; exact h5) ?_
      repeat walk_at "me"
      refine ⟨encS q.1, row.map encS, rfl, (by rw [Led.set_ne _ _ hfr.symm]; exact h5), hrl, ?_⟩
      refine r_append rfl (by decide) rfl rfl rfl rfl (l := ta) (ds0 := (t :: vs).map Tm.enc) (by rw [Led.set_ne _ _ hft, Led.set_ne _ _ hfa.symm]; exact h6) ?_
      repeat walk_at "me"
      refine ⟨q.2.enc, (t :: vs).map Tm.enc, rfl, (by rw [Led.set_ne _ _ hft, Led.set_ne _ _ hfa.symm]; exact h6), sl16 (by simp; omega), ?_⟩
      walk_at "ms"
      walk_at "ms"
      refine ⟨⟨rfl, rfl, rfl, trivial⟩, row ++ [q.1], vs ++ [q.2], sp + 1, W.snoc hqo.step (hqo.ground hE.1) (by have := hqo.sz; omega) (by have := hqo.csz; omega), by simp; omega, by omega, ?_, ?_, ?_, fun b h1 h2 h3 => ?_⟩
      · rw [Led.set_ne _ _ hfa, Led.set_ne _ _ hfr, Led.set_self]
      · rw [Led.set_ne _ _ hft.symm, Led.set_self]; simp
      · rw [Led.set_self]; simp
      · rw [Led.set_ne _ _ h3, Led.set_ne _ _ h2, Led.set_ne _ _ h1]; exact h7 b h1 h2 h3
    · rw [decide_eq_false hrow, Bool.not_false, if_pos rfl]
      repeat walk_at "me"
      refine c_next a (wide := 3) h4 (by decide) hc (by omega) (by omega) ?_
      repeat walk_at "me"
      refine op_eqi ⟨_, rfl, ?_⟩
      by_cases hz : drawn cells sp 3 = 0
      · rw [decide_eq_true (by omega), if_pos rfl]
        walk_at "me"
        rw [if_pos rfl]
        -- the one ahead is undone
        obtain ⟨row0, l, rfl⟩ : ∃ row0 l, row = row0 ++ [l] := by
          rcases List.eq_nil_or_concat row with h | ⟨r0, l, h⟩
          · exact absurd h hrow
          · exact ⟨r0, l, by rw [h, List.concat_eq_append]⟩
        obtain ⟨ws, w, rfl, hR0, hst⟩ := W.run.unsnoc
        have hwl : ws.length = row0.length := hR0.len
        have e3 : (List.map encS (row0 ++ [l])).drop ((List.map encS (row0 ++ [l])).length - 1) = [l].map encS := by simp
        refine r_append rfl (by decide) rfl rfl rfl rfl (l := ra) (ds0 := (row0 ++ [l]).map encS) (by rw [Led.set_ne _ _ hfr.symm]; exact h5) ?_
        repeat walk_at "me"
        refine ⟨-1, rfl, ?_⟩
        repeat walk_at "me"
        refine sl_lastM (by rw [Led.set_ne _ _ hfr.symm]; exact h5) hrl ?_
        rw [e3]
        refine EvL_nil (c_turned a (by simp) (by omega) ?_)
        repeat walk_at "me"
        refine gi_list (i := 0) (d := encS (turnS l)) rfl (by decide) ?_
        refine ⟨encS (turnS l), (row0 ++ [l]).map encS, rfl, (by rw [Led.set_ne _ _ hfr.symm]; exact h5), hrl, ?_⟩
        have h6' : ∀ o, ((σ1.set f (feedV cells (sp + 1))).set ra o) ta = some (.lst ((t :: (ws ++ [w])).map Tm.enc)) := fun o => by rw [Led.set_ne _ _ hft, Led.set_ne _ _ hfa.symm]; exact h6
        refine r_append rfl (by decide) rfl rfl rfl rfl (l := ta) (ds0 := (t :: (ws ++ [w])).map Tm.enc) (h6' _) ?_
        repeat walk_at "me"
        refine gi_mutN (i := ws.length) (d := (endOf t ws).enc) (h6' _) (by decide) (by simp; omega) (by rw [List.getElem?_map, ← List.cons_append, List.getElem?_append_left (by simp), endOf_get]; rfl) (by decide) ?_
        refine ⟨(endOf t ws).enc, (t :: (ws ++ [w])).map Tm.enc, rfl, h6' _, sl16 (by simp; simp at h2; omega), ?_⟩
        walk_at "ms"
        walk_at "ms"
        have hE := W.terms (endOf t ws) (by
          have := endOf_mem t ws
          rw [← List.cons_append]; exact List.mem_append_left _ this)
        refine ⟨⟨rfl, rfl, rfl, trivial⟩, (row0 ++ [l]) ++ [turnS l], (ws ++ [w]) ++ [endOf t ws], sp + 1, W.snoc (by rw [endOf_snoc]; exact step_back hst) hE.1 (by have := hE.2; omega) (W.steps l (by simp)), by simp at h2 ⊢; omega, by omega, ?_, ?_, ?_, fun b h1 h2 h3 => ?_⟩
        · rw [Led.set_ne _ _ hfa, Led.set_ne _ _ hfr, Led.set_self]
        · rw [Led.set_ne _ _ hft.symm, Led.set_self]; simp
        · rw [Led.set_self]; simp
        · rw [Led.set_ne _ _ h3, Led.set_ne _ _ h2, Led.set_ne _ _ h1]; exact h7 b h1 h2 h3
      · rw [decide_eq_false (by omega), if_neg (by decide), if_neg (by decide)]
        have k4 : (σ1.set f (feedV cells (sp + 1))) f = some (feedV cells (sp + 1)) := Led.set_self ..
        have k5 : (σ1.set f (feedV cells (sp + 1))) ra = some (.lst (row.map encS)) := by rw [Led.set_ne _ _ hfr.symm]; exact h5
        have k6 : (σ1.set f (feedV cells (sp + 1))) ta = some (.lst ((t :: vs).map Tm.enc)) := by rw [Led.set_ne _ _ hfa.symm]; exact h6
        have k7 : ∀ b, b ≠ f → b ≠ ra → b ≠ ta → (σ1.set f (feedV cells (sp + 1))) b = σ b := fun b h1 h2 h3 => by rw [Led.set_ne _ _ h1]; exact h7 b h1 h2 h3
        walk_at "ms"
        repeat walk_at "me"
        refine gi_mutN (i := vs.length) (d := (endOf t vs).enc) k6 (by decide) (by simp; omega) (by rw [List.getElem?_map, endOf_get]; rfl) (by decide) ?_
        have hE := W.terms _ (endOf_mem t vs)
        refine c_able a (by omega) (by omega) ?_
        have hAl := ableP_len (endOf t vs)
        have hApos : 0 < (ableP (endOf t vs)).length := List.length_pos_iff.mpr (able_ne hE.1)
        have hAd := drawn_lt cells (sp + 1) hApos
        have hAlen : (((ableP (endOf t vs)).map encA).length : Int) = (ableP (endOf t vs)).length := by simp
        refine Ex_cons (Ex_AssignT ?_)
        repeat walk_at "me"
        refine len_listD (sl16 (by simp; omega)) ?_
        rw [hAlen]
        repeat walk_at "me"
        refine c_next a (wide := (ableP (endOf t vs)).length) k4 hApos hc (by omega) (by omega) ?_
        obtain ⟨q, hq⟩ : ∃ q, (ableP (endOf t vs))[drawn cells (sp + 1) (ableP (endOf t vs)).length]? = some q := ⟨_, List.getElem?_eq_getElem hAd⟩
        have hqo := able_ok (List.mem_of_getElem? hq)
        refine gi_list (i := drawn cells (sp + 1) (ableP (endOf t vs)).length) (d := encA q) (by rw [List.getElem?_map, hq]; rfl) (by omega) ?_
        refine As_Tuple (As_Name (.inl rfl) (As_Name (.inl rfl) ?_))
        refine r_append rfl (by decide) rfl rfl rfl rfl (l := ra) (ds0 := row.map encS) (by rw [Led.set_ne _ _ hfr.symm]; exact k5) ?_
        repeat walk_at "me"
        refine ⟨encS q.1, row.map encS, rfl, (by rw [Led.set_ne _ _ hfr.symm]; exact k5), hrl, ?_⟩
        refine r_append rfl (by decide) rfl rfl rfl rfl (l := ta) (ds0 := (t :: vs).map Tm.enc) (by rw [Led.set_ne _ _ hft, Led.set_ne _ _ hfa.symm]; exact k6) ?_
        repeat walk_at "me"
        refine ⟨q.2.enc, (t :: vs).map Tm.enc, rfl, (by rw [Led.set_ne _ _ hft, Led.set_ne _ _ hfa.symm]; exact k6), sl16 (by simp; omega), ?_⟩
        walk_at "ms"
        walk_at "ms"
        refine ⟨⟨rfl, rfl, rfl, trivial⟩, row ++ [q.1], vs ++ [q.2], (sp + 1) + 1, W.snoc hqo.step (hqo.ground hE.1) (by have := hqo.sz; omega) (by have := hqo.csz; omega), by simp; omega, by omega, ?_, ?_, ?_, fun b h1 h2 h3 => ?_⟩
        · rw [Led.set_ne _ _ hfa, Led.set_ne _ _ hfr, Led.set_self]
        · rw [Led.set_ne _ _ hft.symm, Led.set_self]; simp
        · rw [Led.set_self]; simp
        · rw [Led.set_ne _ _ h3, Led.set_ne _ _ h2, Led.set_ne _ _ h1]; exact k7 b h1 h2 h3
  · rintro m1 σ1 hm ⟨row, vs, sp, W, h2, h3, h4, h5, h6, h7⟩
    have hl7 : row.length ≤ 7 := by simpa using h2
    have hvl := W.run.len
    refine Ex_sub _ hm ?_
    refine Ex_freeze (a := ra) (ds := row.map encS) h5 ?_
    refine Ex_freeze (a := ta) (ds := (t :: vs).map Tm.enc) (by simp [Led.del, hft]; exact h6) ?_
    have e4 : frz ta (.d (.list ((t :: vs).map Tm.enc))) (frz ra (.d (.list (row.map encS))) [(Str.ofString "row", .c (.ref ra)), (Str.ofString "terms", .c (.ref ta)), (Str.ofString "feed", .c (.ref f))]) = [(Str.ofString "row", .d (.list (row.map encS))), (Str.ofString "terms", .d (.list ((t :: vs).map Tm.enc))), (Str.ofString "feed", .c (.ref f))] := by
      simp [frz, hft, hfr, hfa]
    rw [e4]
    have e5 : (σ1.del ra).del ta = σ.set f (feedV cells sp) := by
      funext b
      by_cases q1 : b = ta
      · subst q1; simp [Led.del, Led.set, hfa.symm, hta']
      · by_cases q2 : b = ra
        · subst q2; simp [Led.del, Led.set, hft.symm, hfr.symm, hra]
        · by_cases q3 : b = f
          · subst q3; simp [Led.del, Led.set, q1, q2, h4]
          · simp [Led.del, Led.set, q1, q2, q3, h7 b q3 q2 q1]
    rw [e5]
    walk_at "ms"
    repeat walk_at "me"
    exact ⟨[_, _], rfl, sl16 (by simp), h row vs sp W hl7 (by simp at h3; omega)⟩
  · exact ⟨rfl, rfl, rfl, trivial⟩
  · exact Led.set_self ..
  · rw [Led.set_ne _ _ hfr.symm, Led.set_ne _ _ hft.symm, Led.set_self]; rfl
  · rw [Led.set_ne _ _ hfa.symm, Led.set_self]; rfl
  · rw [Led.set_ne _ _ h1, Led.set_ne _ _ h3, Led.set_ne _ _ h2]
end
end Mine
set_option maxRecDepth 100000
set_option maxHeartbeats 8000000
namespace Mine
open PySem PySem.W PyProof.Rows

section
variable {X : Cx} {P P' : Heap} {F : Addr → Option Obj} {σ σ' : Led} {s s' : Shared} {h' : Heap} {env : Env} {m mc : List (Str × V)} {n : Nat} {Q : V → Led → Prop}

/-! ## the classes -/
theorem k_plain (a : At X) {C : Addr} (e : plainGet (hd.heap_39 X.w.params) C (Str.ofString "") = true) (x : Str) : plainGet X.K C x = true := by rw [a.K]; exact e
theorem k_find (a : At X) {C : Addr} {x : Str} {r : Option Value} (e : findIn (hd.heap_39 X.w.params) (.ref C) x = some r) : findIn X.K (.ref C) x = some r := by rw [a.K]; exact e
theorem k_dict (a : At X) {C : Addr} (e : hasDictIn (hd.heap_39 X.w.params) C = true) : hasDictIn X.K C = true := by rw [a.K]; exact e
theorem k_type (a : At X) {f : Addr} {t : Value} (e : typeIn (hd.heap_39 X.w.params) (.ref f) = some t) : typeIn X.K (.ref f) = some t := by rw [a.K]; exact e

def pL : Tm := .g (.leaf .x) (.leaf .y)
def pR : Tm := .g (.leaf .y) (.leaf .x)
def ruleV : V := .inst 318 [(Str.ofString "name", .d (.str (Str.ofString "r"))), (Str.ofString "left", .d pL.enc), (Str.ofString "right", .d pR.enc), (Str.ofString "needs", .d (.tuple []))]
def rulesV : List (Str × V) := [(Str.ofString "r", ruleV)]
def judgeV : V := .inst 222 [(Str.ofString "rules", .dct rulesV), (Str.ofString "told", .dct toldV)]
def stepsV : V := .inst 292 [(Str.ofString "judge", judgeV)]

theorem at_rules (a : At X) (h : Q (.dct rulesV) σ) : Op1 X n (fun c => getAttr c (Str.ofString "rules") true) judgeV σ Q :=
  inst_attr (k_plain a (by kernel_rfl) _) (k_dict a (by kernel_rfl)) (k_find a (r := none) (by kernel_rfl)) rfl rfl hand_dct h
theorem at_told (a : At X) (h : Q (.dct toldV) σ) : Op1 X n (fun c => getAttr c (Str.ofString "told") true) judgeV σ Q :=
  inst_attr (k_plain a (by kernel_rfl) _) (k_dict a (by kernel_rfl)) (k_find a (r := none) (by kernel_rfl)) rfl rfl hand_dct h
theorem at_judge (a : At X) (h : Q judgeV σ) : Op1 X n (fun c => getAttr c (Str.ofString "judge") true) stepsV σ Q :=
  inst_attr (k_plain a (by kernel_rfl) _) (k_dict a (by kernel_rfl)) (k_find a (r := none) (by kernel_rfl)) rfl rfl hand_inst h
theorem at_left (a : At X) (h : Q (.d pL.enc) σ) : Op1 X n (fun c => getAttr c (Str.ofString "left") true) ruleV σ Q :=
  inst_attr (k_plain a (by kernel_rfl) _) (k_dict a (by kernel_rfl)) (k_find a (r := none) (by kernel_rfl)) rfl rfl (fun w P c => hand_tup w P c) h
theorem at_right (a : At X) (h : Q (.d pR.enc) σ) : Op1 X n (fun c => getAttr c (Str.ofString "right") true) ruleV σ Q :=
  inst_attr (k_plain a (by kernel_rfl) _) (k_dict a (by kernel_rfl)) (k_find a (r := none) (by kernel_rfl)) rfl rfl (fun w P c => hand_tup w P c) h
theorem mt_told (a : At X) : Mt X n judgeV (Str.ofString "told_sides") (.ref 197) σ :=
  inst_meth (k_plain a (by kernel_rfl) _) (k_find a (by kernel_rfl)) (k_type a (by kernel_rfl)) rfl
theorem mt_rule (a : At X) : Mt X n judgeV (Str.ofString "rule_sides") (.ref 202) σ :=
  inst_meth (k_plain a (by kernel_rfl) _) (k_find a (by kernel_rfl)) (k_type a (by kernel_rfl)) rfl
theorem mt_sides (a : At X) : Mt X n stepsV (Str.ofString "sides") (.ref 268) σ :=
  inst_meth (k_plain a (by kernel_rfl) _) (k_find a (by kernel_rfl)) (k_type a (by kernel_rfl)) rfl
theorem mt_stepped (a : At X) : Mt X n stepsV (Str.ofString "stepped") (.ref 275) σ :=
  inst_meth (k_plain a (by kernel_rfl) _) (k_find a (by kernel_rfl)) (k_type a (by kernel_rfl)) rfl
theorem mt_walk (a : At X) : Mt X n stepsV (Str.ofString "walk") (.ref 282) σ :=
  inst_meth (k_plain a (by kernel_rfl) _) (k_find a (by kernel_rfl)) (k_type a (by kernel_rfl)) rfl

/-! ## told_sides -/
theorem told_some (l : Bool) : (toldV.lookup (labelName l)).isSome = true := by rw [told_lookup]; rfl
theorem c_toldsides (a : At X) {l : Bool} {k : Nat} (hn : 1 ≤ n) (h : Q (.d (.tuple [(toldA l).enc, (toldB l).enc])) σ) : Cl X n (.ref 197) [judgeV, .d (.str (labelName l)), .d (.int (k : Int))] σ Q := by
  refine Cl_def (ps := [Str.ofString "self", Str.ofString "label", Str.ofString "place"]) (by walk_at "mdef3") rfl hn fun L => ?_
  walk_at "ms"
  repeat walk_at "me"
  refine Ev_Attr ?_
  repeat walk_at "me"
  refine at_told a (op_notInD ⟨_, rfl, ?_⟩)
  rw [told_some, Bool.not_true, if_neg (by decide)]
  walk_at "ms"
  walk_at "ms"
  repeat walk_at "me"
  refine Ev_Attr ?_
  repeat walk_at "me"
  refine at_told a ?_
  repeat walk_at "me"
  exact gi_dct (told_lookup l) h
end
end Mine
set_option maxRecDepth 100000
set_option maxHeartbeats 4000000
namespace Mine
open PySem PySem.W PyProof.Rows

theorem lk_tuple_keys : typeLookup (.type "tuple") (Str.ofString "keys") = pure none := by rw [typeLookup_type, builtinLookup_eq_fast]; kernel_rfl
theorem lk_tuple_getattr : typeLookup (.type "tuple") "__getattr__" = pure none := by rw [typeLookup_type, builtinLookup_eq_fast]; kernel_rfl

theorem meets_tuple_keys (a : Addr) (vs : Array Value) (n : Nat) (sl : Array (Option Value)) (u : Tok) :
    Meets (Builtin.«object.__getattribute__» ⟨[.ref a, .str (Str.ofString "keys") u], []⟩) (fun A R s => s.heap.get? a = some ⟨.type "tuple", none, .seq vs n, sl⟩ ∧ raisesAttr (.ref a) (Str.ofString "keys") A R s) :=
  Meets.of_wp fun prog w A R s hs => by
    obtain ⟨hp, g, d, tk, os⟩ := s
    obtain ⟨hx, hs⟩ := hs
    have hT : (⟨hp, g, d, tk, os⟩ : Shared).TypeIs (.ref a) "tuple" := ⟨_, hx, rfl⟩
    have f4 := lk_tuple_keys
    unfold Builtin.«object.__getattribute__»
    repeat (any_goals (first | assumption | wp_step))
    exact wpAny_raiseAttrError hs.1 hs.2 (attrMsg_fits (by decide +kernel) (by decide +kernel))

section
variable {prog : Program} {w : World} {A : Around} {E : Value → Shared → Prop} {s : Shared} {a : Addr}
theorem keys_tuple {vs : Array Value} {n : Nat} {sl : Array (Option Value)} {Q : Option Value → Shared → Prop} (hA : A.handled = none) (hx : s.heap.get? a = some ⟨.type "tuple", none, .seq vs n, sl⟩)
    (h : ∀ h' tk, (∀ b o, s.heap.get? b = some o → h'.get? b = some o) → Q none { s with heap := h', toks := tk }) : wpAny (model prog w) A (getAttr? (.ref a) "keys") Q E s := by
  obtain ⟨hp, g, d, tk, os⟩ := s
  have hT : ∀ tk, (⟨hp, g, d, tk, os⟩ : Shared).TypeIs (.ref a) "tuple" := fun _ => ⟨_, hx, rfl⟩
  have f1 := sub_AttributeError
  have f3 := PySem.F.slot_tuple_getattribute.lookup
  have f4 := PySem.F.slot_tuple_getattribute.bind (.ref a)
  have f5 := lk_tuple_getattr
  unfold getAttr? getAttrBy? getAttrBy
  repeat (any_goals (first | assumption | ((with_reducible show wpAny _ _ (call (Value.builtin "tuple.__getattribute__") _ _) _ _ _); refine call_meets PySem.F.slot_tuple_getattribute (hT _) PySem.F.entry_tuple_ga (PySem.F.args_tuple_getattribute_2 _ _) (meets_tuple_keys a vs n sl _) ⟨hx, hA, fun h' tk' e hx => ?_⟩) | exact hT _ | wp_step))
  obtain ⟨t', u', he⟩ := hx.there
  show wpAny _ _ (getattributeRaised _ _ _ _ _ _ _) _ _ _
  unfold getattributeRaised
  repeat (any_goals (first | assumption | wp_step))
  exact h _ _ hx.keeps
end
end Mine
set_option maxRecDepth 100000
set_option maxHeartbeats 4000000
namespace Mine
open PySem PySem.W PyProof.Rows

theorem entry_upd_loop : entryFor table "dict.update.loop" = some Builtin.«dict.update.loop» := entryFor_of_tree (by kernel_rfl)
theorem plain_upd_loop : plainId "dict.update.loop" = true := by decide +kernel

section
variable {prog : Program} {w : World} {A : Around} {E : Value → Shared → Prop} {s : Shared} {R : Result → Shared → Prop}

theorem upd_item {d it t p : Addr} {i : Nat} {j : Int} {items : Array Value} {k : Str} {tk : Tok} {v : Value} {dp : Option Addr} {np : Nat} {sp : Array (Option Value)} {acc : List (Str × Value)} (hdi : d ≠ it)
    (hit : s.heap.IsTupleIter it t i) (ht : s.heap.IsTuple t items) (hx : items[i]? = some (.ref p)) (hp : s.heap.get? p = some ⟨.type "tuple", dp, .seq #[.str k tk, v] np, sp⟩) (hpi : p ≠ it)
    (hd : s.heap.DictOf (PySem.strKind prog w) d acc) (hsz : acc.length ≤ sizeLine)
    (h : ∀ h' tk', h'.IsTupleIter it t (i + 1) → h'.DictOf (PySem.strKind prog w) d (stored acc k v) → (∀ b o, b ≠ it → b ≠ d → s.heap.get? b = some o → h'.get? b = some o) →
      codeAny (model prog w) A (.builtin "dict.update.loop" ⟨[.ref d, .ref it, rawInt (j + 1), .none], []⟩) R { s with heap := h', toks := tk' }) :
    codeAny (model prog w) A (.builtin "dict.update.loop" ⟨[.ref d, .ref it, rawInt j, .none], []⟩) R s := by
  refine codeAny_builtin entry_upd_loop ?_
  rw [Around.under_plainId plain_upd_loop _]
  show wpAny _ A.in1 (pyNext (.ref it) >>= _) _ _ s
  refine wpAny_bind (wpAny_pyNext_tuple_item hit ht hx fun h1 hit1 hs1 => ?_)
  have hp1 : h1.get? p = some ⟨.type "tuple", dp, .seq #[.str k tk, v] np, sp⟩ := hs1.extBut p _ hpi hp
  have hd1 : h1.DictOf (PySem.strKind prog w) d acc := by
    obtain ⟨o, es, ep, ho, r⟩ := hd
    exact ⟨o, es, ep, hs1.extBut d _ hdi ho, r⟩
  have hTp : Shared.TypeIs { s with heap := h1 } (.ref p) "tuple" := ⟨_, hp1, rfl⟩
  dsimp only
  refine wpAny_bind (wpAny_holding (wpAny_bind (wpAny_tryCatch ?_)))
  unfold Builtin.Dict.pairItems
  refine wpAny_bind (wpAny_typeOf hTp ?_)
  rw [if_pos (by decide)]
  refine wpAny_bind (wpAny_seqItems hp1 rfl (wpAny_pure ?_))
  show wpAny _ _ (holding [.str k tk, v] (dictSet d (.str k tk) v)) _ _ _
  refine wpAny_holding (wpAny_dictSet_pairs (hsz := hsz) (strKind_is prog w k tk) hd1 fun h2 hd2 hs2 => ?_)
  refine wpAny_pure ⟨plainId_quiet plain_upd_loop _, ?_⟩
  have hit2 : h2.IsTupleIter it t (i + 1) := IsTupleIter_at hit1 fun o e => hs2.extBut it o hdi.symm e
  exact h h2 _ hit2 hd2 fun b o h1 h2 e => hs2.extBut b o h2 (hs1.extBut b o h1 e)
theorem upd_end {d it t : Addr} {i : Nat} {j : Int} {items : Array Value} (hh : A.handled = none) (hit : s.heap.IsTupleIter it t i) (ht : s.heap.IsTuple t items) (hx : items[i]? = none)
    (h : ∀ h', (∀ b o, b ≠ it → s.heap.get? b = some o → h'.get? b = some o) → R (.ok (.ret .none)) { s with heap := h' }) :
    codeAny (model prog w) A (.builtin "dict.update.loop" ⟨[.ref d, .ref it, rawInt j, .none], []⟩) R s := by
  refine codeAny_builtin entry_upd_loop ?_
  rw [Around.under_plainId plain_upd_loop _]
  show wpAny _ A.in1 (pyNext (.ref it) >>= _) _ _ s
  refine wpAny_bind (wpAny_pyNext_tuple_end hh hit ht hx fun h' hx' => ?_)
  dsimp only
  refine wpAny_bind (wpAny_pure ?_)
  exact wpAny_pure (h h' fun b o hb e => hx' b o hb e)

theorem call_dict_two {t p1 p2 : Addr} {n n1 n2 : Nat} {sl sl1 sl2 : Array (Option Value)} {d1 d2 : Option Addr} {k1 k2 : Str} {t1 t2 : Tok} {v1 v2 : Value} {Q : Value → Shared → Prop} (hh : A.handled = none)
    (ht : s.heap.get? t = some ⟨.type "tuple", none, .seq #[.ref p1, .ref p2] n, sl⟩) (hp1 : s.heap.get? p1 = some ⟨.type "tuple", d1, .seq #[.str k1 t1, v1] n1, sl1⟩) (hp2 : s.heap.get? p2 = some ⟨.type "tuple", d2, .seq #[.str k2 t2, v2] n2, sl2⟩) (hk : k1 ≠ k2)
    (h : ∀ h' tk, h'.DictOf (PySem.strKind prog w) s.heap.objs.size [(k1, v1), (k2, v2)] → (∀ b o, s.heap.get? b = some o → h'.get? b = some o) → Q (.ref s.heap.objs.size) { s with heap := h', toks := tk }) :
    wpAny (model prog w) A (call (.type "dict") [.ref t]) Q E s := by
  refine callType_codes (Q₁ := fun obj s₁ => obj = .ref s.heap.objs.size ∧ s₁ = { s with heap := s.heap.push { cls := .type "dict", data := .dict #[] } }) PySem.F.kt_called_dict (PySem.F.kt_typeCall_dict_1 _) PySem.F.entry_dict_init (kt_code_dict_new _ ⟨rfl, rfl⟩) ?_
  rintro obj s₁ ⟨rfl, rfl⟩
  have hnew : (s.heap.push { cls := .type "dict", data := .dict #[] }).DictOf (PySem.strKind prog w) s.heap.objs.size [] := Heap.DictOf.new s.heap
  have ht1 := Heap.get?_push_of_some { cls := .type "dict", data := .dict #[] } ht
  refine ⟨hnew.typeIs, PySem.F.args_dict_init_2 _ _, ?_⟩
  unfold Builtin.«dict.__init__»
  refine wpAny_bind ?_
  unfold Builtin.Dict.selfAndRest
  refine wpAny_bind (wpAny_notOrdered_dict hnew.typeIs ?_)
  show wpAny _ _ (pure (s.heap.objs.size, [Value.ref t])) _ _ _
  refine wpAny_pure ?_
  show wpAny _ _ (Builtin.Dict.updateFrom "dict.__init__" s.heap.objs.size (.ref t) [] .none) _ _ _
  unfold Builtin.Dict.updateFrom
  refine wpAny_bind (wpAny_typeOf (T := "tuple") ⟨_, ht1, rfl⟩ ?_)
  rw [if_pos (by decide)]
  refine wpAny_bind (keys_tuple (A := A.in1.in1) hh ht1 fun h2 tk2 hk2 => ?_)
  rw [if_pos (by rfl)]
  refine wpAny_bind (wpAny_rule (wpAny_bind (wpAny_pyIter_tuple (items := #[.ref p1, .ref p2]) ⟨_, hk2 _ _ ht1, rfl, _, rfl⟩ ?_)))
  refine wpAny_pure ⟨plainId_quiet plain_upd_loop _, ?_⟩
  have hDlt : s.heap.objs.size < h2.objs.size := Heap.lt_size (hk2 _ _ (Heap.get?_push_size _ rfl))
  have hIne : s.heap.objs.size ≠ h2.objs.size := Nat.ne_of_lt hDlt
  have old : ∀ b o, s.heap.get? b = some o → (h2.push { cls := .type "tuple_iterator", data := .fields #[.ref t, .int 0 0] }).get? b = some o := fun b o e =>
    Heap.get?_push_of_some _ (hk2 _ _ (Heap.get?_push_of_some _ e))
  have neI : ∀ b o, s.heap.get? b = some o → b ≠ h2.objs.size := fun b o e => Nat.ne_of_lt (Heap.lt_size (hk2 _ _ (Heap.get?_push_of_some _ e)))
  have neD : ∀ b o, s.heap.get? b = some o → b ≠ s.heap.objs.size := fun b o e => Nat.ne_of_lt (Heap.lt_size e)
  have hD3 : (h2.push { cls := .type "tuple_iterator", data := .fields #[.ref t, .int 0 0] }).DictOf (PySem.strKind prog w) s.heap.objs.size [] := by
    obtain ⟨o, es, ep, ho, r⟩ := hnew
    exact ⟨o, es, ep, Heap.get?_push_of_some _ (hk2 _ _ ho), r⟩
  have hit3 : (h2.push { cls := .type "tuple_iterator", data := .fields #[.ref t, .int 0 0] }).IsTupleIter h2.objs.size t 0 := ⟨_, Heap.get?_push_size _ rfl, rfl, rfl⟩
  have hT : ∀ {h : Heap}, h.get? t = some ⟨.type "tuple", none, .seq #[.ref p1, .ref p2] n, sl⟩ → h.IsTuple t #[.ref p1, .ref p2] := fun e => ⟨_, e, rfl, _, rfl⟩
  refine upd_item (i := 0) (items := #[.ref p1, .ref p2]) hIne hit3 (hT (old _ _ ht)) rfl (old _ _ hp1) (neI _ _ hp1) hD3 (Nat.zero_le _) fun h4 tk4 hit4 hd4 k4 => ?_
  have old4 : ∀ b o, s.heap.get? b = some o → h4.get? b = some o := fun b o e => k4 b o (neI _ _ e) (neD _ _ e) (old _ _ e)
  refine upd_item (i := 1) (items := #[.ref p1, .ref p2]) hIne hit4 (hT (old4 _ _ ht)) rfl (old4 _ _ hp2) (neI _ _ hp2) hd4 (by simp [stored, sizeLine_eq]) fun h5 tk5 hit5 hd5 k5 => ?_
  have old5 : ∀ b o, s.heap.get? b = some o → h5.get? b = some o := fun b o e => k5 b o (neI _ _ e) (neD _ _ e) (old4 _ _ e)
  refine upd_end (i := 2) (items := #[.ref p1, .ref p2]) hh hit5 (hT (old5 _ _ ht)) rfl fun h6 k6 => ?_
  have e1 : stored (stored ([] : List (Str × Value)) k1 v1) k2 v2 = [(k1, v1), (k2, v2)] := by simp [stored, hk]
  rw [e1] at hd5
  refine ⟨rfl, h h6 _ ?_ fun b o e => k6 b o (neI _ _ e) (old5 _ _ e)⟩
  obtain ⟨o, es, ep, ho, r⟩ := hd5
  exact ⟨o, es, ep, k6 _ _ hIne ho, r⟩
end
end Mine
set_option maxRecDepth 100000
set_option maxHeartbeats 4000000
namespace Mine
open PySem PySem.W PyProof.Rows

section
variable {X : Cx} {P P' : Heap} {F : Addr → Option Obj} {σ σ' : Led} {s s' : Shared} {h' : Heap} {env : Env} {m mc : List (Str × V)} {n : Nat} {Q : V → Led → Prop}

def plV (pl : List (Bool × Tm)) : List (Str × V) := pl.map fun q => (if q.1 then Lf.y.name else Lf.x.name, .d q.2.enc)

theorem vtup2 {w : World} {x y : PyData} {c : Value} (r : VRel w P (.d (.tuple [x, y])) c) : ∃ a k sl c1 c2, c = .ref a ∧ P.get? a = some ⟨.type "tuple", none, .seq #[c1, c2] k, sl⟩ ∧ VRel w P (.d x) c1 ∧ VRel w P (.d y) c2 := by
  cases r with | d r => cases r with | @tuple a o vs k xs as e1 e2 e3 e4 e5 =>
    obtain ⟨cls, dd, data, sl⟩ := o
    dsimp only at e2 e3 e5; subst e2 e3 e5
    obtain ⟨l⟩ := vs
    cases e4 with | @cons c1 l1 _ _ _ _ r1 e4 => cases e4 with | @cons c2 l2 _ _ _ _ r2 e4 => cases e4 with | nil =>
      exact ⟨a, k, sl, c1, c2, rfl, e1, .d r1, .d r2⟩

theorem cl_dictP {x y : Tm} (h : Q (.dct (plV [(false, x), (true, y)])) σ) : Cl X n (.type "dict") [.d (encPl [(false, x), (true, y)])] σ Q := cl_one fun A ok P F s c R r => by
  obtain ⟨t, k, sl, c1, c2, rfl, hg, r1, r2⟩ := vtup2 (x := .tuple [.str Lf.x.name, x.enc]) (y := .tuple [.str Lf.y.name, y.enc]) r
  obtain ⟨p1, k1, sl1, a1, b1, rfl, hg1, q1, q1'⟩ := vtup2 r1
  obtain ⟨p2, k2, sl2, a2, b2, rfl, hg2, q2, q2'⟩ := vtup2 r2
  obtain ⟨t1, rfl⟩ := vstr q1
  obtain ⟨t2, rfl⟩ := vstr q2
  refine call_dict_two ok.handled (R.stays _ _ hg) (R.stays _ _ hg1) (R.stays _ _ hg2) (by decide) fun h' tk hd hk => ?_
  obtain ⟨p3, R3⟩ := R.grow (h' := h') (tk := tk) hk
  obtain ⟨es, kk, hg', he⟩ := dictOf_ent (P := nextP P s.heap h' fun _ => False) (kvs := plV [(false, x), (true, y)]) hd (.cons ⟨rfl, q1'.keeps p3⟩ (.cons ⟨rfl, q2'.keeps p3⟩ .nil))
  exact ⟨_, _, σ, p3, .dct R.above (nextP_get_new (size_none _ (Nat.le_refl _)) (fun x => x) hg') he, R3, h⟩
end
end Mine
set_option maxRecDepth 100000
set_option maxHeartbeats 4000000
namespace Mine
open PySem PySem.W PyProof.Rows

/-! ## a set's table once a text is in it: it is plain no more -/
theorem relaid_plain {t t' : SetTable} {hs : Array Int} {n : Nat} {order : Array Nat} (h : t.relaid hs n = some (t', order)) : t'.plain = t.plain := by
  unfold SetTable.relaid SetTable.laid at h
  cases e : SetTable.layClean (SetTable.sizeAbove n - 1) hs with
  | none => rw [e] at h; cases h
  | some owner => rw [e] at h; cases h; rfl
theorem relayAll_plain {t : SetTable} {es : Array (Int × Value)} {n : Nat} (h : t.plain = false) : (relayAll t es n).2.1.plain = false := by
  unfold relayAll
  split
  · rename_i t' order e
    dsimp only
    split
    · rw [relaid_plain e]; exact h
    · rfl
  · rfl

/-- an exact set that stands, texts in it -/
def SetAt (h : Heap) (a : Addr) (es : Array (Int × Value)) (ep : Nat) (t : SetTable) : Prop := h.get? a = some { cls := .type "set", data := .set es ep t } ∧ t.fits es.size = true

section
variable {prog : Program} {w : World} {A : Around} {E : Value → Shared → Prop} {s : Shared} {a : Addr} {es : Array (Int × Value)} {ep : Nat} {t : SetTable}

theorem SetAt.store {h : Heap} (x : SetAt h a es ep t) (es' : Array (Int × Value)) (t' : SetTable) (hf : t'.fits es'.size = true) : SetAt (h.update a (Obj.putSet es' t')) a es' (ep + 1) t' :=
  ⟨Heap.get?_update_self (Obj.putSet es' t') x.1 rfl, hf⟩

theorem setAdd_text {x : Str} {tk : Tok} {Q : Bool → Shared → Prop} (hs : SetAt s.heap a es ep t) (hel : ElemsOf (PySem.strKind prog w) es.toList) (hno : ∀ e ∈ es.toList, (PySem.strKind prog w).is x e.2 = false)
    (hb : es.size + 1 < scanBound)
    (h : ∀ h' es' ep' t', Heap.SameBut a s.heap h' → SetAt h' a es' ep' t' → t'.plain = false → es'.toList.Perm (es.toList ++ [((PySem.strKind prog w).hash x, .str x tk)]) → Q true { s with heap := h' }) :
    wpAny (model prog w) A (setAddHashed a (.str x tk) ((PySem.strKind prog w).hash x)) Q E s := by
  have hkey : (PySem.strKind prog w).is x (.str x tk) = true := strKind_is prog w x tk
  have hb0 : es.size < scanBound := Nat.lt_of_succ_lt hb
  unfold setAddHashed setAddHashedIn
  refine wpAny_holding (wpAny_bind (wpAny_setState_of hs.1 rfl hs.2 ?_))
  dsimp only
  rw [byScan_of rfl hb0 hel]
  simp only [↓reduceIte]
  unfold setAddByScan
  refine wpAny_bind (wpAny_bind (wpAny_rule (wpAny_bind (wpAny_setScan_of hkey hs.1 rfl hs.2 hel ?_))))
  have hfind : List.findIdx? (fun e => (PySem.strKind prog w).is x e.2) es.toList = none := List.findIdx?_eq_none_iff.mpr hno
  rw [hfind]
  dsimp only
  have gave : ∀ (b : Bool) {s₁ : Shared} {Q' : Unit → Shared → Prop}, Q' () s₁ → wpAny (model prog w) A (match b with | true => rule "set.scan.the-table-gave-way" | false => pure ()) Q' E s₁ :=
    fun b s₁ Q' hq => by cases b <;> first | exact wpAny_pure hq | exact wpAny_rule hq
  have hperm := layNew_perm t es ((PySem.strKind prog w).hash x) (.str x tk)
  have hfits := layNew_fits t es ((PySem.strKind prog w).hash x) (.str x tk)
  generalize hL : layNew t es ((PySem.strKind prog w).hash x) (.str x tk) = L at hperm hfits ⊢
  obtain ⟨es1, t1, dummy, g1⟩ := L
  dsimp only at hperm hfits ⊢
  rw [Array.toList_push] at hperm
  have hsz : es1.size = es.size + 1 := by rw [← Array.length_toList, hperm.length_eq, List.length_append, Array.length_toList]; rfl
  refine wpAny_bind (gave _ ?_)
  -- the table is plain no more, whichever it was
  have tail : ∀ t2 : SetTable, t2.fits es1.size = true → t2.plain = false → ∀ {R : Option Bool → Shared → Prop}, (∀ b s', b = true → Q b s' → R (some b) s') →
      wpAny (model prog w) A (do
        storeSet a es1 t2
        if (!dummy && t2.tooFull) = true then do
            (match (relayAll t2 es1 (SetTable.grown es1.size)).2.2 with | true => rule "set.scan.the-table-gave-way" | false => pure ())
            storeSet a (relayAll t2 es1 (SetTable.grown es1.size)).1 (relayAll t2 es1 (SetTable.grown es1.size)).2.1
            pure (some true)
          else pure (some true)) R E s := by
    intro t2 hf2 hp2 R hR
    refine wpAny_bind (wpAny_storeSet_of hs.1 rfl ?_ (fits_of_scanBound (by rw [hsz]; exact hb)))
    have h1 := hs.store es1 t2 hf2
    split
    · have hp3 := relayAll_perm t2 es1 (SetTable.grown es1.size)
      have hf3 := relayAll_fits t2 es1 (SetTable.grown es1.size)
      have hq3 := relayAll_plain (es := es1) (n := SetTable.grown es1.size) hp2
      generalize relayAll t2 es1 (SetTable.grown es1.size) = Rl at hp3 hf3 hq3 ⊢
      obtain ⟨es2, t3, g2⟩ := Rl
      dsimp only at hp3 hf3 hq3 ⊢
      have hs2 : es2.size = es1.size := by rw [← Array.length_toList, hp3.length_eq, Array.length_toList]
      refine wpAny_bind (gave _ (wpAny_bind (wpAny_storeSet_of h1.1 rfl ?_ (fits_of_scanBound (by rw [hs2, hsz]; exact hb)))))
      exact wpAny_pure (hR _ _ rfl (h _ es2 _ t3 ((Heap.SameBut.update ..).trans (Heap.SameBut.update ..)) (h1.store es2 t3 hf3) hq3 (hp3.trans hperm)))
    · exact wpAny_pure (hR _ _ rfl (h _ es1 _ t2 (Heap.SameBut.update ..) h1 hp2 hperm))
  split
  · refine wpAny_bind ?_
    rw [hashByValue_scannable 8 rfl]
    refine wpAny_pure ?_
    refine tail _ (SetTable.fits_plain_off hfits) rfl fun b s' e hq => ?_
    subst e
    exact wpAny_pure hq
  · rename_i hpl
    refine wpAny_bind (wpAny_pure ?_)
    refine tail _ hfits (by simpa using hpl) fun b s' e hq => ?_
    subst e
    exact wpAny_pure hq
end
end Mine
set_option maxRecDepth 100000
set_option maxHeartbeats 4000000
namespace Mine
open PySem PySem.W PyProof.Rows

/-- a set of just these texts, in an order of its own -/
def SetS (o : Obj) (ss : List Str) : Prop := ∃ es ep t, o = { cls := .type "set", data := .set es ep t } ∧ t.fits es.size = true ∧ t.plain = false ∧ ∃ es' : List (Int × Str × Tok), es.toList = es'.map (fun e => (e.1, .str e.2.1 e.2.2)) ∧ (es'.map fun e => e.2.1).Perm ss

section
variable {prog : Program} {w : World} {A : Around} {E : Value → Shared → Prop} {s : Shared} {R : Result → Shared → Prop}

theorem supd_item {S I l : Addr} {i : Nat} {items : Array Value} {k : Str} {tk : Tok} {es : Array (Int × Value)} {ep : Nat} {t : SetTable} (hSI : S ≠ I) (hit : s.heap.IsListIter I l i) (hl : s.heap.IsList l items) (hx : items[i]? = some (.str k tk))
    (hs : SetAt s.heap S es ep t) (hel : ElemsOf (PySem.strKind prog w) es.toList) (hno : ∀ e ∈ es.toList, (PySem.strKind prog w).is k e.2 = false) (hb : es.size + 1 < scanBound)
    (h : ∀ h' tk' es' ep' t', h'.IsListIter I l (i + 1) → SetAt h' S es' ep' t' → t'.plain = false → es'.toList.Perm (es.toList ++ [((PySem.strKind prog w).hash k, .str k tk)]) → (∀ b o, b ≠ I → b ≠ S → s.heap.get? b = some o → h'.get? b = some o) →
      codeAny (model prog w) A (.builtin "set.update.loop" ⟨[.ref S, .ref I], []⟩) R { s with heap := h', toks := tk' }) :
    codeAny (model prog w) A (.builtin "set.update.loop" ⟨[.ref S, .ref I], []⟩) R s := by
  refine codeAny_builtin PyProof.Rows.F.entry_set_update_loop ?_
  rw [Around.under_plainId PyProof.Rows.F.plain_set_update_loop _]
  show wpAny _ A.in1 (pyNext (.ref I) >>= _) _ _ s
  refine wpAny_bind (wpAny_pyNext_list_item hit hl hx fun h1 hit1 hs1 => ?_)
  show wpAny _ A.in1 (holding [Value.str k tk] (setAdd S (.str k tk)) >>= _) _ _ _
  refine wpAny_bind (wpAny_holding ?_)
  unfold setAdd
  refine wpAny_holding (wpAny_bind ((PySem.strKind prog w).pyHash (k := k) (strKind_is prog w k tk) ?_))
  have hs' : SetAt h1 S es ep t := ⟨hs1.extBut S _ hSI hs.1, hs.2⟩
  refine setAdd_text (s := { s with heap := h1, toks := s.toks + 1 }) hs' hel hno hb fun h2 es' ep' t' hs2 x2 pl pm => ?_
  exact wpAny_pure ⟨plainId_quiet PyProof.Rows.F.plain_set_update_loop _, h h2 _ es' ep' t' (let ⟨o, q1, q2⟩ := hit1; ⟨o, hs2.extBut I o hSI.symm q1, q2⟩) x2 pl pm fun b o q1 q2 e => hs2.extBut b o q2 (hs1.extBut b o q1 e)⟩
theorem supd_end {S I l : Addr} {i : Nat} {items : Array Value} (hh : A.handled = none) (hit : s.heap.IsListIter I l i) (hl : s.heap.IsList l items) (hx : items[i]? = none)
    (h : ∀ h', (∀ b o, b ≠ I → s.heap.get? b = some o → h'.get? b = some o) → R (.ok (.ret .none)) { s with heap := h' }) :
    codeAny (model prog w) A (.builtin "set.update.loop" ⟨[.ref S, .ref I], []⟩) R s := by
  refine codeAny_builtin PyProof.Rows.F.entry_set_update_loop ?_
  rw [Around.under_plainId PyProof.Rows.F.plain_set_update_loop _]
  show wpAny _ A.in1 (pyNext (.ref I) >>= _) _ _ s
  refine wpAny_bind (wpAny_pyNext_list_end hh hit hl hx fun h' hx' => ?_)
  show wpAny _ _ (ret Value.none) _ _ _
  exact wpAny_pure (h h' fun b o hb e => hx' b o hb e)

/-- the whole loop over two texts -/
theorem supd_two {S I l : Addr} {k1 k2 : Str} {t1 t2 : Tok} {led : Bool} (hh : A.handled = none) (hk : k1 ≠ k2) (hSI : S ≠ I) (hlI : l ≠ I) (hlS : l ≠ S) (hit : s.heap.IsListIter I l 0) (hl : s.heap.IsList l #[.str k1 t1, .str k2 t2])
    (hs : s.heap.get? S = some { cls := .type "set", data := .set #[] 0 (.fresh 0 0 led) })
    (h : ∀ h' tk o, SetS o [k1, k2] → h'.get? S = some o → (∀ b o, b ≠ I → b ≠ S → s.heap.get? b = some o → h'.get? b = some o) → R (.ok (.ret .none)) { s with heap := h', toks := tk }) :
    codeAny (model prog w) A (.builtin "set.update.loop" ⟨[.ref S, .ref I], []⟩) R s := by
  have keepL : ∀ {h h' : Heap} {its : Array Value}, h.IsList l its → (∀ b o, b ≠ I → b ≠ S → h.get? b = some o → h'.get? b = some o) → h'.IsList l its := fun ⟨o, a1, a2⟩ k => ⟨o, k l o hlI hlS a1, a2⟩
  refine supd_item (i := 0) hSI hit hl rfl (es := #[]) ⟨hs, rfl⟩ (fun e he => by simp at he) (fun e he => by simp at he) (by decide) fun h1 tk1 es1 ep1 u1 it1 s1 pl1 pm1 k1' => ?_
  have hm1 : ∀ e ∈ es1.toList, e = ((PySem.strKind prog w).hash k1, .str k1 t1) := fun e he => by simpa using pm1.mem_iff.mp he
  have hsz1 : es1.size = 1 := by rw [← Array.length_toList, pm1.length_eq]; rfl
  refine supd_item (i := 1) hSI it1 (keepL hl k1') rfl s1 (fun e he => ?_) (fun e he => ?_) (by rw [hsz1]; decide) fun h2 tk2 es2 ep2 u2 it2 s2 pl2 pm2 k2' => ?_
  · rw [hm1 e he]; exact ⟨⟨k1, strKind_is prog w k1 t1, rfl⟩, rfl⟩
  · rw [hm1 e he]
    cases q : (PySem.strKind prog w).is k2 (.str k1 t1) with
    | false => rfl
    | true => exact absurd ((PySem.strKind prog w).inj _ _ _ (strKind_is prog w k1 t1) q) hk
  refine supd_end (i := 2) hh it2 (keepL (keepL hl k1') k2') rfl fun h3 k3 => ?_
  have pm : es2.toList.Perm [((PySem.strKind prog w).hash k1, .str k1 t1), ((PySem.strKind prog w).hash k2, .str k2 t2)] := pm2.trans (List.Perm.append_right _ pm1)
  refine h h3 _ _ ⟨es2, ep2, u2, rfl, s2.2, pl2, ?_⟩ (k3 _ _ hSI s2.1) fun b o q1 q2 e => k3 b o q1 (k2' b o q1 q2 (k1' b o q1 q2 e))
  have two : es2.toList = [((PySem.strKind prog w).hash k1, .str k1 t1), ((PySem.strKind prog w).hash k2, .str k2 t2)] ∨ es2.toList = [((PySem.strKind prog w).hash k2, .str k2 t2), ((PySem.strKind prog w).hash k1, .str k1 t1)] := by
    generalize es2.toList = L at pm
    match L, pm with
    | [], pm => have := pm.length_eq; simp at this
    | [_], pm => have := pm.length_eq; simp at this
    | _ :: _ :: _ :: _, pm => have := pm.length_eq; simp at this
    | [x, y], pm =>
      have hx := pm.subset (show x ∈ [x, y] by simp)
      rcases List.mem_cons.mp hx with rfl | hx
      · have := List.perm_singleton.mp ((List.perm_cons _).mp pm); rw [this]; exact .inl rfl
      · rw [List.mem_singleton.mp hx] at pm ⊢
        have := List.perm_singleton.mp ((List.perm_cons _).mp (pm.trans (List.Perm.swap _ _ _))); rw [this]; exact .inr rfl
  rcases two with e | e <;> rw [e]
  · exact ⟨[(_, k1, t1), (_, k2, t2)], rfl, .refl _⟩
  · exact ⟨[(_, k2, t2), (_, k1, t1)], rfl, .swap _ _ _⟩

/-- set(list of two texts) -/
theorem call_set_two {l : Addr} {n : Nat} {dc : Option Addr} {sl : Array (Option Value)} {k1 k2 : Str} {t1 t2 : Tok} {Q : Value → Shared → Prop} (hh : A.handled = none) (hk : k1 ≠ k2) (hl : s.heap.get? l = some ⟨.type "list", dc, .seq #[.str k1 t1, .str k2 t2] n, sl⟩)
    (h : ∀ h' tk o, SetS o [k1, k2] → h'.get? s.heap.objs.size = some o → (∀ b o, s.heap.get? b = some o → h'.get? b = some o) → Q (.ref s.heap.objs.size) { s with heap := h', toks := tk }) :
    wpAny (model prog w) A (call (.type "set") [.ref l]) Q E s := by
  obtain ⟨c, tl, hmro⟩ := PySem.F.called_set.mro
  have hmade := PySem.F.called_set.made
  have hsub := PySem.F.called_set.sub
  refine wpAny_call (codeAny_of_tree ?_)
  show wpAny _ _ (callAny (.type "set") _) _ _ _
  refine wpAny_pure ⟨Code.quiet_builtin _ (by decide +kernel), codeAny_builtin PySem.F.entry_type_call ?_⟩
  rw [Around.under_plain (weight_type_call_type "set" [.ref l] []) rfl]
  have h1 := PySem.F.called_set.notType
  have h2 := PySem.F.called_set.canCreate
  have hct := PySem.F.typeCall_set_1 (.ref l)
  repeat (any_goals (first | assumption | wp_step))
  refine codeAny_mono (code_set_new_1 (.ref l) (E := E) (Q₁ := fun obj s₁ => ∃ led : Bool, obj = .ref s.heap.objs.size ∧ s₁ = { s with heap := s.heap.push { cls := .type "set", dict := none, data := .set #[] 0 (.fresh 0 0 led) } }) fun led => ⟨led, rfl, rfl⟩) fun r s₁ hr => ?_
  rcases r with e | (obj | _ | _ | _) <;> try exact hr.elim
  · exact hr
  obtain ⟨led, rfl, rfl⟩ := hr
  have hS : (s.heap.push { cls := .type "set", dict := none, data := .set #[] 0 (.fresh 0 0 led) }).get? s.heap.objs.size = some { cls := .type "set", dict := none, data := .set #[] 0 (.fresh 0 0 led) } := Heap.get?_push_size _ rfl
  have hT : Shared.TypeIs { s with heap := s.heap.push { cls := .type "set", dict := none, data := .set #[] 0 (.fresh 0 0 led) } } (.ref s.heap.objs.size) "set" := ⟨_, hS, rfl⟩
  have hli := PySem.F.called_set.init.lookup
  have hbi := PySem.F.called_set.init.bind (.ref s.heap.objs.size)
  repeat (any_goals (first | assumption | wp_step))
  refine codeAny_mono (codeAny_call_builtin (R := wants (fun r s₂ => r = .none ∧ ∃ h' tk o, s₂ = { s with heap := h', toks := tk } ∧ SetS o [k1, k2] ∧ h'.get? s.heap.objs.size = some o ∧ (∀ b o, s.heap.get? b = some o → h'.get? b = some o)) E) PySem.F.called_set.init.plain PySem.F.entry_set_init (check_set_init_1 hT ?_)) fun r₂ s₂ hr₂ => ?_
  · have hl' : (s.heap.push { cls := .type "set", dict := none, data := .set #[] 0 (.fresh 0 0 led) }).get? l = some ⟨.type "list", dc, .seq #[.str k1 t1, .str k2 t2] n, sl⟩ := Heap.get?_push_of_some _ hl
    have hsls := PySem.F.sub_list_set
    have hslf := PySem.F.sub_list_frozenset
    have hne : (Value.type "list" == Value.type "dict") = false := by decide
    have hl1 : (s.heap.push { cls := .type "set", dict := none, data := .set #[] 0 (.fresh 0 0 led) }).IsList l #[.str k1 t1, .str k2 t2] := ⟨_, hl', rfl, n, rfl⟩
    unfold Builtin.«set.__init__» noKeywords Builtin.Frozenset.updateFrom
    generalize hPI : pyIter = PI
    wp_walk
    subst hPI
    refine wpAny_pyIter_list hl1 (wpAny_bind (wpAny_runValue ?_))
    have hlt : l < s.heap.objs.size := Heap.lt_size hl
    have hz : (s.heap.push { cls := .type "set", dict := none, data := .set #[] 0 (.fresh 0 0 led) }).objs.size = s.heap.objs.size + 1 := Heap.size_push ..
    refine supd_two (l := l) (t1 := t1) (t2 := t2) (led := led) (by simp [hh]) hk (by rw [hz]; exact Nat.ne_of_lt (Nat.lt_succ_self _)) (by rw [hz]; exact Nat.ne_of_lt (Nat.lt_succ_of_lt hlt)) (Nat.ne_of_lt hlt) ⟨_, Heap.get?_push_size _ rfl, rfl, rfl⟩ (hl1.push _) (Heap.get?_push_of_some _ hS) fun h' tk o ho hg hkp => ?_
    show wpAny _ _ _ _ _ _
    refine wpAny_pure ?_
    show wpAny _ _ (ret Value.none) _ _ _
    refine wpAny_pure ⟨rfl, h', tk, o, rfl, ho, hg, fun b q e => hkp b q ?_ ?_ (Heap.get?_push_of_some _ (Heap.get?_push_of_some _ e))⟩
    · rw [hz]; exact Nat.ne_of_lt (Nat.lt_succ_of_lt (Heap.lt_size e))
    · exact Nat.ne_of_lt (Heap.lt_size e)
  · rcases r₂ with e | (r | _ | _ | _) <;> try exact hr₂.elim
    · exact hr₂
    obtain ⟨rfl, h', tk, o, rfl, ho, hg, hkp⟩ := hr₂
    repeat (any_goals (first | assumption | wp_step))
    exact h h' tk o ho hg hkp
end
end Mine
set_option maxRecDepth 100000
set_option maxHeartbeats 4000000
namespace Mine
open PySem PySem.W PyProof.Rows

theorem entry_set_iter : entryFor table "set.__iter__" = some Builtin.«frozenset.__iter__» := entryFor_alias (id' := "frozenset.__iter__") (by kernel_rfl) rfl (by decide +kernel) (by kernel_rfl)
theorem slot_si_next : Slot "set_iterator" "__next__" "set_iterator.__next__" :=
  .of (owner := "set_iterator") (n := "__next__") (by rw [typeLookup_type, builtinLookup_eq_fast]; kernel_rfl) (by decide +kernel) (by decide +kernel) (by decide +kernel)
    (by first | exact .inl (by decide +kernel) | exact .inr (by decide +kernel)) (by rw [isSubtype_type]; kernel_rfl)
theorem slot_si_iter : Slot "set_iterator" "__iter__" "set_iterator.__iter__" :=
  .of (owner := "set_iterator") (n := "__iter__") (by rw [typeLookup_type, builtinLookup_eq_fast]; kernel_rfl) (by decide +kernel) (by decide +kernel) (by decide +kernel)
    (by first | exact .inl (by decide +kernel) | exact .inr (by decide +kernel)) (by rw [isSubtype_type]; kernel_rfl)
theorem entry_si_next : entryFor table "set_iterator.__next__" = some Builtin.«set_iterator.__next__» := entryFor_of_tree (by kernel_rfl)
theorem entry_si_iter : entryFor table "set_iterator.__iter__" = some Builtin.«dict_keyiterator.__iter__» := entryFor_alias (id' := "dict_keyiterator.__iter__") (by kernel_rfl) rfl (by decide +kernel) (by kernel_rfl)
theorem args_si_next (a : Value) : argsOk "set_iterator.__next__" ⟨[a], []⟩ := by unfold argsOk; kernel_rfl
theorem args_si_iter (a : Value) : argsOk "set_iterator.__iter__" ⟨[a], []⟩ := by unfold argsOk; kernel_rfl

section
variable {prog : Program} {w : World} {A : Around} {E : Value → Shared → Prop} {s : Shared} {R : Result → Shared → Prop}

theorem wpAny_choose {M : Model} {src : Source} {n : Nat} {Q : Nat → Shared → Prop} (hn : n ≠ 0) (h : ∀ k, k < n → Q k { s with drawn := s.drawn.bump src }) : wpAny M A (choose src n) Q E s :=
  fun Γ p _ => ⟨hn, h _ (Nat.mod_lt _ (Nat.pos_of_ne_zero hn))⟩

/-- two things, in one order or the other -/
def Two {α : Type} (x y : α) (l : List α) : Prop := l = [x, y] ∨ l = [y, x]

theorem pick_two {α : Type} (next : Nat → Nat) (x y : α) : Two x y (pickOrder next #[x, y]).toList := by
  have h0 : next 0 % 2 = 0 ∨ next 0 % 2 = 1 := by omega
  unfold pickOrder
  show Two x y (pickOrder.go next 2 0 [x, y] #[]).toList
  rcases h0 with e | e
  · refine .inl ?_
    simp [pickOrder.go, e, Nat.mod_one]
  · refine .inr ?_
    simp [pickOrder.go, e, Nat.mod_one]
theorem drawOrder_two {M : Model} {Q : List Nat → Shared → Prop} (h : ∀ d l, Two 0 1 l → Q l { s with drawn := d }) : wpAny M A (drawOrder 2 (List.range 2)) Q E s := by
  show wpAny M A (drawOrder 2 [0, 1]) Q E s
  unfold drawOrder
  refine wpAny_bind (wpAny_choose (by simp) fun k hk => ?_)
  have hk : k < 2 := hk
  rcases (show k = 0 ∨ k = 1 by omega) with rfl | rfl
  · show wpAny _ _ (drawOrder 1 [1] >>= _) _ _ _
    unfold drawOrder
    refine wpAny_bind (wpAny_bind (wpAny_choose (by simp) fun k hk => ?_))
    have hk : k < 1 := hk
    obtain rfl : k = 0 := by omega
    exact wpAny_bind (wpAny_pure (wpAny_pure (wpAny_pure (h _ _ (.inl rfl)))))
  · show wpAny _ _ (drawOrder 1 [0] >>= _) _ _ _
    unfold drawOrder
    refine wpAny_bind (wpAny_bind (wpAny_choose (by simp) fun k hk => ?_))
    have hk : k < 1 := hk
    obtain rfl : k = 0 := by omega
    exact wpAny_bind (wpAny_pure (wpAny_pure (wpAny_pure (h _ _ (.inr rfl)))))

/-- an iterator over a set of two -/
def siObj (first : Value) (S : Value) (i : Nat) (ep : Nat) : Obj := { cls := .type "set_iterator", data := .fields #[first, .int i 0, S, .int 2 0, .int ep 0] }

theorem stop_any {α : Type} {Q : α → Shared → Prop} (hh : A.handled = none) (h : ∀ h' e, s.heap.StaysIn h' → (∃ o, h'.get? e = some o ∧ o.cls = .type "StopIteration") → E (.ref e) { s with heap := h' }) :
    wpAny (model prog w) A (do raiseNew (← newExc (.type "StopIteration") [])) Q E s := by
  refine wpAny_bind ?_
  simp only [newExc, newTuple]
  refine wpAny_bind (wpAny_newObj_type ?_ (by size_fits))
  refine wpAny_bind (m := firstArgMember _ _) (wpAny_of_eq (a := Value.none) (by first | rfl | (simp only [firstArgMember]; rfl)) ?_)
  refine wpAny_newObj_type ?_ (by size_fits)
  simp only [raiseNew]
  refine wpAny_bind (wpAny_handled ?_)
  rw [hh]
  refine wpAny_bind (wpAny_pure (wpAny_throw ?_))
  exact h _ _ (fun b o e => Heap.get?_push_of_some _ (Heap.get?_push_of_some _ e)) ⟨_, Heap.get?_push_size _ rfl, rfl⟩

/-- what the iterator's own step does, given the body of each of its two roads -/
theorem si_next {I : Addr} {o : Obj} {Q : Option Value → Shared → Prop} (ho : s.heap.get? I = some o) (hc : o.cls = .type "set_iterator")
    (h : wpAny (model prog w) A.in1 (Builtin.«set_iterator.__next__» ⟨[.ref I], []⟩) (fun fin s' => ∃ v, fin = .done (.ret v) ∧ Q (some v) s') (fun e s' => ∃ a o, e = .ref a ∧ s'.heap.get? a = some o ∧ o.cls = .type "StopIteration" ∧ Q none s') s) :
    wpAny (model prog w) A (pyNext (.ref I)) Q E s := by
  have hT : s.TypeIs (.ref I) "set_iterator" := ⟨o, ho, hc⟩
  unfold pyNext
  refine wpAny_bind (wpAny_attempt (wpAny_callSpecial?_slot (name := Str.ofString "__next__") hT slot_si_next
    (wpAny_call_entry slot_si_next hT entry_si_next (wpAny_mono h (fun fin s' x => ?_) fun e s' x => ?_) (args_si_next _))))
  · obtain ⟨v, rfl, hq⟩ := x
    exact ⟨v, rfl, wpAny_pure hq⟩
  · obtain ⟨a, o, rfl, h1, h2, hq⟩ := x
    exact wpAny_bind (wpAny_isInstance (T := "StopIteration") (b := true) ⟨_, h1, h2⟩ isSubtype_stop (wpAny_pure hq))
end
end Mine
set_option maxRecDepth 100000
set_option maxHeartbeats 4000000
namespace Mine
open PySem PySem.W PyProof.Rows

section
variable {prog : Program} {w : World} {A : Around} {E : Value → Shared → Prop} {s : Shared} {S I T : Addr} {es : Array (Int × Value)} {ep : Nat} {t : SetTable} {v1 v2 : Value} {g1 g2 : Int}

theorem setWalk_text {Q : Array (Int × Value) → Shared → Prop} (hb : w.params.followText "set-order" = true) (hs : SetAt s.heap S es ep t) (h : Q (pickOrder (w.params.setOrder S ep) es) s) : wpAny (model prog w) A (setWalk S) Q E s := by
  unfold setWalk setsByText
  refine wpAny_bind (wpAny_setState_of hs.1 rfl hs.2 ?_)
  dsimp only
  refine wpAny_bind (wpAny_bind (wpAny_askSetting (wpAny_pure ?_)))
  show wpAny _ _ (if w.params.followText "set-order" = true then _ else _) _ _ _
  rw [if_pos hb]
  exact wpAny_bind (wpAny_askSetting (wpAny_pure h))
theorem setNext_text {i : Nat} {Q : Option (Value × Nat) → Shared → Prop} (hb : w.params.followText "set-order" = true) (hs : SetAt s.heap S es ep t) (h : Q (((pickOrder (w.params.setOrder S ep) es)[i]?).map fun e => (e.2, 0)) s) : wpAny (model prog w) A (setNext S 0 i ep) Q E s := by
  unfold setNext setsByText
  refine wpAny_bind (wpAny_setState_of hs.1 rfl hs.2 ?_)
  dsimp only
  refine wpAny_bind (wpAny_bind (wpAny_askSetting (wpAny_pure ?_)))
  show wpAny _ _ (if w.params.followText "set-order" = true then _ else _) _ _ _
  rw [if_pos hb, if_neg (by simp)]
  exact wpAny_bind (setWalk_text hb hs (wpAny_pure h))

theorem siT_item {i : Nat} {x : Value} {Q : Option Value → Shared → Prop} (hb : w.params.followText "set-order" = true) (hIS : S ≠ I) (ho : s.heap.get? I = some (siObj (.int 0 0) (.ref S) i ep)) (hs : SetAt s.heap S es ep t) (h2 : es.size = 2)
    (hx : ((pickOrder (w.params.setOrder S ep) es).toList.map (·.2))[i]? = some x) (h : ∀ h', h'.get? I = some (siObj (.int 0 0) (.ref S) (i + 1) ep) → (∀ b o, b ≠ I → s.heap.get? b = some o → h'.get? b = some o) → Q (some x) { s with heap := h' }) :
    wpAny (model prog w) A (pyNext (.ref I)) Q E s := by
  refine si_next ho rfl ?_
  unfold Builtin.«set_iterator.__next__»
  refine wpAny_bind (m := slotArgs _ _ _) (wpAny_pure ?_)
  refine wpAny_bind (wpAny_fieldsOf ho rfl ?_)
  show wpAny _ _ (setEntries S >>= _) _ _ _
  refine wpAny_bind (wpAny_setEntries_of hs.1 rfl hs.2 ?_)
  rw [h2]
  show wpAny _ _ (setNext S 0 i ep >>= _) _ _ _
  refine wpAny_bind (setNext_text hb hs ?_)
  obtain ⟨e, he, rfl⟩ : ∃ e, (pickOrder (w.params.setOrder S ep) es)[i]? = some e ∧ e.2 = x := by
    rw [List.getElem?_map, Array.getElem?_toList] at hx
    cases q : (pickOrder (w.params.setOrder S ep) es)[i]? with
    | none => rw [q] at hx; cases hx
    | some e => rw [q] at hx; exact ⟨e, rfl, Option.some.inj hx⟩
  rw [he]
  show wpAny _ _ (setField (.ref I) 0 (rawInt 0) >>= _) _ _ _
  refine wpAny_bind (wpAny_setField_rec ho (by simp) fun h1 ho1 k1 => ?_)
  show wpAny _ _ (setField (.ref I) 1 (rawInt (i + 1)) >>= _) _ _ _
  refine wpAny_bind (wpAny_setField_rec ho1 (by simp) fun h2 ho2 k2 => ?_)
  exact wpAny_pure ⟨_, rfl, h h2 ho2 fun b o hb e => k2.extBut b o hb (k1.extBut b o hb e)⟩
theorem siT_end {i : Nat} {Q : Option Value → Shared → Prop} (hh : A.handled = none) (hb : w.params.followText "set-order" = true) (hIS : S ≠ I) (ho : s.heap.get? I = some (siObj (.int 0 0) (.ref S) i ep)) (hs : SetAt s.heap S es ep t) (h2 : es.size = 2)
    (hx : ((pickOrder (w.params.setOrder S ep) es).toList.map (·.2))[i]? = none) (h : ∀ h', (∀ b o, b ≠ I → s.heap.get? b = some o → h'.get? b = some o) → Q none { s with heap := h' }) :
    wpAny (model prog w) A (pyNext (.ref I)) Q E s := by
  refine si_next ho rfl ?_
  unfold Builtin.«set_iterator.__next__»
  refine wpAny_bind (m := slotArgs _ _ _) (wpAny_pure ?_)
  refine wpAny_bind (wpAny_fieldsOf ho rfl ?_)
  show wpAny _ _ (setEntries S >>= _) _ _ _
  refine wpAny_bind (wpAny_setEntries_of hs.1 rfl hs.2 ?_)
  rw [h2]
  show wpAny _ _ (setNext S 0 i ep >>= _) _ _ _
  refine wpAny_bind (setNext_text hb hs ?_)
  have he : (pickOrder (w.params.setOrder S ep) es)[i]? = none := by
    rw [List.getElem?_map, Array.getElem?_toList] at hx
    cases q : (pickOrder (w.params.setOrder S ep) es)[i]? with
    | none => rfl
    | some e => rw [q] at hx; cases hx
  rw [he]
  show wpAny _ _ (setField (.ref I) 2 .none >>= _) _ _ _
  refine wpAny_bind (wpAny_setField_rec ho (by simp) fun h1 ho1 k1 => ?_)
  refine stop_any hh fun h3 e k3 ⟨o, h4, h5⟩ => ⟨e, o, rfl, h4, h5, ?_⟩
  exact h h3 fun b o hb e => k3 b o (k1.extBut b o hb e)
theorem si_self {i : Nat} {fst : Value} {Q : Value → Shared → Prop} (ho : s.heap.get? I = some (siObj fst (.ref S) i ep)) (h : Q (.ref I) s) : wpAny (model prog w) A (pyIter (.ref I)) Q E s := by
  have hT : s.TypeIs (.ref I) "set_iterator" := ⟨_, ho, rfl⟩
  refine wpAny_pyIter_slot hT slot_si_iter (wpAny_call_entry slot_si_iter hT entry_si_iter ?_ (args_si_iter _))
  show wpAny _ _ (ret (.ref I)) _ _ s
  exact wpAny_pure ⟨_, rfl, "set_iterator", _, hT, slot_si_next.lookup, h⟩

theorem walks_text (hh : A.handled = none) (hb : w.params.followText "set-order" = true) (hIS : S ≠ I) (h2 : es.size = 2) (hl : ((pickOrder (w.params.setOrder S ep) es).toList.map (·.2)).length = 2) :
    Walks prog w A I [I, S] [I] 2 (fun i v => ((pickOrder (w.params.setOrder S ep) es).toList.map (·.2))[i]? = some v) (fun i h => h.get? I = some (siObj (.int 0 0) (.ref S) i ep) ∧ SetAt h S es ep t) where
  sub := fun b hb => by simp at hb; simp [hb]
  frame := fun i h h' st hk => ⟨hk I (by simp) _ st.1, hk S (by simp) _ st.2.1, st.2.2⟩
  item := fun i s Q E hi st hQ => by
    have hx := List.getElem?_eq_getElem (l := (pickOrder (w.params.setOrder S ep) es).toList.map (·.2)) (i := i) (by rw [hl]; exact hi)
    refine siT_item hb hIS st.1 st.2 h2 hx fun h' ho' hk => ?_
    exact hQ _ h' s.toks hx ⟨ho', hk S _ hIS st.2.1, st.2.2⟩ fun b o hb e => hk b o (fun h => hb (by simp [h])) e
  done := fun s Q E st hQ => siT_end hh hb hIS st.1 st.2 h2 (by rw [List.getElem?_eq_none (by rw [hl]; exact Nat.le_refl _)]) fun h' hk => hQ h' s.toks fun b o hb e => hk b o (fun h => hb (by simp [h])) e
  self := fun i s Q E st hQ => si_self st.1 hQ

/-! ## the other road: places drawn ahead -/
def tupObj (vs : Array Value) : Obj := { cls := .type "tuple", data := .seq vs 0 }
def plc (l : List Nat) : Array Value := (l.map fun (i : Nat) => rawInt i).toArray

theorem siD_item {i p : Nat} {l : List Nat} {e : Int × Value} {Q : Option Value → Shared → Prop} (ho : s.heap.get? I = some (siObj (.ref T) (.ref S) i ep)) (hT : s.heap.get? T = some (tupObj (plc l))) (hs : SetAt s.heap S es ep t) (h2 : es.size = 2)
    (hp : l[i]? = some p) (hx : es[p]? = some e) (h : ∀ h', h'.get? I = some (siObj (.ref T) (.ref S) (i + 1) ep) → (∀ b o, b ≠ I → s.heap.get? b = some o → h'.get? b = some o) → Q (some e.2) { s with heap := h' }) :
    wpAny (model prog w) A (pyNext (.ref I)) Q E s := by
  refine si_next ho rfl ?_
  unfold Builtin.«set_iterator.__next__»
  refine wpAny_bind (m := slotArgs _ _ _) (wpAny_pure ?_)
  refine wpAny_bind (wpAny_fieldsOf ho rfl ?_)
  show wpAny _ _ (setEntries S >>= _) _ _ _
  refine wpAny_bind (wpAny_setEntries_of hs.1 rfl hs.2 ?_)
  rw [h2]
  show wpAny _ _ (seqItems? (.ref T) >>= _) _ _ _
  refine wpAny_bind (wpAny_seqItems hT rfl ?_)
  have e1 : (plc l)[((i : Nat) : Int).toNat]? = some (rawInt p) := by simp [plc, hp]
  dsimp only
  rw [e1]
  show wpAny _ _ (setNextDrawn S p ep >>= _) _ _ _
  refine wpAny_bind ?_
  unfold setNextDrawn
  refine wpAny_bind (wpAny_setState_of hs.1 rfl hs.2 ?_)
  dsimp only
  rw [if_neg (by simp), hx]
  refine wpAny_pure ?_
  show wpAny _ _ (setField (.ref I) 1 (rawInt (i + 1)) >>= _) _ _ _
  refine wpAny_bind (wpAny_setField_rec ho (by simp) fun h2 ho2 k2 => ?_)
  exact wpAny_pure ⟨_, rfl, h h2 ho2 fun b o hb e => k2.extBut b o hb e⟩
theorem siD_end {i : Nat} {l : List Nat} {Q : Option Value → Shared → Prop} (hh : A.handled = none) (ho : s.heap.get? I = some (siObj (.ref T) (.ref S) i ep)) (hT : s.heap.get? T = some (tupObj (plc l))) (hs : SetAt s.heap S es ep t) (h2 : es.size = 2)
    (hp : l[i]? = none) (h : ∀ h', (∀ b o, b ≠ I → s.heap.get? b = some o → h'.get? b = some o) → Q none { s with heap := h' }) :
    wpAny (model prog w) A (pyNext (.ref I)) Q E s := by
  refine si_next ho rfl ?_
  unfold Builtin.«set_iterator.__next__»
  refine wpAny_bind (m := slotArgs _ _ _) (wpAny_pure ?_)
  refine wpAny_bind (wpAny_fieldsOf ho rfl ?_)
  show wpAny _ _ (setEntries S >>= _) _ _ _
  refine wpAny_bind (wpAny_setEntries_of hs.1 rfl hs.2 ?_)
  rw [h2]
  show wpAny _ _ (seqItems? (.ref T) >>= _) _ _ _
  refine wpAny_bind (wpAny_seqItems hT rfl ?_)
  have e1 : (plc l)[((i : Nat) : Int).toNat]? = none := by simpa [plc] using hp
  dsimp only
  rw [e1]
  show wpAny _ _ (setField (.ref I) 0 (rawInt 0) >>= _) _ _ _
  refine wpAny_bind (wpAny_setField_rec ho (by simp) fun h1 ho1 k1 => ?_)
  show wpAny _ _ (setField (.ref I) 2 .none >>= _) _ _ _
  refine wpAny_bind (wpAny_setField_rec ho1 (by simp) fun h2 ho2 k2 => ?_)
  refine stop_any hh fun h3 e k3 ⟨o, h4, h5⟩ => ⟨e, o, rfl, h4, h5, ?_⟩
  exact h h3 fun b o hb e => k3 b o (k2.extBut b o hb (k1.extBut b o hb e))
theorem walks_drawn {l : List Nat} (hh : A.handled = none) (hIS : S ≠ I) (hIT : T ≠ I) (h2 : es.size = 2) (hl : Two 0 1 l) :
    Walks prog w A I [I, T, S] [I] 2 (fun i v => (l.filterMap fun p => (es[p]?).map (·.2))[i]? = some v) (fun i h => h.get? I = some (siObj (.ref T) (.ref S) i ep) ∧ h.get? T = some (tupObj (plc l)) ∧ SetAt h S es ep t) where
  sub := fun b hb => by simp at hb; simp [hb]
  frame := fun i h h' st hk => ⟨hk I (by simp) _ st.1, hk T (by simp) _ st.2.1, hk S (by simp) _ st.2.2.1, st.2.2.2⟩
  item := fun i s Q E hi st hQ => by
    obtain ⟨p, e, hp, hx, hv⟩ : ∃ p e, l[i]? = some p ∧ es[p]? = some e ∧ (l.filterMap fun p => (es[p]?).map (·.2))[i]? = some e.2 := by
      have e0 : es[0]? = some es[0] := Array.getElem?_eq_getElem (by omega)
      have e1 : es[1]? = some es[1] := Array.getElem?_eq_getElem (by omega)
      rcases (show i = 0 ∨ i = 1 by omega) with rfl | rfl <;> rcases hl with rfl | rfl
      · exact ⟨0, es[0], rfl, e0, by simp [e0, e1]⟩
      · exact ⟨1, es[1], rfl, e1, by simp [e0, e1]⟩
      · exact ⟨1, es[1], rfl, e1, by simp [e0, e1]⟩
      · exact ⟨0, es[0], rfl, e0, by simp [e0, e1]⟩
    refine siD_item st.1 st.2.1 st.2.2 h2 hp hx fun h' ho' hk => ?_
    exact hQ _ h' s.toks hv ⟨ho', hk T _ hIT st.2.1, hk S _ hIS st.2.2.1, st.2.2.2⟩ fun b o hb e => hk b o (fun h => hb (by simp [h])) e
  done := fun s Q E st hQ => siD_end hh st.1 st.2.1 st.2.2 h2 (by rcases hl with rfl | rfl <;> rfl) fun h' hk => hQ h' s.toks fun b o hb e => hk b o (fun h => hb (by simp [h])) e
  self := fun i s Q E st hQ => si_self st.1 hQ
end
end Mine
set_option maxRecDepth 100000
set_option maxHeartbeats 4000000
namespace Mine
open PySem PySem.W PyProof.Rows

section
variable {prog : Program} {w : World} {A : Around} {E : Value → Shared → Prop} {s : Shared} {S I T : Addr} {es : Array (Int × Value)} {ep : Nat} {t : SetTable} {v1 v2 : Value}

theorem two_map {α β : Type} (f : α → β) {x y : α} {l : List α} (h : Two x y l) : Two (f x) (f y) (l.map f) := by
  rcases h with rfl | rfl
  · exact .inl rfl
  · exact .inr rfl
theorem two_of {α β : Type} {f : α → β} {l : List α} {x y : β} (h : l.map f = [x, y]) : ∃ a b, l = [a, b] ∧ f a = x ∧ f b = y := by
  match l, h with
  | [a, b], h => simp at h; exact ⟨a, b, rfl, h.1, h.2⟩

theorem setDrawn_any {Q : Bool → Shared → Prop} (hs : SetAt s.heap S es ep t) (hp : t.plain = false) (h2 : es.size = 2) (h : Q (!w.params.followText "set-order") s) : wpAny (model prog w) A (setDrawn S) Q E s := by
  unfold setDrawn setsByText
  refine wpAny_bind (wpAny_setState_of hs.1 rfl hs.2 ?_)
  dsimp only
  refine wpAny_bind (wpAny_bind (wpAny_askSetting (wpAny_pure ?_)))
  show wpAny _ _ (pure (!w.params.followText "set-order" && (!t.plain && decide (es.size > 1)))) _ _ _
  have e : (!t.plain && decide (es.size > 1)) = true := by rw [hp, h2]; rfl
  rw [e, Bool.and_true]
  exact wpAny_pure h

theorem pyIter_two {Q : Value → Shared → Prop} (hh : A.handled = none) (hs : SetAt s.heap S es ep t) (hp : t.plain = false) (he : es.toList.map (·.2) = [v1, v2])
    (h : ∀ h' d I ord fp St, s.heap.StaysIn h' → (∀ b ∈ fp, b = S ∨ s.heap.objs.size ≤ b) → s.heap.objs.size ≤ I → Two v1 v2 ord → Walks prog w A I fp [I] 2 (fun i v => ord[i]? = some v) St → St 0 h' → Q (.ref I) { s with heap := h', drawn := d }) :
    wpAny (model prog w) A (pyIter (.ref S)) Q E s := by
  have hT : s.TypeIs (.ref S) "set" := ⟨_, hs.1, rfl⟩
  obtain ⟨e1, e2, hl, rfl, rfl⟩ := two_of he
  have hes : es = #[e1, e2] := by cases es; simpa using hl
  have h2 : es.size = 2 := by rw [hes]; rfl
  have hlt : S < s.heap.objs.size := Heap.lt_size hs.1
  refine wpAny_pyIter_slot hT PySem.F.slot_set_iter (wpAny_call_entry PySem.F.slot_set_iter hT entry_set_iter ?_ (PySem.F.args_set_iter_1 _))
  unfold Builtin.«frozenset.__iter__»
  refine wpAny_bind (m := Builtin.Frozenset.slot0 _ _) (wpAny_pure ?_)
  refine wpAny_bind (m := Builtin.Frozenset.sizeOf _) (wpAny_bind (wpAny_setEntries_of hs.1 rfl hs.2 (wpAny_pure ?_)))
  refine wpAny_bind (setDrawn_any hs hp h2 ?_)
  rw [h2]
  cases hb : w.params.followText "set-order" with
  | true =>
    rw [Bool.not_true, if_neg (by decide)]
    refine wpAny_bind (wpAny_pure ?_)
    refine wpAny_bind (wpAny_setEpoch_of hs.1 rfl hs.2 ?_)
    refine wpAny_bind (wpAny_newObj_type (wpAny_pure ⟨_, rfl, "set_iterator", _, ⟨_, Heap.get?_push_size _ rfl, rfl⟩, slot_si_next.lookup, ?_⟩))
    have ht : Two e1.2 e2.2 ((pickOrder (w.params.setOrder S ep) es).toList.map (·.2)) := by rw [hes]; exact two_map _ (pick_two ..)
    refine h _ s.drawn s.heap.objs.size _ [s.heap.objs.size, S] _ (fun b o e => Heap.get?_push_of_some _ e) (fun b hb => ?_) (Nat.le_refl _) ht
      (walks_text (ep := ep) (t := t) hh hb (Nat.ne_of_lt hlt) h2 (by rcases ht with e | e <;> rw [e] <;> rfl)) ⟨Heap.get?_push_size _ rfl, Heap.get?_push_of_some _ hs.1, hs.2⟩
    rcases List.mem_cons.mp hb with q | q
    · exact .inr (Nat.le_of_eq q.symm)
    · exact .inl (List.mem_singleton.mp q)
  | false =>
    rw [Bool.not_false, if_pos rfl]
    refine wpAny_bind (drawOrder_two fun d l hl2 => ?_)
    have hlen : l.length = 2 := by rcases hl2 with rfl | rfl <;> rfl
    refine wpAny_bind (wpAny_newTuple ?_ (by rw [List.length_map, hlen, sizeLine_eq]; omega))
    refine wpAny_bind (wpAny_setEpoch_of (Heap.get?_push_of_some _ hs.1) rfl hs.2 ?_)
    refine wpAny_bind (wpAny_newObj_type (wpAny_pure ⟨_, rfl, "set_iterator", _, ⟨_, Heap.get?_push_size _ rfl, rfl⟩, slot_si_next.lookup, ?_⟩))
    have hz : (s.heap.push { cls := .type "tuple", data := .seq (l.map fun (i : Nat) => rawInt i).toArray }).objs.size = s.heap.objs.size + 1 := Heap.size_push ..
    have ht : Two e1.2 e2.2 (l.filterMap fun p => (es[p]?).map (·.2)) := by
      rw [hes]
      rcases hl2 with rfl | rfl
      · exact .inl rfl
      · exact .inr rfl
    refine h _ d (s.heap.push { cls := .type "tuple", data := .seq (l.map fun (i : Nat) => rawInt i).toArray }).objs.size _ [(s.heap.push { cls := .type "tuple", data := .seq (l.map fun (i : Nat) => rawInt i).toArray }).objs.size, s.heap.objs.size, S] _
      (fun b o e => Heap.get?_push_of_some _ (Heap.get?_push_of_some _ e)) (fun b hb => ?_) (by rw [hz]; exact Nat.le_succ _) ht
      (walks_drawn (ep := ep) (t := t) hh (by rw [hz]; exact Nat.ne_of_lt (Nat.lt_succ_of_lt hlt)) (by rw [hz]; exact Nat.ne_of_lt (Nat.lt_succ_self _)) h2 hl2)
      ⟨Heap.get?_push_size _ rfl, Heap.get?_push_of_some _ (Heap.get?_push_size _ rfl), Heap.get?_push_of_some _ (Heap.get?_push_of_some _ hs.1), hs.2⟩
    rcases List.mem_cons.mp hb with q | q
    · rw [q, hz]; exact .inr (Nat.le_succ _)
    · rcases List.mem_cons.mp q with q | q
      · exact .inr (Nat.le_of_eq q.symm)
      · exact .inl (List.mem_singleton.mp q)

theorem hint_set {Q : Bool → Shared → Prop} (hT : s.TypeIs (.ref S) "set") (h : Q false s) : wpAny (model prog w) A (Builtin.List.listLengthHint (.ref S)) Q E s := by
  unfold Builtin.List.listLengthHint
  refine wpAny_bind (wpAny_specialOf hT PySem.F.slot_set_len.lookup ?_)
  generalize hid : ("set.__len__" : String) = id0
  wp_delta
  rw [show splitId id0 = some ("set", "__len__") from by subst hid; decide +kernel]
  subst hid
  refine wpAny_bind (wpAny_isInstance (T := "set") (b := true) hT (by rw [isSubtype_type]; kernel_rfl) ?_)
  refine wpAny_ite_split (fun hab => absurd hab (by decide)) (fun _ => ?_)
  refine wpAny_ite_split (fun _ => ?_) (fun hab => absurd (by decide +kernel) hab)
  refine wpAny_bind (wpAny_typeOf hT ?_)
  exact wpAny_pure h

theorem collect_two {Q : List Value → Shared → Prop} (hh : A.handled = none) (hs : SetAt s.heap S es ep t) (hp : t.plain = false) (he : es.toList.map (·.2) = [v1, v2])
    (h : ∀ h' d tk ord, s.heap.StaysIn h' → Two v1 v2 ord → Q ord { s with heap := h', drawn := d, toks := tk }) :
    wpAny (model prog w) A (collect (.ref S)) Q E s := by
  have hlt : S < s.heap.objs.size := Heap.lt_size hs.1
  unfold collect
  refine wpAny_bind (wpAny_runValue (codeAny_builtin PySem.F.entry_proto_collect ?_))
  rw [Around.under_plainId PySem.F.plain_proto_collect _]
  show wpAny _ A.in1 (newList [] >>= fun l => again (.builtin "list.__iadd__" ⟨[l, .ref S], []⟩)) _ _ s
  refine wpAny_bind (wpAny_newObj_type ?_)
  refine wpAny_pure ⟨plainId_quiet PySem.F.plain_list_iadd _, codeAny_builtin PySem.F.entry_list_iadd ?_⟩
  rw [Around.under_plainId PySem.F.plain_list_iadd _]
  have hs1 : SetAt (s.heap.push { cls := .type "list", data := .seq ([] : List Value).toArray }) S es ep t := ⟨Heap.get?_push_of_some _ hs.1, hs.2⟩
  have hD : (s.heap.push { cls := .type "list", data := .seq ([] : List Value).toArray }).get? s.heap.objs.size = some { cls := .type "list", data := .seq #[] } := Heap.get?_push_size _ rfl
  have hz : (s.heap.push { cls := .type "list", data := .seq ([] : List Value).toArray }).objs.size = s.heap.objs.size + 1 := Heap.size_push ..
  show wpAny _ A.in1 (Builtin.List.listExtendWith (.ref s.heap.objs.size) (.ref S) (.ref s.heap.objs.size)) _ _ _
  unfold Builtin.List.listExtendWith
  refine wpAny_bind (wpAny_typeOf (T := "set") ⟨_, hs1.1, rfl⟩ ?_)
  have h1 : Builtin.List.listSameRef (.ref s.heap.objs.size) (.ref S) = false := by simp [Builtin.List.listSameRef, Nat.ne_of_gt hlt]
  simp only [h1, show (Value.type "set" == Value.type "list") = false by decide, show (Value.type "set" == Value.type "tuple") = false by decide, Bool.or_false, Bool.false_eq_true, if_false]
  refine wpAny_bind (pyIter_two (A := A.in1) hh hs1 hp he fun h2 d I ord fp St k2 hfp hI ht W st => ?_)
  have hDf : s.heap.objs.size ∉ fp := fun hm => by
    rcases hfp _ hm with e | e
    · exact absurd e (Nat.ne_of_gt hlt)
    · rw [hz] at e; exact absurd e (Nat.not_le.mpr (Nat.lt_succ_self _))
  have hDI : s.heap.objs.size ≠ I := fun e => by rw [hz, ← e] at hI; exact absurd hI (Nat.not_le.mpr (Nat.lt_succ_self _))
  have key : ∀ (h3 : Heap) (c₁ tk : Nat), St 0 h3 → (∀ b o, b ≠ s.heap.objs.size → h2.get? b = some o → h3.get? b = some o) → h3.get? s.heap.objs.size = some { cls := .type "list", data := .seq #[] c₁ } →
      codeAny (model prog w) A (.builtin "list.extend.loop" ⟨[.ref s.heap.objs.size, .ref I, .ref s.heap.objs.size], []⟩) (fun r s' => match r with
        | .ok (.ret v) => wpAny (model prog w) A (match v with
          | .ref a => do
            match (← load a).data with
            | .seq xs _ => pure xs.toList
            | _ => unsupported "internal:collect"
          | _ => unsupported "internal:collect") Q E s'
        | .ok _ => False
        | .error e => E e s') { s with heap := h3, drawn := d, toks := tk } := by
    intro h3 c₁ tk hst hk hS₁
    refine codeAny_extend_loopS W.toS (by rw [sizeLine_eq]; omega) s.heap.objs.size hDf (.ref s.heap.objs.size) 2 0 _ #[] c₁ rfl (Nat.zero_le _) hst hS₁ (ItemsOf.nil _) fun s' acc' c' hm hS' hacc => ?_
    rw [Moved.eq_with hm]
    show wpAny _ A (load s.heap.objs.size >>= _) _ _ _
    refine wpAny_bind (wpAny_load hS' ?_)
    have e : acc'.toList = ord := by
      obtain ⟨l⟩ := acc'
      have h1 : l.length = 2 := hacc.1
      match l, h1 with
      | [a, b], _ =>
        have ea : ord[0]? = some a := hacc.2 0 a rfl
        have eb : ord[1]? = some b := hacc.2 1 b rfl
        rcases ht with rfl | rfl
        · simp at ea eb; simp [ea, eb]
        · simp at ea eb; simp [ea, eb]
    show wpAny _ _ (pure acc'.toList) _ _ _
    rw [e]
    refine wpAny_pure (h _ d _ ord (fun b o e => ?_) ht)
    have hb := Heap.lt_size e
    refine hm.heap b o (fun hmem => ?_) (hk b o (Nat.ne_of_lt hb) (k2 b o (Heap.get?_push_of_some _ e)))
    rcases List.mem_cons.mp hmem with e' | hmem
    · exact absurd e' (Nat.ne_of_lt hb)
    · rw [List.mem_singleton.mp hmem] at hb
      rw [hz] at hI
      exact absurd hb (Nat.not_lt.mpr (Nat.le_trans (Nat.le_succ _) hI))
  have hS₁ := k2 _ _ hD
  refine wpAny_bind (wpAny_holding (hint_set ⟨_, k2 _ _ hs1.1, rfl⟩ ?_))
  refine wpAny_ite_split (fun _ => ?_) (fun _ => wpAny_pure ⟨plainId_quiet PySem.F.plain_extend_loop _, key _ _ _ st (fun b o _ e => e) hS₁⟩)
  refine wpAny_bind (wpAny_rule ?_)
  refine wpAny_bind ?_
  show wpAny _ _ (updateSeq s.heap.objs.size (·.push .none) >>= fun _ => updateSeq s.heap.objs.size (·.pop)) _ _ _
  refine wpAny_bind (wpAny_updateSeq hS₁ rfl ?_)
  have hS₂ := Heap.get?_update_self (Obj.mapSeq (·.push Value.none)) hS₁ rfl
  refine wpAny_updateSeq (hz := by seq_fits) hS₂ rfl ?_
  have hS₃ := Heap.get?_update_self (Obj.mapSeq (·.pop)) hS₂ rfl
  refine wpAny_pure ⟨plainId_quiet PySem.F.plain_extend_loop _, key _ _ _ ?_ (fun b o hb e => ?_) hS₃⟩
  · refine W.frame 0 _ _ st fun b hb o e => ?_
    have hbS : b ≠ s.heap.objs.size := fun h => hDf (h ▸ hb)
    exact (Heap.get?_update_other _ _ (Ne.symm hbS)).trans ((Heap.get?_update_other _ _ (Ne.symm hbS)).trans e)
  · exact (Heap.get?_update_other _ _ (Ne.symm hb)).trans ((Heap.get?_update_other _ _ (Ne.symm hb)).trans e)
end
end Mine
set_option maxRecDepth 100000
set_option maxHeartbeats 4000000
namespace Mine
open PySem PySem.W PyProof.Rows

section
variable {prog : Program} {w : World} {A : Around} {E : Value → Shared → Prop} {s : Shared} {S : Addr} {es : Array (Int × Value)} {ep : Nat} {t : SetTable} {v1 v2 : Value}

theorem sorted_two {c1 c2 : Str} {t1 t2 : Tok} {Q : Value → Shared → Prop} (hh : A.handled = none) (hs : SetAt s.heap S es ep t) (hp : t.plain = false) (he : es.toList.map (·.2) = [.str c1 t1, .str c2 t2])
    (h : ∀ h' d tk D out e ss', s.heap.StaysIn h' → s.heap.get? D = none → h'.get? D = some (seqObj "list" out e) → StrsAre out.toList ss' → ss'.Perm [c1, c2] → sortedS ss' = true → Q (.ref D) { s with heap := h', drawn := d, toks := tk }) :
    wpAny (model prog w) A (call (.builtin "sorted") [.ref S]) Q E s := by
  refine Calls.call_function_entry kind_sorted plain_sorted entry_sorted (args_sorted1 _) ?_
  unfold Builtin.«sorted»
  refine wpAny_bind (m := checkCount "sorted" 1 1 _) (wpAny_pure ?_)
  refine wpAny_bind (collect_two (A := A.in1) hh hs hp he fun h1 d tk ord k1 ht => ?_)
  obtain ⟨ss, hS, hperm, hlen⟩ : ∃ ss, StrsAre ord ss ∧ ss.Perm [c1, c2] ∧ ord.length = 2 := by
    rcases ht with rfl | rfl
    · exact ⟨[c1, c2], .cons _ _ (.cons _ _ .nil), .refl _, rfl⟩
    · exact ⟨[c2, c1], .cons _ _ (.cons _ _ .nil), .swap _ _ _, rfl⟩
  refine wpAny_bind (wpAny_newList ?_ (by rw [hlen, sizeLine_eq]; omega))
  have hoL : (h1.push (seqObj "list" ord.toArray 0)).get? h1.objs.size = some (seqObj "list" ord.toArray 0) := Heap.get?_push_size _ rfl
  refine wpAny_bind (wpAny_holding (wpAny_call_entry slot_list_sort ⟨_, hoL, rfl⟩ entry_list_sort (list_sort_treeK strKind_oneLt hoL hS.keysOf (fun v₁ v₂ rest e => keyKind_strs (by rw [← e]; exact hS)) (by rw [hlen]; omega) fun st' a1 a2 => ⟨_, rfl, ?_⟩) (args_list_sort _)))
  obtain ⟨ss', b1, b2, b3⟩ := sorted_out_str hS a1 a2
  obtain ⟨e, hg⟩ := sortedHeap_at (out := (arrOf st').map (·.2)) hoL
  refine wpAny_pure ⟨_, rfl, h _ d tk h1.objs.size _ e ss' (fun b o q => ?_) ?_ hg b1 (b2.trans hperm) b3⟩
  · have q1 := k1 b o q
    have hlt := Heap.lt_size q1
    rw [sortedHeap_old (Nat.ne_of_lt hlt) (by rw [size_push']; exact Nat.lt_succ_of_lt hlt)]
    exact Heap.get?_push_of_some _ q1
  · cases q : s.heap.get? h1.objs.size with
    | none => rfl
    | some o => exact absurd (Heap.lt_size (k1 _ _ q)) (Nat.lt_irrefl _)
end

section
variable {X : Cx} {P P' : Heap} {F : Addr → Option Obj} {σ σ' : Led} {s s' : Shared} {h' : Heap} {env : Env} {m mc : List (Str × V)} {n : Nat} {Q : V → Led → Prop}

theorem RelC.drawn {d : Drawn} (R : RelC X P F σ s) : RelC X P F σ { s with drawn := d } := ⟨R.base, R.stays, R.fr, R.own, R.gens, R.os⟩
theorem RelC.drop {a : Addr} (R : RelC X P F σ s) : RelC X P F (σ.del a) s :=
  ⟨R.base, R.stays, fun b o e => let ⟨h1, h2, h3⟩ := R.fr b o e; ⟨h1, h2, by unfold Led.del; split <;> simp [h3]⟩, fun b o e => R.own b o (by unfold Led.del at e; split at e; (· cases e); exact e), R.gens, R.os⟩

theorem cl_setS {k1 k2 : Str} (hk : k1 ≠ k2) (h : ∀ a o, σ a = none → SetS o [k1, k2] → Q (.c (.ref a)) (σ.set a (.raw o))) : Cl X n (.type "set") [.d (.list [.str k1, .str k2])] σ Q := cl_one fun A ok P F s c R r => by
  obtain ⟨l, _, dd, vs, k, sl, as, rfl, e1, rfl, q1⟩ := vlist r
  obtain ⟨t1, t2, rfl⟩ : ∃ t1 t2, vs = #[.str k1 t1, .str k2 t2] := by
    obtain ⟨vs⟩ := vs
    cases q1 with | cons r1 q1 => cases q1 with | cons r2 q1 => cases r1; cases r2; cases q1; exact ⟨_, _, rfl⟩
  refine call_set_two ok.handled hk (R.stays _ _ e1) fun h' tk o ho hg hkp => ?_
  have hnew : s.heap.get? s.heap.objs.size = none := size_none _ (Nat.le_refl _)
  have fr := R.fresh hnew
  have hk2 : ∀ b q, ¬ b = s.heap.objs.size → s.heap.get? b = some q → h'.get? b = some q := fun b q _ e => hkp b q e
  refine ⟨_, .c (.ref s.heap.objs.size), σ.set s.heap.objs.size (.raw o), R.stays_next (W := fun b => b = s.heap.objs.size) hk2 (fun b e => e ▸ fr.1), .c _, R.move (W := fun b => b = s.heap.objs.size) hk2 (fun b e => e ▸ ⟨fr.1, fr.2.1⟩) (fun a q e => ?_), h _ o fr.2.2 ho⟩
  by_cases q' : a = s.heap.objs.size
  · subst q'
    rw [Led.set_self] at e; cases e
    exact .inr ⟨rfl, hg⟩
  · rw [Led.set_ne _ _ q'] at e; exact .inl ⟨q', e⟩

theorem reads_two {vs : List Value} {x y : Str} (h : StrsAre vs [x, y]) : ReadsAll P vs [.str x, .str y] [] := by
  cases h with | cons _ _ h => cases h with | cons _ _ h => cases h; exact .cons (as := []) (.str _ _) (.cons (as := []) (.str _ _) .nil)
theorem cl_sortedS {a : Addr} {o : Obj} {ss : List Str} (hσ : σ a = some (.raw o)) (ho : SetS o ss) (hs : ss = [Lf.x.name, Lf.y.name] ∨ ss = [Lf.y.name, Lf.x.name]) (h : Q (.d (.list [.str Lf.x.name, .str Lf.y.name])) (σ.del a)) : Cl X n (.builtin "sorted") [.c (.ref a)] σ Q := cl_one fun A ok P F s c R r => by
  cases r
  have hg : s.heap.get? a = some o := (R.own _ _ hσ).1
  obtain ⟨es, ep, t, rfl, hf, hp, es', he, hpm⟩ := ho
  have hp2 : (es'.map fun e => e.2.1).Perm [Lf.x.name, Lf.y.name] := by
    rcases hs with rfl | rfl
    · exact hpm
    · exact hpm.trans (.swap _ _ _)
  obtain ⟨e1, e2, rfl⟩ : ∃ e1 e2, es' = [e1, e2] := by
    have := hp2.length_eq
    match es', this with
    | [e1, e2], _ => exact ⟨e1, e2, rfl⟩
  refine sorted_two ok.handled ⟨hg, hf⟩ hp (by rw [he]; rfl) fun h' d tk D out e ss' hk hD hg' hS hpm' hst => ?_
  have hss : ss' = [Lf.x.name, Lf.y.name] := by
    have hq : ss'.Perm [Lf.x.name, Lf.y.name] := hpm'.trans hp2
    match ss', hq, hst with
    | [], hq, _ => have := hq.length_eq; simp at this
    | [_], hq, _ => have := hq.length_eq; simp at this
    | _ :: _ :: _ :: _, hq, _ => have := hq.length_eq; simp at this
    | [x, y], hq, hst =>
      have hx := hq.subset (show x ∈ [x, y] by simp)
      rcases List.mem_cons.mp hx with rfl | hx
      · have := List.perm_singleton.mp ((List.perm_cons _).mp hq); rw [this]
      · obtain rfl := List.mem_singleton.mp hx
        have := List.perm_singleton.mp ((List.perm_cons _).mp (hq.trans (.swap _ _ _)))
        rw [this] at hst
        exact absurd hst (by decide +kernel)
  subst hss
  obtain ⟨p1, R1⟩ := R.grow (tk := tk) hk
  have R2 := (R1.drawn (d := d)).drop (a := a)
  exact ⟨_, _, σ.del a, p1, .d (.list (nextP_get_new hD (fun x => x) hg') rfl rfl (reads_two hS)), R2, h⟩
end
end Mine
set_option maxRecDepth 100000
set_option maxHeartbeats 8000000
namespace Mine
open PySem PySem.W PyProof.Rows

section
variable {X : Cx} {P P' : Heap} {F : Addr → Option Obj} {σ σ' : Led} {s s' : Shared} {h' : Heap} {env : Env} {m mc : List (Str × V)} {n : Nat} {Q : V → Led → Prop}

theorem c_vars (a : At X) {t : Tm} (ht : t = pL ∨ t = pR) (hn : 20 ≤ n) (h : Q (.d (.list [.str Lf.x.name, .str Lf.y.name])) σ) : Cl X n (.ref 114) [.d t.enc] σ Q := by
  have hsz : t.sz = 3 := by rcases ht with rfl | rfl <;> rfl
  refine Cl_def (ps := [Str.ofString "t"]) (by walk_at "mdef1") rfl (by omega) fun L => ?_
  walk_at "ms"
  repeat walk_at "me"
  refine Ev_Comp [] [] (Capt.none rfl) (by decide) (by decide) rfl (by decide) ?_
  refine It_val ?_
  repeat walk_at "me"
  refine c_parts a t.sz t (Nat.le_refl _) (by omega) (by omega) (Iv_list ⟨by simp [partsP_len, hsz]; exact sl16 (by decide), fun C => ?_⟩)
  have e2 : (List.map encPart (partsP t)).map V.d = (partsP t).map fun q => V.d (encPart q) := by simp
  rw [e2]
  refine compL_gen (fun q => V.d (encPart q)) (fun q => if q.2.isVar then some (.str q.2.head) else none) (partsP t) [] (fun q hq K hK => As_Tuple (As_Name (.inl rfl) (As_Name (.inl rfl) ⟨trivial, Tests_one (Tr_val ?_)⟩))) ?_
  · repeat walk_at "me"
    refine c_isvar a (by omega) ⟨_, rfl, ?_⟩
    cases hv : q.2.isVar with
    | true =>
      rw [hv, if_pos rfl] at hK
      rw [if_pos rfl]
      show Ev X _ _ _ _ _ _
      repeat walk_at "me"
      have ev : q.2.enc = .tuple (.str q.2.head :: q.2.kids.map Tm.enc) := q.2.enc_eq
      have hk2 := kids_len q.2
      rw [ev]
      exact gi_tupI (i := 0) rfl rfl (by simp; omega) ⟨_, rfl, hK⟩
    | false =>
      rw [hv, if_neg (by decide)] at hK
      rw [if_neg (by decide)]
      exact hK
  · rw [List.nil_append]
    have e3 : ∃ ss, List.filterMap (fun q => if q.2.isVar = true then some (PyData.str q.2.head) else none) (partsP t) = ss.map PyData.str ∧ (ss = [Lf.x.name, Lf.y.name] ∨ ss = [Lf.y.name, Lf.x.name]) := by
      rcases ht with rfl | rfl
      · exact ⟨[Lf.x.name, Lf.y.name], rfl, .inl rfl⟩
      · exact ⟨[Lf.y.name, Lf.x.name], rfl, .inr rfl⟩
    obtain ⟨ss, e3, hss⟩ := e3
    rw [e3]
    have hxy : Lf.x.name ≠ Lf.y.name := by decide
    rcases hss with rfl | rfl
    · refine EvL_nil (cl_setS hxy fun a' o ha ho => EvL_nil (cl_sortedS (Led.set_self ..) ho (.inl rfl) ?_))
      rw [Led.del_set _ _ _ ha]
      exact h
    · refine EvL_nil (cl_setS hxy.symm fun a' o ha ho => EvL_nil (cl_sortedS (Led.set_self ..) ho (.inr rfl) ?_))
      rw [Led.del_set _ _ _ ha]
      exact h

/-! ## placed -/
theorem c_placedL (a : At X) {l : Lf} {u : Tm} {tb : List (Str × V)} (hv : l.isVar = true) (hl : tb.lookup l.name = some (.d u.enc)) (hn : 2 ≤ n) (h : Q (.d u.enc) σ) : Cl X n (.ref 119) [.d (Tm.leaf l).enc, .dct tb] σ Q := by
  refine Cl_def (ps := [Str.ofString "pattern", Str.ofString "table"]) (by walk_at "mdef2") rfl (by omega) fun L => ?_
  have e0 : (Tm.leaf l).isVar = true := hv
  walk_at "ms"
  repeat walk_at "me"
  refine Tr_val ?_
  repeat walk_at "me"
  refine c_isvar a (by omega) ⟨_, rfl, ?_⟩
  rw [e0, Bool.not_true, if_neg (by decide)]
  walk_at "ms"
  walk_at "ms"
  repeat walk_at "me"
  refine gi_tupI (ds := [.str l.name]) (i := 0) (d := .str l.name) rfl rfl (by simp) ?_
  repeat walk_at "me"
  refine op_notInD ⟨_, rfl, ?_⟩
  rw [hl, Option.isSome_some, Bool.not_true, if_neg (by decide)]
  walk_at "ms"
  walk_at "ms"
  repeat walk_at "me"
  refine gi_tupI (ds := [.str l.name]) (i := 0) (d := .str l.name) rfl rfl (by simp) ?_
  exact gi_dct hl h
theorem c_placedG (a : At X) {l1 l2 : Lf} {u1 u2 : Tm} {tb : List (Str × V)} (hv1 : l1.isVar = true) (hv2 : l2.isVar = true) (hl1 : tb.lookup l1.name = some (.d u1.enc)) (hl2 : tb.lookup l2.name = some (.d u2.enc)) (hn : 4 ≤ n) (h : Q (.d (Tm.g u1 u2).enc) σ) :
    Cl X n (.ref 119) [.d (Tm.g (.leaf l1) (.leaf l2)).enc, .dct tb] σ Q := by
  refine Cl_def (ps := [Str.ofString "pattern", Str.ofString "table"]) (by walk_at "mdef2") rfl (by omega) fun L => ?_
  have e0 : (Tm.g (.leaf l1) (.leaf l2)).isVar = false := rfl
  walk_at "ms"
  repeat walk_at "me"
  refine Tr_val ?_
  repeat walk_at "me"
  refine c_isvar a (by omega) ⟨_, rfl, ?_⟩
  rw [e0, Bool.not_false, if_pos rfl]
  walk_at "ms"
  repeat walk_at "me"
  refine gi_tupI (ds := [.str (Str.ofString "g"), (Tm.leaf l1).enc, (Tm.leaf l2).enc]) (i := 0) rfl rfl (by simp) ?_
  refine EvL_nil ⟨[.str (Str.ofString "g")], rfl, sl16 (by simp), ?_⟩
  repeat walk_at "me"
  refine Ev_Comp [(Str.ofString "table", L + 1)] [(Str.ofString "table", .dct tb)] (Capt.one rfl rfl rfl rfl rfl) (by decide) (by decide) rfl (by decide) ?_
  refine It_val ?_
  repeat walk_at "me"
  refine ⟨1, rfl, ?_⟩
  repeat walk_at "me"
  refine sl_dropT (ds := [.str (Str.ofString "g"), (Tm.leaf l1).enc, (Tm.leaf l2).enc]) (b := 1) (Nat.le_refl _) (by simp) (sl16 (by simp)) (Iv_tuple ⟨sl16 (by simp), fun C => ?_⟩)
  refine compL_gen (fun (q : Lf × Tm) => V.d (Tm.leaf q.1).enc) (fun q => some q.2.enc) [(l1, u1), (l2, u2)] [] (fun q hq K hK => As_Name (.inl rfl) ⟨⟨rfl, trivial⟩, ?_⟩) ?_
  · show Ev X _ _ _ _ _ _
    have hq' : q.1.isVar = true ∧ tb.lookup q.1.name = some (.d q.2.enc) := by
      rcases List.mem_cons.mp hq with rfl | hq
      · exact ⟨hv1, hl1⟩
      · rw [List.mem_singleton.mp hq]; exact ⟨hv2, hl2⟩
    repeat walk_at "me"
    exact c_placedL a hq'.1 hq'.2 (by omega) ⟨_, rfl, hK⟩
  · refine EvL_nil (tuple_listD (sl16 (by simp)) ?_)
    exact op_addT (sl16 (by simp)) h
end
end Mine
set_option maxRecDepth 100000
set_option maxHeartbeats 8000000
namespace Mine
open PySem PySem.W PyProof.Rows

section
variable {X : Cx} {P P' : Heap} {F : Addr → Option Obj} {σ σ' : Led} {s s' : Shared} {h' : Heap} {env : Env} {m mc : List (Str × V)} {n : Nat} {Q : V → Led → Prop}

theorem lay_xy : (PyData.list [.str Lf.x.name, .str Lf.y.name]).canLay0 = true := by kernel_rfl

theorem c_rulesides (a : At X) {x y : Tm} {k : Nat} (hn : 25 ≤ n) (h : Q (.d (.tuple [(Tm.g x y).enc, (Tm.g y x).enc])) σ) : Cl X n (.ref 202) [judgeV, .d (.str (Str.ofString "r")), .d (encPl [(false, x), (true, y)]), .d (.int (k : Int))] σ Q := by
  refine Cl_def (ps := [Str.ofString "self", Str.ofString "name", Str.ofString "places", Str.ofString "place"]) (by walk_at "mdef4") rfl (by omega) fun L => ?_
  walk_at "ms"
  repeat walk_at "me"
  refine Ev_Attr ?_
  repeat walk_at "me"
  refine at_rules a (op_notInD ⟨_, rfl, ?_⟩)
  rw [if_neg (by decide)]
  walk_at "ms"
  walk_at "ms"
  repeat walk_at "me"
  refine Ev_Attr ?_
  repeat walk_at "me"
  refine at_rules a ?_
  repeat walk_at "me"
  refine gi_dct (v := ruleV) rfl ?_
  walk_at "ms"
  repeat walk_at "me"
  refine Ev_Comp [] [] (Capt.none rfl) (by decide) (by decide) rfl (by decide) ?_
  refine It_val ?_
  repeat walk_at "me"
  refine Iv_tuple (ds := [.tuple [.str Lf.x.name, x.enc], .tuple [.str Lf.y.name, y.enc]]) ⟨sl16 (by simp), fun C => ?_⟩
  refine compL_gen (fun (q : Str × Tm) => V.d (.tuple [.str q.1, q.2.enc])) (fun q => some (.str q.1)) [(Lf.x.name, x), (Lf.y.name, y)] [] (fun q hq K hK => As_Tuple (As_Name (.inl rfl) (As_Name (.inl rfl) ⟨trivial, ?_⟩))) ?_
  · show Ev X _ _ _ _ _ _
    walk_at "me"
    exact ⟨_, rfl, hK⟩
  repeat walk_at "me"
  refine Ev_Attr ?_
  repeat walk_at "me"
  refine at_left a (EvL_nil (c_vars a (.inl rfl) (by omega) ?_))
  refine op_ne lay_xy lay_xy (by simp [PyData.depth, PyData.depthAll]) ⟨_, rfl, ?_⟩
  have e1 : PyData.eqv (.list ([] ++ List.filterMap (fun (q : Str × Tm) => some (PyData.str q.1)) [(Lf.x.name, x), (Lf.y.name, y)])) (.list [.str Lf.x.name, .str Lf.y.name]) = true := by kernel_rfl
  rw [e1, Bool.not_true, if_neg (by decide)]
  walk_at "ms"
  refine Ex_cons (Ex_Try ?_)
  walk_at "ms"
  repeat walk_at "me"
  refine Ev_Attr ?_
  repeat walk_at "me"
  refine at_left a ?_
  repeat walk_at "me"
  refine cl_dictP ?_
  repeat walk_at "me"
  refine c_placedG a (u1 := x) (u2 := y) rfl rfl rfl rfl (by omega) ?_
  repeat walk_at "me"
  refine Ev_Attr ?_
  repeat walk_at "me"
  refine at_right a ?_
  repeat walk_at "me"
  refine cl_dictP ?_
  repeat walk_at "me"
  refine c_placedG a (u1 := y) (u2 := x) rfl rfl rfl rfl (by omega) ?_
  exact EvL_nil ⟨[(Tm.g x y).enc, (Tm.g y x).enc], rfl, sl16 (by simp), h⟩

/-! ## Steps -/
theorem c_sides (a : At X) {s : Sp} {p : List Nat} {l r : Tm} {k : Nat} (hs : sidesP s = some (p, l, r)) (hn : 30 ≤ n) (h : Q (.d (.tuple [l.enc, r.enc])) σ) : Cl X n (.ref 268) [stepsV, .d (encS s), .d (.int (k : Int))] σ Q := by
  obtain ⟨c, b⟩ := s
  refine Cl_def (ps := [Str.ofString "self", Str.ofString "step", Str.ofString "number"]) (by walk_at "mdef3") rfl (by omega) fun L => ?_
  cases c with
  | told q lb =>
    simp only [sidesP, Option.some.injEq, Prod.mk.injEq] at hs
    obtain ⟨rfl, rfl, rfl⟩ := hs
    have es : ∀ i : Nat, i < 5 → ∀ d, [encP q, PyData.str (Str.ofString "told"), .str (labelName lb), .tuple [], .bool b][i]? = some d → ∀ {Q : V → Led → Prop} {σ : Led}, Q (.d d) σ → Gi X (n - 1) (.d (encS (.told q lb, b))) (.d (.int (i : Int))) σ Q := fun i hi d hd Q σ hq =>
      gi_tupI (ds := [encP q, PyData.str (Str.ofString "told"), .str (labelName lb), .tuple [], .bool b]) (i := i) rfl hd (by simp) hq
    walk_at "ms"
    repeat walk_at "me"
    refine es 1 (by decide) _ rfl ?_
    repeat walk_at "me"
    refine op_eqs (by kernel_rfl) (by kernel_rfl) ⟨_, rfl, ?_⟩
    rw [decide_eq_true rfl, if_pos rfl]
    repeat walk_at "me"
    refine es 3 (by decide) _ rfl ?_
    repeat walk_at "me"
    refine ⟨[], rfl, sl16 (by simp), op_eq rfl rfl (by decide) ⟨_, rfl, ?_⟩⟩
    rw [if_pos (by rfl)]
    walk_at "me"
    rw [if_pos rfl]
    walk_at "ms"
    refine Ev_CallM rfl ?_
    refine Ev_Attr ?_
    repeat walk_at "me"
    refine at_judge a ⟨_, mt_told a, a.fn (by kernel_rfl), ?_⟩
    repeat walk_at "me"
    refine es 2 (by decide) _ rfl ?_
    repeat walk_at "me"
    refine c_toldsides a (by omega) ?_
    walk_at "ms"
    walk_at "ms"
    repeat walk_at "me"
    refine Tr_val ?_
    repeat walk_at "me"
    refine es 4 (by decide) _ rfl ⟨b, rfl, ?_⟩
    cases b with
    | false =>
      rw [if_neg (by decide)]
      repeat walk_at "me"
      exact h
    | true =>
      rw [if_pos rfl]
      repeat walk_at "me"
      refine gi_tupI (i := 1) rfl rfl (by simp) ?_
      repeat walk_at "me"
      refine gi_tupI (i := 0) rfl rfl (by simp) ?_
      exact EvL_nil ⟨[(toldB lb).enc, (toldA lb).enc], rfl, sl16 (by simp), h⟩
  | rule q pl =>
    match pl, hs with
    | [(false, x), (true, y)], hs =>
    simp only [sidesP, Option.some.injEq, Prod.mk.injEq] at hs
    obtain ⟨rfl, rfl, rfl⟩ := hs
    have es : ∀ i : Nat, i < 5 → ∀ d, [encP q, PyData.str (Str.ofString "rule"), .str (Str.ofString "r"), encPl [(false, x), (true, y)], .bool b][i]? = some d → ∀ {Q : V → Led → Prop} {σ : Led}, Q (.d d) σ → Gi X (n - 1) (.d (encS (.rule q [(false, x), (true, y)], b))) (.d (.int (i : Int))) σ Q := fun i hi d hd Q σ hq =>
      gi_tupI (ds := [encP q, PyData.str (Str.ofString "rule"), .str (Str.ofString "r"), encPl [(false, x), (true, y)], .bool b]) (i := i) rfl hd (by simp) hq
    walk_at "ms"
    repeat walk_at "me"
    refine es 1 (by decide) _ rfl ?_
    repeat walk_at "me"
    refine op_eqs (by kernel_rfl) (by kernel_rfl) ⟨_, rfl, ?_⟩
    rw [decide_eq_false (by decide), if_neg (by decide), if_neg (by decide)]
    walk_at "ms"
    repeat walk_at "me"
    refine es 1 (by decide) _ rfl ?_
    repeat walk_at "me"
    refine op_eqs (by kernel_rfl) (by kernel_rfl) ⟨_, rfl, ?_⟩
    rw [decide_eq_true rfl, if_pos rfl]
    walk_at "ms"
    refine Ev_CallM rfl ?_
    refine Ev_Attr ?_
    repeat walk_at "me"
    refine at_judge a ⟨_, mt_rule a, a.fn (by kernel_rfl), ?_⟩
    repeat walk_at "me"
    refine es 2 (by decide) _ rfl ?_
    repeat walk_at "me"
    refine es 3 (by decide) _ rfl ?_
    repeat walk_at "me"
    refine c_rulesides a (by omega) ?_
    walk_at "ms"
    walk_at "ms"
    walk_at "ms"
    repeat walk_at "me"
    refine Tr_val ?_
    repeat walk_at "me"
    refine es 4 (by decide) _ rfl ⟨b, rfl, ?_⟩
    cases b with
    | false =>
      rw [if_neg (by decide)]
      repeat walk_at "me"
      exact h
    | true =>
      rw [if_pos rfl]
      repeat walk_at "me"
      refine gi_tupI (i := 1) rfl rfl (by simp) ?_
      repeat walk_at "me"
      refine gi_tupI (i := 0) rfl rfl (by simp) ?_
      exact EvL_nil ⟨[(Tm.g y x).enc, (Tm.g x y).enc], rfl, sl16 (by simp), h⟩
end
end Mine
set_option maxRecDepth 100000
set_option maxHeartbeats 8000000
namespace Mine
open PySem PySem.W PyProof.Rows

section
variable {X : Cx} {P P' : Heap} {F : Addr → Option Obj} {σ σ' : Led} {s s' : Shared} {h' : Heap} {env : Env} {m mc : List (Str × V)} {n : Nat} {Q : V → Led → Prop}

theorem op_notInT {x : PyData} {xs : List PyData} (ha : x.canLay0 = true) (hb : PyData.canLayAll0 xs = true) (hd : x.depth ≤ 64) (h : Q (.d (.bool (!xs.any fun y => PyData.eqv y x))) σ) : Op2 X n (compareOp .NotIn) (.d x) (.d (.tuple xs)) σ Q := fun A ok P F s c1 c2 R r1 r2 => by
  cases r1 with | d r1 => cases r2 with | d r2 =>
    exact PySem.SeqAt.notIn_tuple_reads (Reads.keeps R.stays r2).lib (Reads.keeps R.stays r1).lib hb ha (by have := ok.line65; omega) (PostO.intro R (.d (.bool _)) h)

theorem partAt_lt : ∀ (p : List Nat) {t v : Tm}, partAt t p = some v → p.length < t.sz
  | [], t, v, h => by cases t <;> simp [Tm.sz] <;> omega
  | k :: p, t, v, h => by
    unfold partAt at h
    cases hk : t.kids[k]? with
    | none => rw [hk] at h; cases h
    | some w =>
      rw [hk] at h
      have := partAt_lt p h
      have := kid_sz hk
      simp; omega
theorem sides_path {s : Sp} {p : List Nat} {l r : Tm} (h : sidesP s = some (p, l, r)) : (s.1.enc ++ [PyData.bool s.2])[0]? = some (encP p) := by
  obtain ⟨c, b⟩ := s
  unfold sidesP at h
  cases c with
  | told q k => simp at h; obtain ⟨rfl, _⟩ := h; rfl
  | rule q pl => match pl, h with | [(false, x), (true, y)], h => simp at h; obtain ⟨rfl, _⟩ := h; rfl

theorem c_stepped (a : At X) {u v : Tm} {s : Sp} {k : Nat} (hu : u.sz ≤ 40) (hs : stepT u s = some v) (hn : 60 ≤ n) (h : Q (.d v.enc) σ) : Cl X n (.ref 275) [stepsV, .d u.enc, .d (encS s), .d (.int (k : Int))] σ Q := by
  unfold stepT at hs
  cases hsd : sidesP s with
  | none => rw [hsd] at hs; cases hs
  | some q =>
  obtain ⟨p, l, r⟩ := q
  rw [hsd] at hs
  dsimp only at hs
  split at hs
  · rename_i hp
    cases hs
    have hpl := partAt_lt p hp
    have hll := part_le p hp
    have g0 : ∀ {Q : V → Led → Prop} {σ : Led}, Q (.d (encP p)) σ → Gi X (n - 1) (.d (encS s)) (.d (.int 0)) σ Q := fun {Q σ} hq =>
      gi_tupI (ds := s.1.enc ++ [.bool s.2]) (i := 0) rfl (sides_path hsd) (by rw [s_len]; decide) hq
    refine Cl_def (ps := [Str.ofString "self", Str.ofString "term", Str.ofString "step", Str.ofString "number"]) (by walk_at "mdef4") rfl (by omega) fun L => ?_
    refine Ex_cons (Ex_AssignT ?_)
    refine Ev_CallM rfl ?_
    walk_at "me"
    refine ⟨_, mt_sides a, a.fn (by kernel_rfl), ?_⟩
    repeat walk_at "me"
    refine c_sides a hsd (by omega) ?_
    refine As_Tuple (ds := [l.enc, r.enc]) (As_Name (.inl rfl) (As_Name (.inl rfl) ?_))
    refine Ex_cons (Ex_Try ?_)
    walk_at "ms"
    repeat walk_at "me"
    refine g0 ?_
    repeat walk_at "me"
    refine c_partat a hp (by omega) (by omega) ?_
    repeat walk_at "me"
    refine op_ne (lay_enc l) (lay_enc l) (by have := depth_enc l; omega) ⟨_, rfl, ?_⟩
    rw [eqv_enc, decide_eq_true rfl, Bool.not_true, if_neg (by decide)]
    walk_at "ms"
    walk_at "ms"
    repeat walk_at "me"
    refine g0 ?_
    repeat walk_at "me"
    exact c_repl a p u hp (by omega) (by omega) h
  · cases hs

theorem enumV_map {α : Type} {f : α → PyData} : ∀ (l : List α) (i : Nat), enumV i (l.map f) = (l.zipIdx i).map fun q => V.pr (.int (q.2 : Int)) (f q.1)
  | [], i => rfl
  | x :: l, i => by simp [enumV, enumV_map l]

theorem c_swalk (a : At X) {t : Tm} {row : List Sp} {vs : List Tm} (hr : RunF t row vs) (hz : ∀ x ∈ t :: vs, x.sz ≤ 40) (hl : row.length ≤ 100) (hn : 70 ≤ n) (h : Q (.d (.list ((t :: vs).map Tm.enc))) σ) :
    Cl X n (.ref 282) [stepsV, .d t.enc, .d (.list (row.map encS))] σ Q := by
  refine Cl_def (ps := [Str.ofString "self", Str.ofString "term", Str.ofString "steps"]) (by walk_at "mdef3") rfl (by omega) fun L => ?_
  walk_at "ms"
  refine Ev_ListM rfl ?_
  repeat walk_at "me"
  refine ⟨[t.enc], rfl, sl16 (by simp), fun fa hfa => ?_⟩
  refine Ex_cons (For_rule ?_)
  walk_at "me"
  repeat walk_at "me"
  refine ci_enumL ?_
  rw [enumV_map]
  have hvl := hr.len
  refine Loop_inv (fun (q : Sp × Nat) => V.pr (.int (q.2 : Int)) (encS q.1)) (fun r σ1 => ∃ done rest, σ1 = σ.set fa (.lst ((t :: done).map Tm.enc)) ∧ done ++ rest = vs ∧ RunF (endOf t done) (r.map (·.1)) rest)
    [(Str.ofString "found", .c (.ref fa)), (Str.ofString "self", stepsV)] ?_ ?_ (row.zipIdx 0) _ _ ?_ ⟨[], vs, rfl, rfl, by simpa [endOf] using hr⟩
  · rintro ⟨sp, k⟩ r σ1 m1 ⟨done, rest, rfl, h2, h3⟩ hm
    simp only [List.map_cons] at h3
    cases h3 with
    | @cons _ _ v _ rs hst hR =>
      have hdl : done.length + (v :: rs).length = row.length := by rw [← hvl, ← h2]; simp
      have hE := hz _ (by
        have := endOf_mem t done
        rw [← h2, ← List.cons_append]; exact List.mem_append_left _ this : endOf t done ∈ t :: vs)
      refine As_Pair (As_Name (.inl rfl) (As_Name (.inl rfl) ?_))
      refine Ex_sub [(Str.ofString "step", .d (encS sp)), (Str.ofString "number", .d (.int (k : Int))), (Str.ofString "found", .c (.ref fa)), (Str.ofString "self", stepsV)] ⟨by rw [lookup_c, if_pos rfl], by rw [lookup_c, if_neg (by decide), lookup_c, if_pos rfl], subL_cons (subL_cons hm rfl) rfl⟩ ?_
      have hσ : (σ.set fa (.lst ((t :: done).map Tm.enc))) fa = some (.lst ((t :: done).map Tm.enc)) := Led.set_self ..
      refine r_append rfl (by decide) rfl rfl rfl rfl hσ ?_
      refine Ev_CallM rfl ?_
      walk_at "me"
      refine ⟨_, mt_stepped a, a.fn (by kernel_rfl), ?_⟩
      repeat walk_at "me"
      refine gi_mutN (i := done.length) (d := (endOf t done).enc) hσ (by decide) (by simp; omega) (by rw [List.getElem?_map, endOf_get]; rfl) (by decide) ?_
      repeat walk_at "me"
      refine c_stepped a hE hst (by omega) ?_
      refine ⟨v.enc, _, rfl, hσ, sl16 (by simp at hdl ⊢; omega), ?_⟩
      walk_at "ms"
      rw [Led.set_set]
      refine ⟨⟨rfl, rfl, trivial⟩, done ++ [v], rs, by simp, by rw [← h2]; simp, by rw [endOf_snoc]; exact hR⟩
  · rintro m1 σ1 hm ⟨done, rest, rfl, h2, h3⟩
    have h4 : rest = [] := by
      have := h3.len
      simpa using this
    subst h4
    rw [List.append_nil] at h2
    subst h2
    refine Ex_sub [(Str.ofString "found", .c (.ref fa))] ⟨hm.1, trivial⟩ ?_
    refine Ex_freeze (a := fa) (ds := (t :: done).map Tm.enc) (Led.set_self ..) ?_
    rw [Led.del_set _ _ _ hfa]
    have e4 : frz fa (.d (.list ((t :: done).map Tm.enc))) [(Str.ofString "found", .c (.ref fa))] = [(Str.ofString "found", .d (.list ((t :: done).map Tm.enc)))] := by simp [frz]
    rw [e4]
    walk_at "ms"
    walk_at "me"
    exact h
  · exact ⟨rfl, rfl, trivial⟩
end
end Mine
set_option maxRecDepth 100000
set_option maxHeartbeats 8000000
namespace Mine
open PySem PySem.W PyProof.Rows

section
variable {X : Cx} {P P' : Heap} {F : Addr → Option Obj} {σ σ' : Led} {s s' : Shared} {h' : Heap} {env : Env} {m mc : List (Str × V)} {n : Nat} {Q : V → Led → Prop}

theorem k_Plain (a : At X) {C : Addr} (e1 : findIn (hd.heap_39 X.w.params) (.ref C) "__setattr__" = some (some (.builtin "object.__setattr__"))) (e2 : plainOver (hd.heap_39 X.w.params) C = true) (e3 : hasDictIn (hd.heap_39 X.w.params) C = true) (e4 : plainGet (hd.heap_39 X.w.params) C "" = true) : Plain X.K C :=
  ⟨by rw [a.K]; exact e1, by rw [a.K]; exact e2, by rw [a.K]; exact e3, by rw [a.K]; exact e4⟩
theorem k_taker (a : At X) {C : Addr} {x : Str} (e : takerIn (hd.heap_39 X.w.params) C x = some none) : takerIn X.K C x = some none := by rw [a.K]; exact e
theorem k_makes (a : At X) {C : Addr} (e : makesIn (hd.heap_39 X.w.params) C = true) : makesIn X.K C = true := by rw [a.K]; exact e
theorem p_Judge (a : At X) : Plain X.K 222 := k_Plain a (by kernel_rfl) (by kernel_rfl) (by kernel_rfl) (by kernel_rfl)
theorem p_Steps (a : At X) : Plain X.K 292 := k_Plain a (by kernel_rfl) (by kernel_rfl) (by kernel_rfl) (by kernel_rfl)
theorem p_Rule (a : At X) : Plain X.K 318 := k_Plain a (by kernel_rfl) (by kernel_rfl) (by kernel_rfl) (by kernel_rfl)

theorem led_back {x dx : Addr} {o o' : MO} (hx : σ x = none) (hd : σ dx = none) (hne : x ≠ dx) {τ : Led} (ht : ∀ b, b ≠ x → b ≠ dx → τ b = σ b) : (τ.del dx).del x = σ := by
  funext b
  by_cases q1 : b = x
  · subst q1; simp [Led.del, hx]
  · by_cases q2 : b = dx
    · subst q2; simp [Led.del, hd]
    · simp [Led.del, q1, q2, ht b q1 q2]

theorem c_Judge (a : At X) (hn : 3 ≤ n) (h : Q judgeV σ) : Cl X n (.ref 222) [.dct rulesV, .dct toldV] σ Q := by
  obtain ⟨k, rfl⟩ : ∃ k, n = k + 1 := ⟨n - 1, by omega⟩
  refine Cl_new (fI := 190) (k_makes a (by kernel_rfl)) (k_find a (by kernel_rfl)) (k_type a (by kernel_rfl)) fun x dx hx hdx hne => ?_
  refine Ck_def (ps := [Str.ofString "self", Str.ofString "rules", Str.ofString "told"]) (by walk_at "mdef3") rfl (by omega) fun L => ?_
  have h0 : ((σ.set dx (.dct [])).set x (.raw (instObj 222 dx))) x = some (.raw (instObj 222 dx)) := Led.set_self ..
  have h1 : ((σ.set dx (.dct [])).set x (.raw (instObj 222 dx))) dx = some (.dct []) := by rw [Led.set_ne _ _ hne.symm, Led.set_self]
  refine Ex_cons (Ex_AssignAttr (C := 222) (x := x) (dx := dx) (p_Judge a) (k_taker a (by kernel_rfl)) ?_)
  repeat walk_at "me"
  refine ⟨rfl, [], h0, h1, rfl, by simp, ?_⟩
  refine Ex_cons (Ex_AssignAttr (C := 222) (x := x) (dx := dx) (p_Judge a) (k_taker a (by kernel_rfl)) ?_)
  repeat walk_at "me"
  refine ⟨rfl, _, by rw [Led.set_ne _ _ hne]; exact h0, Led.set_self .., rfl, by simp, ?_⟩
  walk_at "ms"
  refine ⟨rfl, _, by rw [Led.set_ne _ _ hne, Led.set_ne _ _ hne]; exact h0, Led.set_self .., ?_⟩
  rw [led_back (o := .dct []) (o' := .dct []) hx hdx hne fun b q1 q2 => by rw [Led.set_ne _ _ q2, Led.set_ne _ _ q2, Led.set_ne _ _ q1, Led.set_ne _ _ q2]]
  exact h
theorem c_Steps (a : At X) (hn : 3 ≤ n) (h : Q stepsV σ) : Cl X n (.ref 292) [judgeV] σ Q := by
  obtain ⟨k, rfl⟩ : ∃ k, n = k + 1 := ⟨n - 1, by omega⟩
  refine Cl_new (fI := 254) (k_makes a (by kernel_rfl)) (k_find a (by kernel_rfl)) (k_type a (by kernel_rfl)) fun x dx hx hdx hne => ?_
  refine Ck_def (ps := [Str.ofString "self", Str.ofString "judge"]) (by walk_at "mdef2") rfl (by omega) fun L => ?_
  have h0 : ((σ.set dx (.dct [])).set x (.raw (instObj 292 dx))) x = some (.raw (instObj 292 dx)) := Led.set_self ..
  have h1 : ((σ.set dx (.dct [])).set x (.raw (instObj 292 dx))) dx = some (.dct []) := by rw [Led.set_ne _ _ hne.symm, Led.set_self]
  refine Ex_cons (Ex_AssignAttr (C := 292) (x := x) (dx := dx) (p_Steps a) (k_taker a (by kernel_rfl)) ?_)
  repeat walk_at "me"
  refine ⟨rfl, [], h0, h1, rfl, by simp, ?_⟩
  walk_at "ms"
  refine ⟨rfl, _, by rw [Led.set_ne _ _ hne]; exact h0, Led.set_self .., ?_⟩
  rw [led_back (o := .dct []) (o' := .dct []) hx hdx hne fun b q1 q2 => by rw [Led.set_ne _ _ q2, Led.set_ne _ _ q1, Led.set_ne _ _ q2]]
  exact h

theorem c_Rule (a : At X) (hn : 40 ≤ n) (h : Q ruleV σ) : Cl X n (.ref 318) [.d (.str (Str.ofString "r")), .d pL.enc, .d pR.enc, .d (.tuple [])] σ Q := by
  obtain ⟨k, rfl⟩ : ∃ k, n = k + 1 := ⟨n - 1, by omega⟩
  refine Cl_new (fI := 308) (k_makes a (by kernel_rfl)) (k_find a (by kernel_rfl)) (k_type a (by kernel_rfl)) fun x dx hx hdx hne => ?_
  refine Ck_def (ps := [Str.ofString "self", Str.ofString "name", Str.ofString "left", Str.ofString "right", Str.ofString "needs"]) (by walk_at "mdef5") rfl (by omega) fun L => ?_
  have h0 : ((σ.set dx (.dct [])).set x (.raw (instObj 318 dx))) x = some (.raw (instObj 318 dx)) := Led.set_self ..
  have h1 : ((σ.set dx (.dct [])).set x (.raw (instObj 318 dx))) dx = some (.dct []) := by rw [Led.set_ne _ _ hne.symm, Led.set_self]
  have e0 : pL.isVar = false := rfl
  walk_at "ms"
  refine Tr_val ?_
  repeat walk_at "me"
  refine c_isvar a (by omega) ⟨_, rfl, ?_⟩
  rw [e0, if_neg (by decide)]
  walk_at "ms"
  walk_at "ms"
  repeat walk_at "me"
  refine c_vars a (.inl rfl) (by omega) ?_
  walk_at "ms"
  repeat walk_at "me"
  refine Ev_List rfl ?_
  repeat walk_at "me"
  refine ⟨[.str (Str.ofString "alike"), pR.enc, pR.enc], rfl, sl16 (by simp), EvL_nil ⟨[.tuple [.str (Str.ofString "alike"), pR.enc, pR.enc]], rfl, sl16 (by simp), ?_⟩⟩
  repeat walk_at "me"
  refine list_tupleD (sl16 (by simp)) (op_addL (sl16 (by simp)) ?_)
  refine Ex_sub [(Str.ofString "known", .d (.list [.str Lf.x.name, .str Lf.y.name])), (Str.ofString "asked", .d (.list [.tuple [.str (Str.ofString "alike"), pR.enc, pR.enc]])), (Str.ofString "self", .c (.ref x)), (Str.ofString "name", .d (.str (Str.ofString "r"))), (Str.ofString "left", .d pL.enc), (Str.ofString "right", .d pR.enc), (Str.ofString "needs", .d (.tuple []))]
    ⟨rfl, rfl, rfl, rfl, rfl, rfl, rfl, trivial⟩ ?_
  refine Ex_cons (For_rule (It_val ?_))
  repeat walk_at "me"
  refine Iv_list ?_
  refine Loop_inv (fun (_ : Unit) => V.d (.tuple [.str (Str.ofString "alike"), pR.enc, pR.enc])) (fun r σ1 => σ1 = (σ.set dx (.dct [])).set x (.raw (instObj 318 dx)))
    [(Str.ofString "known", .d (.list [.str Lf.x.name, .str Lf.y.name])), (Str.ofString "self", .c (.ref x)), (Str.ofString "name", .d (.str (Str.ofString "r"))), (Str.ofString "left", .d pL.enc), (Str.ofString "right", .d pR.enc), (Str.ofString "needs", .d (.tuple []))] ?_ ?_ [()] _ _ ?_ rfl
  · rintro _ r σ1 m1 rfl hm
    refine As_Tuple (As_Name (.inl rfl) (As_Name (.inl rfl) (As_Name (.inl rfl) ?_)))
    refine Ex_sub [(Str.ofString "other", .d pR.enc), (Str.ofString "one", .d pR.enc), (Str.ofString "kind", .d (.str (Str.ofString "alike"))), (Str.ofString "known", .d (.list [.str Lf.x.name, .str Lf.y.name])), (Str.ofString "self", .c (.ref x)), (Str.ofString "name", .d (.str (Str.ofString "r"))), (Str.ofString "left", .d pL.enc), (Str.ofString "right", .d pR.enc), (Str.ofString "needs", .d (.tuple []))]
      ⟨by rw [lookup_c, if_pos rfl], by rw [lookup_c, if_neg (by decide), lookup_c, if_pos rfl], by rw [lookup_c, if_neg (by decide), lookup_c, if_neg (by decide), lookup_c, if_pos rfl], subL_cons (subL_cons (subL_cons hm rfl) rfl) rfl⟩ ?_
    walk_at "ms"
    repeat walk_at "me"
    refine ⟨[.str (Str.ofString "alike"), .str (Str.ofString "unlike")], rfl, sl16 (by simp), op_notInT (by kernel_rfl) (by kernel_rfl) (by simp [PyData.depth]) ⟨_, rfl, ?_⟩⟩
    have e1 : (!([PyData.str (Str.ofString "alike"), .str (Str.ofString "unlike")].any fun y => PyData.eqv y (.str (Str.ofString "alike")))) = false := by kernel_rfl
    rw [e1, if_neg (by decide)]
    walk_at "ms"
    refine Ex_cons (Ex_AssignComp [(Str.ofString "known", L + 1)] [(Str.ofString "known", .d (.list [.str Lf.x.name, .str Lf.y.name]))] (.inl rfl) (Capt.one rfl rfl rfl rfl rfl) (by decide) (by decide) rfl (by decide) rfl ?_)
    refine It_val ?_
    repeat walk_at "me"
    refine c_vars a (.inr rfl) (by omega) ?_
    repeat walk_at "me"
    refine c_vars a (.inr rfl) (by omega) ?_
    refine op_addL (sl16 (by simp)) (Iv_list ⟨sl16 (by simp), fun C => ?_⟩)
    refine compL_gen (fun (q : Lf) => V.d (.str q.name)) (fun q => none) [.x, .y, .x, .y] [] (fun q hq K hK => As_Name (.inl rfl) ⟨⟨rfl, trivial⟩, Tests_one ?_⟩) ?_
    · repeat walk_at "me"
      refine op_notIn (lay_name q) (by kernel_rfl) (by simp [PyData.depth]) ⟨_, rfl, ?_⟩
      have e2 : (!([PyData.str Lf.x.name, .str Lf.y.name].any fun y => PyData.eqv y (.str q.name))) = false := by
        simp only [List.mem_cons, List.not_mem_nil, or_false] at hq
        rcases hq with rfl | rfl | rfl | rfl <;> kernel_rfl
      rw [e2, if_neg (by decide)]
      exact hK
    · walk_at "ms"
      repeat walk_at "me"
      refine Ev_List rfl (EvL_nil ⟨[], rfl, sl16 (by simp), ?_⟩)
      refine op_ne rfl rfl (by simp [PyData.depth, PyData.depthAll]) ⟨_, rfl, ?_⟩
      rw [if_neg (by decide)]
      walk_at "ms"
      walk_at "ms"
      exact ⟨⟨rfl, rfl, rfl, rfl, rfl, rfl, trivial⟩, rfl⟩
  · rintro m1 σ1 hm rfl
    refine Ex_sub _ hm ?_
    refine Ex_cons (Ex_AssignAttr (C := 318) (x := x) (dx := dx) (p_Rule a) (k_taker a (by kernel_rfl)) ?_)
    repeat walk_at "me"
    refine ⟨rfl, [], h0, h1, rfl, by simp, ?_⟩
    refine Ex_cons (Ex_AssignAttr (C := 318) (x := x) (dx := dx) (p_Rule a) (k_taker a (by kernel_rfl)) ?_)
    repeat walk_at "me"
    refine ⟨rfl, _, by rw [Led.set_ne _ _ hne]; exact h0, Led.set_self .., rfl, by simp, ?_⟩
    refine Ex_cons (Ex_AssignAttr (C := 318) (x := x) (dx := dx) (p_Rule a) (k_taker a (by kernel_rfl)) ?_)
    repeat walk_at "me"
    refine ⟨rfl, _, by rw [Led.set_ne _ _ hne, Led.set_ne _ _ hne]; exact h0, Led.set_self .., rfl, by simp, ?_⟩
    refine Ex_cons (Ex_AssignAttr (C := 318) (x := x) (dx := dx) (p_Rule a) (k_taker a (by kernel_rfl)) ?_)
    repeat walk_at "me"
    refine tuple_tupleD ?_
    repeat walk_at "me"
    refine ⟨rfl, _, by rw [Led.set_ne _ _ hne, Led.set_ne _ _ hne, Led.set_ne _ _ hne]; exact h0, Led.set_self .., rfl, by simp, ?_⟩
    walk_at "ms"
    refine ⟨rfl, _, by rw [Led.set_ne _ _ hne, Led.set_ne _ _ hne, Led.set_ne _ _ hne, Led.set_ne _ _ hne]; exact h0, Led.set_self .., ?_⟩
    rw [led_back (o := .dct []) (o' := .dct []) hx hdx hne fun b q1 q2 => by rw [Led.set_ne _ _ q2, Led.set_ne _ _ q2, Led.set_ne _ _ q2, Led.set_ne _ _ q2, Led.set_ne _ _ q1, Led.set_ne _ _ q2]]
    exact h
  · exact ⟨rfl, rfl, rfl, rfl, rfl, rfl, trivial⟩
end
end Mine
set_option maxRecDepth 10000
namespace Mine
open PySem PySem.W PyProof.Rows

/-! ## free reduction -/
theorem turn_turn (s : Sp) : turnS (turnS s) = s := by obtain ⟨c, b⟩ := s; simp [turnS]
def Rd (l : List Sp) : Prop := ∀ a s b, l ≠ a ++ s :: turnS s :: b
inductive Dels : List Sp → List Sp → Prop
  | refl {l} : Dels l l
  | step {a s b c} : Dels (a ++ b) c → Dels (a ++ s :: turnS s :: b) c
theorem Dels.trans {l m r : List Sp} (h : Dels l m) (h' : Dels m r) : Dels l r := by
  induction h with
  | refl => exact h'
  | step _ ih => exact .step (ih h')
theorem Dels.right {l m : List Sp} (r : List Sp) (h : Dels l m) : Dels (l ++ r) (m ++ r) := by
  induction h with
  | refl => exact .refl
  | @step a s b c _ ih =>
    have e : (a ++ s :: turnS s :: b) ++ r = a ++ s :: turnS s :: (b ++ r) := by simp
    rw [e]; exact .step (by simpa using ih)
theorem Dels.left {l m : List Sp} (r : List Sp) (h : Dels l m) : Dels (r ++ l) (r ++ m) := by
  induction h with
  | refl => exact .refl
  | @step a s b c _ ih =>
    rw [← List.append_assoc] at ih ⊢
    exact .step ih
theorem turned_append (a b : List Sp) : turnedP (a ++ b) = turnedP b ++ turnedP a := by simp [turnedP]
theorem turned_turned (a : List Sp) : turnedP (turnedP a) = a := by
  simp only [turnedP, List.map_reverse, List.reverse_reverse, List.map_map]
  have : turnS ∘ turnS = id := by funext s; exact turn_turn s
  rw [this, List.map_id]
theorem turned_pair (s : Sp) (a b : List Sp) : turnedP (a ++ s :: turnS s :: b) = turnedP b ++ s :: turnS s :: turnedP a := by
  simp [turnedP, turn_turn]
theorem Dels.turned {l m : List Sp} (h : Dels l m) : Dels (turnedP l) (turnedP m) := by
  induction h with
  | refl => exact .refl
  | @step a s b c _ ih => rw [turned_pair]; exact .step (by rwa [turned_append] at ih)
theorem Rd.turned {l : List Sp} (h : Rd l) : Rd (turnedP l) := fun a s b e => by
  have := congrArg turnedP e
  rw [turned_turned, turned_pair] at this
  exact h _ _ _ this
theorem Rd.left {a b : List Sp} (h : Rd (a ++ b)) : Rd a := fun x s y e => h x s (y ++ b) (by rw [e]; simp)

theorem last_split {st : List Sp} {x : Sp} (h : st.getLast? = some x) : ∃ st0, st = st0 ++ [x] := by
  rcases List.eq_nil_or_concat st with rfl | ⟨st0, l, e⟩
  · cases h
  · rw [List.concat_eq_append] at e
    subst e
    simp at h
    exact ⟨st0, by rw [h]⟩
theorem pushE_pop (st : List Sp) (s : Sp) : pushE (st ++ [turnS s]) s = st := by unfold pushE; rw [if_pos (by simp)]; simp
theorem pushE_add {st : List Sp} {s : Sp} (h : st.getLast? ≠ some (turnS s)) : pushE st s = st ++ [s] := by unfold pushE; rw [if_neg h]
theorem Rd.push {st : List Sp} (h : Rd st) (s : Sp) : Rd (pushE st s) := by
  by_cases q : st.getLast? = some (turnS s)
  · obtain ⟨st0, rfl⟩ := last_split q
    rw [pushE_pop]; exact h.left
  · rw [pushE_add q]
    intro a x b e
    rcases List.eq_nil_or_concat b with rfl | ⟨b0, l, rfl⟩
    · have e' : st ++ [s] = (a ++ [x]) ++ [turnS x] := by simpa using e
      have h1 := List.append_inj_left' e' rfl
      have h2 := List.append_inj_right' e' rfl
      have h3 : s = turnS x := by simpa using h2
      exact q (by rw [h1, h3, turn_turn]; simp)
    · rw [List.concat_eq_append] at e
      have e' : st ++ [s] = (a ++ x :: turnS x :: b0) ++ [l] := by simpa using e
      exact h a x b0 (List.append_inj_left' e' rfl)
theorem Rd.act {w : List Sp} : ∀ {st : List Sp}, Rd st → Rd (w.foldl pushE st) := by
  induction w with
  | nil => intro st h; exact h
  | cons s w ih => intro st h; exact ih (h.push s)
theorem act_rd : ∀ {w st : List Sp}, Rd (st ++ w) → w.foldl pushE st = st ++ w
  | [], st, h => by simp
  | s :: w, st, h => by
    have q : st.getLast? ≠ some (turnS s) := fun q => by
      obtain ⟨st0, rfl⟩ := last_split q
      exact h st0 (turnS s) w (by rw [turn_turn]; simp)
    rw [List.foldl_cons, pushE_add q, act_rd (by simpa using h)]
    simp
theorem push_cancel {st : List Sp} (h : Rd st) (s : Sp) : pushE (pushE st s) (turnS s) = st := by
  by_cases q : st.getLast? = some (turnS s)
  · obtain ⟨st0, rfl⟩ := last_split q
    rw [pushE_pop]
    refine pushE_add fun q2 => ?_
    obtain ⟨st1, rfl⟩ := last_split q2
    rw [turn_turn] at h
    exact h st1 s [] (by simp)
  · rw [pushE_add q]
    have := pushE_pop st (turnS s)
    rwa [turn_turn] at this
theorem act_dels {st l m : List Sp} (hst : Rd st) (h : Dels l m) : l.foldl pushE st = m.foldl pushE st := by
  induction h with
  | refl => rfl
  | @step a s b c _ ih =>
    rw [← ih, List.foldl_append, List.foldl_append, List.foldl_cons, List.foldl_cons, push_cancel (Rd.act hst)]
theorem dels_act : ∀ (w st : List Sp), Dels (st ++ w) (w.foldl pushE st)
  | [], st => by simpa using Dels.refl
  | s :: w, st => by
    by_cases q : st.getLast? = some (turnS s)
    · obtain ⟨st0, rfl⟩ := last_split q
      rw [List.foldl_cons, pushE_pop]
      have e : st0 ++ [turnS s] ++ s :: w = st0 ++ turnS s :: turnS (turnS s) :: w := by rw [turn_turn]; simp
      rw [e]
      exact .step (dels_act w st0)
    · rw [List.foldl_cons, pushE_add q]
      have := dels_act w (st ++ [s])
      simpa using this
theorem rd_nil : Rd [] := fun a s b e => by simp at e
theorem canc_rd (w : List Sp) : Rd (cancP w) := Rd.act rd_nil
theorem canc_dels (w : List Sp) : Dels w (cancP w) := dels_act w []
theorem canc_of {w r : List Sp} (h : Dels w r) (hr : Rd r) : cancP w = r := by
  unfold cancP
  rw [act_dels rd_nil h, act_rd (by simpa using hr)]; simp
theorem canc_same {w r : List Sp} (h : Dels w r) : cancP w = cancP r := act_dels rd_nil h

theorem law_canc_canc (w : List Sp) : cancP (cancP w) = cancP w := canc_of .refl (canc_rd w)
theorem law_both (a b : List Sp) : cancP (a ++ b) = cancP (cancP a ++ cancP b) := canc_same (((canc_dels a).right b).trans ((canc_dels b).left (cancP a)))
theorem law_turned (a : List Sp) : cancP (turnedP a) = turnedP (cancP a) := canc_of (canc_dels a).turned (canc_rd a).turned
theorem dels_undo : ∀ (n : Nat) (a : List Sp), a.length = n → Dels (a ++ turnedP a) []
  | 0, a, h => by
    have : a = [] := List.length_eq_zero_iff.mp h
    subst this; exact .refl
  | n + 1, a, h => by
    rcases List.eq_nil_or_concat a with rfl | ⟨a0, l, e⟩
    · cases h
    · rw [List.concat_eq_append] at e
      subst e
      have e2 : a0 ++ [l] ++ turnedP (a0 ++ [l]) = a0 ++ l :: turnS l :: turnedP a0 := by simp [turnedP]
      rw [e2]
      exact .step (dels_undo n a0 (by simpa using h))
theorem law_undo (a : List Sp) : cancP (a ++ turnedP a) = [] := canc_of (dels_undo _ a rfl) rd_nil

theorem adj_pair {row : List Sp} {i : Nat} (h : adj row i = true) : ∃ s, row = row.take i ++ s :: turnS s :: row.drop (i + 2) := by
  unfold adj at h
  split at h
  · rename_i s r h1 h2
    simp only [Bool.and_eq_true, decide_eq_true_eq, bne_iff_ne, ne_eq] at h
    have hr : r = turnS s := by
      obtain ⟨c, b⟩ := s
      obtain ⟨d, e⟩ := r
      simp only at h
      obtain ⟨rfl, hb⟩ := h
      simp only [turnS, Prod.mk.injEq, true_and]
      cases b <;> cases e <;> simp_all
    refine ⟨s, ?_⟩
    obtain ⟨l1, e1⟩ := List.getElem?_eq_some_iff.mp h1
    obtain ⟨l2, e2⟩ := List.getElem?_eq_some_iff.mp h2
    conv => lhs; rw [← List.take_append_drop i row]
    congr 1
    rw [List.drop_eq_getElem_cons l1, List.drop_eq_getElem_cons l2, e1, e2, hr]
  · cases h
theorem rd_of_spots {row : List Sp} (h : spotsI row = []) : Rd row := fun a s b e => by
  have : a.length ∈ spotsI row := by
    unfold spotsI
    refine List.mem_filter.mpr ⟨List.mem_range.mpr ?_, ?_⟩
    · rw [e]; simp
    · unfold adj
      rw [e]
      have h1 : (a ++ s :: turnS s :: b)[a.length]? = some s := by simp
      have h2 : (a ++ s :: turnS s :: b)[a.length + 1]? = some (turnS s) := by
        rw [List.getElem?_append_right (by omega)]
        simp
      rw [h1, h2]
      simp [turnS]
  rw [h] at this; cases this
theorem rest_dels (cells : List Int) : ∀ (k : Nat) (row : List Sp) (spot : Nat), row.length ≤ k → Dels row (restP cells k row spot).1 ∧ Rd (restP cells k row spot).1
  | 0, row, spot, h => by
    have : row = [] := List.length_eq_zero_iff.mp (by omega)
    subst this
    exact ⟨.refl, rd_nil⟩
  | k + 1, row, spot, h => by
    unfold restP
    by_cases q : spotsI row = []
    · rw [if_pos q]; exact ⟨.refl, rd_of_spots q⟩
    · rw [if_neg q]
      dsimp only
      have hpos : 0 < (spotsI row).length := List.length_pos_iff.mpr q
      have hd := drawn_lt cells spot hpos
      have hmem : (spotsI row).getD (drawn cells spot (spotsI row).length) 0 ∈ spotsI row := by
        rw [List.getD_eq_getElem?_getD, List.getElem?_eq_getElem hd]; exact List.getElem_mem hd
      generalize (spotsI row).getD (drawn cells spot (spotsI row).length) 0 = i at hmem ⊢
      have hi := List.mem_filter.mp hmem
      have hir := List.mem_range.mp hi.1
      obtain ⟨s, hs⟩ := adj_pair hi.2
      have ih := rest_dels cells k (row.take i ++ row.drop (i + 2)) (spot + 1) (by simp; omega)
      refine ⟨?_, ih.2⟩
      conv => lhs; rw [hs]
      exact .step ih.1
theorem law_rest (cells : List Int) (row : List Sp) (spot : Nat) : (restP cells row.length row spot).1 = cancP row := by
  have := rest_dels cells row.length row spot (Nat.le_refl _)
  exact (canc_of this.1 this.2).symm

/-! ## the walk of what is left -/
theorem RunF.split : ∀ {a r : List Sp} {u : Tm} {vs : List Tm}, RunF u (a ++ r) vs → ∃ va vr, vs = va ++ vr ∧ RunF u a va ∧ RunF (endOf u va) r vr
  | [], r, u, vs, h => ⟨[], vs, rfl, .nil, h⟩
  | s :: a, r, u, _, .cons (v := v) h1 h2 => by
    obtain ⟨va, vr, rfl, h3, h4⟩ := RunF.split h2
    exact ⟨v :: va, vr, rfl, .cons h1 h3, by rw [endOf_cons]; exact h4⟩
theorem RunF.join : ∀ {a r : List Sp} {u : Tm} {va vr : List Tm}, RunF u a va → RunF (endOf u va) r vr → RunF u (a ++ r) (va ++ vr)
  | _, r, u, _, vr, .nil, h => h
  | _, r, u, _, vr, .cons h1 h2, h => .cons h1 (RunF.join h2 (by rwa [endOf_cons] at h))
theorem endOf_append (u : Tm) : ∀ (va vr : List Tm), endOf u (va ++ vr) = endOf (endOf u va) vr := by
  intro va
  induction va generalizing u with
  | nil => intro vr; rfl
  | cons v va ih => intro vr; rw [List.cons_append, endOf_cons, endOf_cons]; exact ih v vr
theorem run_dels {t : Tm} {l m : List Sp} (h : Dels l m) : ∀ {vs : List Tm}, RunF t l vs → ∃ ws, RunF t m ws ∧ endOf t ws = endOf t vs ∧ ∀ x ∈ ws, x ∈ vs := by
  induction h with
  | refl => intro vs hr; exact ⟨vs, hr, rfl, fun x hx => hx⟩
  | @step a s b c _ ih =>
    intro vs hr
    obtain ⟨va, vr, rfl, h1, h2⟩ := hr.split
    cases h2 with
    | @cons _ _ v _ vr h3 h4 =>
      cases h4 with
      | @cons _ _ w _ vr h5 h6 =>
        have hw : w = endOf t va := by
          rw [step_back h3] at h5
          exact (Option.some.inj h5).symm
        subst hw
        obtain ⟨ws, a1, a2, a3⟩ := ih (RunF.join h1 h6)
        refine ⟨ws, a1, ?_, fun x hx => ?_⟩
        · rw [a2, endOf_append, endOf_append, endOf_cons, endOf_cons]
        · rcases List.mem_append.mp (a3 x hx) with hx | hx
          · exact List.mem_append_left _ hx
          · exact List.mem_append_right _ (.tail _ (.tail _ hx))
theorem law_run {t : Tm} {row : List Sp} {vs : List Tm} (h : RunF t row vs) : ∃ ws, RunF t (cancP row) ws ∧ endOf t ws = endOf t vs ∧ ∀ x ∈ ws, x ∈ vs := run_dels (canc_dels row) h
end Mine
set_option maxRecDepth 100000
set_option maxHeartbeats 8000000
namespace Mine
open PySem PySem.W PyProof.Rows

section
variable {X : Cx} {P P' : Heap} {F : Addr → Option Obj} {σ σ' : Led} {s s' : Shared} {h' : Heap} {env : Env} {m mc : List (Str × V)} {n : Nat} {Q : V → Led → Prop}

theorem Ev_DictM2 {k1 k2 v1 v2 : Expr} {pos : Pos}
    (h : ∀ a, σ a = none → EvKV X n env m [(k1, v1), (k2, v2)] (σ.set a (.dct [])) fun vs σ1 => σ1 a = some (.dct []) ∧ (vs.map (·.1)).Nodup ∧ Q (.c (.ref a)) (σ1.set a (.dct vs))) : Ev X n env (eval (.Dict [some k1, some k2] [v1, v2] pos) env) m σ Q :=
  Ev_DictM [(k1, v1), (k2, v2)] (by simp) (by simp) rfl h
theorem Ev_DictF1 {k1 v1 : Expr} {pos : Pos}
    (h : ∀ a, σ a = none → EvKV X n env m [(k1, v1)] (σ.set a (.dct [])) fun vs σ1 => σ1 a = some (.dct []) ∧ (vs.map (·.1)).Nodup ∧ Q (.dct vs) (σ1.del a)) : Ev X n env (eval (.Dict [some k1] [v1] pos) env) m σ Q :=
  Ev_DictF [(k1, v1)] (by simp) (by simp) rfl h
theorem restP_spot (cells : List Int) : ∀ (k : Nat) (row : List Sp) (spot : Nat), (restP cells k row spot).2 ≤ spot + k
  | 0, row, spot => Nat.le_refl _
  | k + 1, row, spot => by
    unfold restP
    split
    · simp
    · have := restP_spot cells k (row.take ((spotsI row).getD (drawn cells spot (spotsI row).length) 0) ++ row.drop ((spotsI row).getD (drawn cells spot (spotsI row).length) 0 + 2)) (spot + 1)
      dsimp only
      omega
theorem turned_len (r : List Sp) : (turnedP r).length = r.length := by simp [turnedP]
theorem turned_sz {r : List Sp} {k : Nat} (h : ∀ s ∈ r, s.1.sz ≤ k) : ∀ s ∈ turnedP r, s.1.sz ≤ k := fun s hs => by
  simp only [turnedP, List.mem_map, List.mem_reverse] at hs
  obtain ⟨q, hq, rfl⟩ := hs
  exact h q hq
theorem op_ne_rows {r k : List Sp} (h1 : ∀ s ∈ r, s.1.sz ≤ 40) (h : Q (.d (.bool (!decide (r = k)))) σ) : Op2 X n (compareOp .NotEq) (.d (.list (r.map encS))) (.d (.list (k.map encS))) σ Q :=
  op_ne (lay_rows r) (lay_rows k) (by have := depth_rows h1; omega) (by rw [eqv_rows]; exact h)
theorem op_ne_terms {r k : List Tm} (h1 : ∀ s ∈ r, s.sz ≤ 40) (h : Q (.d (.bool (!decide (r = k)))) σ) : Op2 X n (compareOp .NotEq) (.d (.list (r.map Tm.enc))) (.d (.list (k.map Tm.enc))) σ Q :=
  op_ne (lay_terms r) (lay_terms k) (by have := depth_terms h1; omega) (by rw [eqv_terms]; exact h)

/-- the script: a list that stood before the call -/
def Scr (X : Cx) (l : Addr) (ds : List PyData) : Prop := ∃ dd vs k sl as, X.base.get? l = some ⟨.type "list", dd, .seq vs k, sl⟩ ∧ ReadsAll X.base vs.toList ds as
theorem sl_takeC {l : Addr} {ds : List PyData} {b : Nat} (hs : Scr X l ds) (hsz : ds.length ≤ sizeLine) (h : Q (.d (.list (ds.take b))) σ) : Sl X n (.c (.ref l)) none (some (b : Int)) none σ Q := by
  intro A ok P F s c a vl vu vs R r hs' pl pu ps
  cases r
  obtain ⟨dd, xs, k, sl, as, hg, q1⟩ := hs
  have ht : s.heap.IsList l xs := ⟨_, R.stays _ _ (R.base _ _ hg), rfl, k, rfl⟩
  obtain ⟨bs, q2⟩ := readsAll_take (q1.keeps R.base) b
  exact ⟨⟨"list", _, ht.typeIs, list_getitem_lookup⟩, wpAny_getItem_list_slice ht hs' pl pu ps (by simp) (new_list R (by rw [slicePick_upto']; simpa using q2) h) (by rw [readsAll_size q1]; exact hsz)⟩

theorem c_law (a : At X) {l : Addr} {ns : List Int} (hscr : Scr X l (ns.map .int)) (hl : ns.length ≤ 63) (hn : 200 ≤ n) (h : ∀ σ', Q (.d (.bool true)) σ') : Ck X n (.ref 401) [.c (.ref l)] σ Q := by
  refine Ck_def (ps := [Str.ofString "script"]) (by walk_at "mdef1") rfl (by omega) fun L => ?_
  walk_at "ms"
  refine Ev_DictM2 fun f hf => ?_
  refine Ev_Str ⟨Str.ofString "cells", rfl, ?_⟩
  refine Ev_Comp [] [] (Capt.none rfl) (by decide) (by decide) rfl (by decide) ?_
  refine It_val ?_
  repeat walk_at "me"
  refine ⟨60, rfl, ?_⟩
  repeat walk_at "me"
  refine sl_takeC (b := 60) hscr (sl16 (by simp; omega)) (Iv_list ⟨by simp; exact sl16 (by omega), fun C => ?_⟩)
  have e1 : ((ns.map PyData.int).take 60).map V.d = (ns.take 60).map fun i => V.d (.int i) := by simp [List.map_take, Function.comp_def]
  rw [e1]
  refine compL_gen (fun i => V.d (.int i)) (fun i => some (.int (i.fmod 5040))) (ns.take 60) [] (fun i _ K hK => As_Name (.inl rfl) ⟨trivial, ?_⟩) ?_
  · show Ev X _ _ _ _ _ _
    repeat walk_at "me"
    exact op_mod (by decide) ⟨_, rfl, hK⟩
  refine Ev_Str ⟨Str.ofString "spot", rfl, Ev_Int ⟨Led.set_self .., ?_, ?_⟩⟩
  · show [Str.ofString "cells", Str.ofString "spot"].Nodup
    decide
  rw [Led.set_set]
  obtain ⟨cells, hcells⟩ : ∃ cells : List Int, cells = (ns.take 60).map fun i => i.fmod 5040 := ⟨_, rfl⟩
  have e2 : List.filterMap (fun i : Int => some (PyData.int (i.fmod 5040))) (ns.take 60) = cells.map .int := by rw [hcells]; simp [Function.comp_def]
  rw [List.nil_append, e2]
  have hc : cells.length ≤ 100 := by rw [hcells]; simp; omega
  clear hcells e1 e2
  have hσ0 : ∀ (τ : Led) sp, (τ.set f (feedV cells sp)) f = some (feedV cells sp) := fun τ sp => Led.set_self ..
  obtain ⟨τ0, hτ0⟩ : ∃ τ0 : Led, τ0 = σ.set f (feedV cells 0) := ⟨_, rfl⟩
  have hσ1 : τ0 f = some (feedV cells 0) := by rw [hτ0]; exact hσ0 _ _
  have hτ0' : σ.set f (.dct [(Str.ofString "cells", .d (.list (cells.map .int))), (Str.ofString "spot", .d (.int 0))]) = τ0 := hτ0.symm
  rw [hτ0']
  clear hτ0' hτ0
  -- the two rows
  obtain ⟨one, hone⟩ : ∃ one, one = rowP cells (drawn cells 0 8) (0 + 1) := ⟨_, rfl⟩
  have ho1 : one.length ≤ 7 := by rw [hone, rowP_len]; have := drawn_lt cells 0 (wide := 8) (by decide); omega
  have ho2 : ∀ s ∈ one, s.1.sz ≤ 40 := fun s hs => by rw [hone] at hs; have := rowP_sz _ _ _ s hs; omega
  refine Ex_cons (Ex_AssignSwap (x := Str.ofString "one") (y := Str.ofString "other") rfl (.inl rfl) (.inl rfl) ?_)
  repeat walk_at "me"
  refine c_row a hσ1 hc (by omega) (by omega) ?_
  rw [← hone]
  have hd0 := drawn_lt cells 0 (wide := 8) (by decide)
  obtain ⟨sp1, hsp1⟩ : ∃ sp1, sp1 = 0 + 1 + 2 * drawn cells 0 8 := ⟨_, rfl⟩
  rw [← hsp1]
  have hsp1' : sp1 ≤ 20 := by omega
  repeat walk_at "me"
  refine c_row a (hσ0 _ _) hc (by omega) (by omega) ?_
  rw [Led.set_set]
  have hd1 := drawn_lt cells sp1 (wide := 8) (by decide)
  obtain ⟨other, hother⟩ : ∃ other, other = rowP cells (drawn cells sp1 8) (sp1 + 1) := ⟨_, rfl⟩
  obtain ⟨sp2, hsp2⟩ : ∃ sp2, sp2 = sp1 + 1 + 2 * drawn cells sp1 8 := ⟨_, rfl⟩
  rw [← hother, ← hsp2]
  have ht1 : other.length ≤ 7 := by rw [hother, rowP_len]; omega
  have ht2 : ∀ s ∈ other, s.1.sz ≤ 40 := fun s hs => by rw [hother] at hs; have := rowP_sz _ _ _ s hs; omega
  have hsp2' : sp2 ≤ 40 := by omega
  clear hone hother hsp1 hsp2
  refine EvL_nil ⟨_, _, rfl, ?_⟩
  have hr1 : (cancP one).length ≤ 7 := Nat.le_trans (cancP_len one) ho1
  have hr2 : ∀ s ∈ cancP one, s.1.sz ≤ 40 := fun s hs => ho2 s (cancP_mem hs)
  walk_at "ms"
  repeat walk_at "me"
  refine c_canc a (by omega) ho2 (by omega) ?_
  -- the first question
  walk_at "ms"
  repeat walk_at "me"
  refine c_rest a (hσ0 _ _) hc (by omega) (by omega) ho2 (by omega) ?_
  rw [law_rest, Led.set_set]
  have hsp3 := restP_spot cells one.length one sp2
  obtain ⟨sp3, hsp3e⟩ : ∃ sp3, sp3 = (restP cells one.length one sp2).2 := ⟨_, rfl⟩
  rw [← hsp3e] at hsp3 ⊢
  refine op_ne_rows hr2 ⟨_, rfl, ?_⟩
  rw [decide_eq_true rfl, Bool.not_true, if_neg (by decide)]
  repeat walk_at "me"
  refine c_turned a (by omega) (by omega) ?_
  refine op_addL (sl16 (by simp [turned_len]; omega)) ?_
  rw [← List.map_append]
  repeat walk_at "me"
  refine c_canc a (by simp [turned_len]; omega) (fun s hs => (List.mem_append.mp hs).elim (ho2 s) (turned_sz ho2 s)) (by omega) ?_
  rw [law_undo]
  repeat walk_at "me"
  refine Ev_List rfl (EvL_nil ⟨[], rfl, sl16 (by simp), ?_⟩)
  refine op_ne_rows (r := []) (k := []) (by simp) ⟨_, rfl, ?_⟩
  rw [decide_eq_true rfl, Bool.not_true, if_neg (by decide)]
  repeat walk_at "me"
  refine c_canc a (by omega) hr2 (by omega) ?_
  rw [law_canc_canc]
  repeat walk_at "me"
  refine op_ne_rows hr2 ⟨_, rfl, ?_⟩
  rw [decide_eq_true rfl, Bool.not_true, if_neg (by decide)]
  walk_at "me"
  rw [if_neg (by decide)]
  walk_at "ms"
  -- the second question
  have hc1 : (cancP other).length ≤ 7 := Nat.le_trans (cancP_len other) ht1
  have hc2 : ∀ s ∈ cancP other, s.1.sz ≤ 40 := fun s hs => ht2 s (cancP_mem hs)
  have hoo : ∀ s ∈ one ++ other, s.1.sz ≤ 40 := fun s hs => (List.mem_append.mp hs).elim (ho2 s) (ht2 s)
  walk_at "ms"
  repeat walk_at "me"
  refine op_addL (sl16 (by simp; omega)) ?_
  rw [← List.map_append]
  repeat walk_at "me"
  refine c_canc a (by simp; omega) hoo (by omega) ?_
  repeat walk_at "me"
  refine c_canc a (by omega) ht2 (by omega) ?_
  refine op_addL (sl16 (by simp; omega)) ?_
  rw [← List.map_append]
  repeat walk_at "me"
  refine c_canc a (by simp; omega) (fun s hs => (List.mem_append.mp hs).elim (hr2 s) (hc2 s)) (by omega) ?_
  refine op_ne_rows (fun s hs => hoo s (cancP_mem hs)) ⟨_, rfl, ?_⟩
  rw [decide_eq_true (law_both one other), Bool.not_true, if_neg (by decide)]
  repeat walk_at "me"
  refine c_turned a (by omega) (by omega) ?_
  repeat walk_at "me"
  refine c_canc a (by rw [turned_len]; omega) (turned_sz ho2) (by omega) ?_
  repeat walk_at "me"
  refine c_turned a (by omega) (by omega) ?_
  refine op_ne_rows (fun s hs => turned_sz ho2 s (cancP_mem hs)) ⟨_, rfl, ?_⟩
  rw [decide_eq_true (law_turned one), Bool.not_true, if_neg (by decide)]
  walk_at "me"
  rw [if_neg (by decide)]
  walk_at "ms"
  -- a term and a walk
  refine Ex_sub [(Str.ofString "feed", .c (.ref f))] ⟨rfl, trivial⟩ ?_
  walk_at "ms"
  repeat walk_at "me"
  have htb := termP_bound cells 2 sp3
  have htg := termP_ground cells 2 sp3
  refine c_term a hc 2 (hσ0 _ _) (by omega) (by omega) ?_
  rw [Led.set_set]
  obtain ⟨t, ht⟩ : ∃ t, t = (termP cells 2 sp3).1 := ⟨_, rfl⟩
  obtain ⟨sp4, hsp4⟩ : ∃ sp4, sp4 = (termP cells 2 sp3).2 := ⟨_, rfl⟩
  rw [← ht] at htb htg ⊢
  rw [← hsp4] at htb ⊢
  clear ht hsp4
  refine Ex_cons (Ex_AssignT ?_)
  repeat walk_at "me"
  refine c_lwalk a (hσ0 _ _) hc (by omega) (by omega) htg (by omega) fun row vs sp W hrow hsp => ?_
  rw [Led.set_set]
  refine As_Tuple (ds := [_, _]) (As_Name (.inl rfl) (As_Name (.inr ⟨rfl, rfl⟩) ?_))
  refine Ex_sub [(Str.ofString "terms", .d (.list ((t :: vs).map Tm.enc))), (Str.ofString "row", .d (.list (row.map encS))), (Str.ofString "t", .d t.enc), (Str.ofString "feed", .c (.ref f))] ⟨rfl, rfl, rfl, rfl, trivial⟩ ?_
  have hvl := W.run.len
  have hts : ∀ x ∈ t :: vs, x.sz ≤ 40 := fun x hx => by have := (W.terms x hx).2; omega
  have hrs : ∀ s ∈ row, s.1.sz ≤ 40 := fun s hs => by have := W.steps s hs; omega
  obtain ⟨ws, hW1, hW2, hW3⟩ := law_run W.run
  have hws : ∀ x ∈ t :: ws, x ∈ t :: vs := fun x hx => by
    rcases List.mem_cons.mp hx with rfl | hx
    · exact .head _
    · exact .tail _ (hW3 x hx)
  have hwl := hW1.len
  have hcr : (cancP row).length ≤ 7 := Nat.le_trans (cancP_len row) hrow
  have hcs : ∀ s ∈ cancP row, s.1.sz ≤ 40 := fun s hs => hrs s (cancP_mem hs)
  -- the judge
  walk_at "ms"
  repeat walk_at "me"
  refine Ev_DictF1 fun d hd => ?_
  refine Ev_Str ⟨Str.ofString "r", rfl, ?_⟩
  repeat walk_at "me"
  refine ⟨[.str Lf.x.name], rfl, sl16 (by simp), ?_⟩
  repeat walk_at "me"
  refine ⟨[.str Lf.y.name], rfl, sl16 (by simp), ?_⟩
  refine EvL_nil ⟨[.str (Str.ofString "g"), (Tm.leaf .x).enc, (Tm.leaf .y).enc], rfl, sl16 (by simp), ?_⟩
  repeat walk_at "me"
  refine ⟨[.str Lf.y.name], rfl, sl16 (by simp), ?_⟩
  repeat walk_at "me"
  refine ⟨[.str Lf.x.name], rfl, sl16 (by simp), ?_⟩
  refine EvL_nil ⟨[.str (Str.ofString "g"), (Tm.leaf .y).enc, (Tm.leaf .x).enc], rfl, sl16 (by simp), ?_⟩
  repeat walk_at "me"
  refine ⟨[], rfl, sl16 (by simp), ?_⟩
  refine EvL_nil (c_Rule a (by omega) ⟨Led.set_self .., (by simp), ?_⟩)
  rw [Led.del_set _ _ _ hd]
  repeat walk_at "me"
  refine Ev_Glob rfl (g_told a) (d_told a) ?_
  refine EvL_nil (c_Judge a (by omega) ?_)
  refine EvL_nil (c_Steps a (by omega) ?_)
  -- the walk of what is left
  walk_at "ms"
  refine Ev_CallM rfl ?_
  walk_at "me"
  refine ⟨_, mt_walk a, a.fn (by kernel_rfl), ?_⟩
  repeat walk_at "me"
  refine c_canc a (by omega) hrs (by omega) ?_
  refine EvL_nil (c_swalk a hW1 (fun x hx => hts x (hws x hx)) (by omega) (by omega) ?_)
  walk_at "ms"
  refine (?_ : Tr X _ _ _ _ _ _)
  repeat walk_at "me"
  refine Ev_CallM rfl ?_
  walk_at "me"
  refine ⟨_, mt_walk a, a.fn (by kernel_rfl), ?_⟩
  repeat walk_at "me"
  refine c_swalk a W.run hts (by omega) (by omega) ?_
  repeat walk_at "me"
  refine op_ne_terms hts ⟨_, rfl, ?_⟩
  rw [decide_eq_true rfl, Bool.not_true, if_neg (by decide)]
  repeat walk_at "me"
  refine c_canc a (by omega) hrs (by omega) ?_
  repeat walk_at "me"
  refine c_rest a (hσ0 _ _) hc (by omega) (by omega) hrs (by omega) ?_
  rw [law_rest]
  refine op_ne_rows hcs ⟨_, rfl, ?_⟩
  rw [decide_eq_true rfl, Bool.not_true, if_neg (by decide)]
  walk_at "me"
  rw [if_neg (by decide)]
  walk_at "ms"
  -- what is asked of it
  walk_at "ms"
  refine Ev_And ?_
  refine (?_ : Ev X _ _ (eval _ _) _ _ _)
  repeat walk_at "me"
  refine gi_list (i := 0) (d := t.enc) rfl (by decide) ?_
  repeat walk_at "me"
  refine op_eq (lay_enc t) (lay_enc t) (by have := depth_enc t; have := hts t (.head _); omega) ⟨_, rfl, ?_⟩
  rw [eqv_enc, decide_eq_true rfl, if_pos rfl]
  refine (?_ : Ev X _ _ (eval _ _) _ _ _)
  repeat walk_at "me"
  refine gi_listN (i := ws.length) (d := (endOf t ws).enc) (by decide) (by simp; omega) (by rw [List.getElem?_map, endOf_get]; rfl) (by decide) ?_
  repeat walk_at "me"
  refine gi_listN (i := vs.length) (d := (endOf t vs).enc) (by decide) (by simp; omega) (by rw [List.getElem?_map, endOf_get]; rfl) (by decide) ?_
  refine op_eq (lay_enc _) (lay_enc _) (by have := depth_enc (endOf t ws); have := hts _ (hws _ (endOf_mem t ws)); omega) ⟨_, rfl, ?_⟩
  rw [eqv_enc, decide_eq_true hW2, if_pos rfl]
  refine (?_ : Ev X _ _ (eval _ _) _ _ _)
  walk_at "me"
  refine Ev_Comp [(Str.ofString "terms", L + 1)] [(Str.ofString "terms", .d (.list ((t :: vs).map Tm.enc)))] (Capt.one rfl rfl rfl rfl rfl) (by decide) (by decide) rfl (by decide) ?_
  refine It_val ?_
  repeat walk_at "me"
  refine Iv_list ⟨sl16 (by simp; omega), fun C => ?_⟩
  have e3 : ((t :: ws).map Tm.enc).map V.d = (t :: ws).map fun u => V.d u.enc := by simp
  rw [e3]
  refine compL_gen (fun u => V.d (Tm.enc u)) (fun _ => none) (t :: ws) [] (fun u hu K hK => As_Name (.inl rfl) ⟨⟨rfl, trivial⟩, Tests_one ?_⟩) ?_
  · repeat walk_at "me"
    refine op_notIn (lay_enc u) (lay_map fun _ _ => lay_enc _) (by have := depth_enc u; have := hts u (hws u hu); omega) ⟨_, rfl, ?_⟩
    have e4 : (((t :: vs).map Tm.enc).any fun y => PyData.eqv y u.enc) = true := by
      rw [List.any_eq_true]
      exact ⟨u.enc, List.mem_map_of_mem (hws u hu), by rw [eqv_enc]; simp⟩
    rw [e4, Bool.not_true, if_neg (by decide)]
    exact hK
  · refine Ev_List rfl (EvL_nil ⟨[], rfl, sl16 (by simp), ?_⟩)
    have e5 : ([] : List PyData) ++ List.filterMap (fun _ : Tm => (none : Option PyData)) (t :: ws) = [] := by simp
    rw [e5]
    refine op_eq rfl rfl (by decide) ?_
    exact h _
end
end Mine
open PySem PySem.W PyProof.Rows
set_option maxRecDepth 100000
set_option maxHeartbeats 8000000
namespace Mine
theorem own_ints {P : Heap} {vs : List Value} {ns : List Int} {as : List Addr} (h : PySem.ReadsAll P vs (ns.map .int) as) : ∃ bs, ReadsAll P vs (ns.map .int) bs := by
  induction ns generalizing vs as with
  | nil => cases h; exact ⟨_, .nil⟩
  | cons i ns ih =>
    cases h with | cons a r =>
    obtain ⟨_, h⟩ := ih r
    cases a; exact ⟨_, .cons (.int i _) h⟩
theorem law_run0 {prog : Program} (w : World) (s : Shared) (mg mb : Str → Option Value) (KX : (hd.heap_39 w.params).In s.heap) (g : s.heap.Ns mainGlobals mg) (b : s.heap.Ns builtinsNs mb) (nl : s.heap.NoLimit) (hb : ∀ x : Str, x ≠ Str.ofString "__name__" → mb x = bootBuiltins x)
    (hg : s.gens = #[]) {ns : List Int} (hl : ns.length ≤ 63) {c : Value} {as : List Addr} (r : PySem.Reads s.heap c (.list (ns.map .int)) as) :
    codeAny (model prog w) callerA (.call (.ref 401) ⟨[c], []⟩) (fun r s' => match r with | .ok (.ret v) => v = .bool true ∧ (∀ b o, s.heap.get? b = some o → s'.heap.get? b = some o) ∧ s'.os = s.os ∧ s'.gens = #[] | _ => False) s := by
  let X : Cx := { prog := prog, w := w, base := s.heap, os := s.os, mg := mg, mb := mb, K := hd.heap_39 w.params, g := g, b := b, nolimit := nl, KIn := KX, big := ⟨401, _, by decide, KX 401 _ rfl⟩ }
  have a : At X := ⟨rfl, hb⟩
  have R : RelC X s.heap (fun _ => none) Led.nil s := ⟨stays_refl _, stays_refl _, fun a o e => (by cases e), fun a o e => (by cases e), hg, rfl⟩
  have ok : Ok callerA 400 := ⟨rfl, by decide, by decide⟩
  obtain ⟨l, rfl, hscr⟩ : ∃ l, c = .ref l ∧ Scr X l (ns.map .int) := by
    cases r with | @list l o vs k xs bs e1 e2 e3 e4 =>
      obtain ⟨cls, dd, data, sl⟩ := o
      dsimp only at e2 e3; subst e2 e3
      obtain ⟨as', e5⟩ := own_ints e4
      exact ⟨l, rfl, dd, vs, k, sl, as', e1, e5⟩
  have h := c_law a (σ := Led.nil) (Q := fun v _ => v = .d (.bool true)) hscr hl (show 200 ≤ 400 by decide) (fun _ => rfl) callerA ok s.heap (fun _ => none) s [.ref l] R (.cons (.c _) .nil)
  refine codeAny_mono h fun r s' z => ?_
  rcases r with e | (v | _ | _ | _) <;> try exact z.elim
  obtain ⟨P', v', σ', p, rv, R', rfl⟩ := z
  exact ⟨vbool rv, R'.stay, R'.os, R'.gens⟩
end Mine
theorem PySem.Challenge.cw_pq0057_01_holds : PySem.Challenge.rw_pq0057_01.Holds :=
  Mine.hd (by
  k_fill
  intro w s₀ s₁ mg mb G Y fa o pm cd doc dV kV ho hd hcd hD hmg hg args vals as hpre hlay hrd hwl hlo
  have KX := kIn_of Y
  refine Ground.open G ?_
  intro T B D TE TW
  wrow_args hpre hlay hrd hwl hlo
  refine enter_call ?_
  w_top on
  rename_i ns a1 a2 a3 a4 a5 b1 b2 l vals c1 hL ra w1 r0 hI hr h63 htr
  have hfa : mg (Str.ofString "law") = some (.ref 401) := mg_of KX T.g (by kernel_rfl)
  have hfe : fa = 401 := by
    have h2 : mg (Str.ofString "law") = some (.ref fa) := hmg
    rw [hfa] at h2
    exact (Value.ref.inj (Option.some.inj h2)).symm
  subst hfe
  refine codeAny_mono (Mine.law_run0 w s₁ mg mb KX T.g T.b T.nolimit (fun x hx => T.builtins x hx) hg (Int.ofNat_le.mp (Int.not_lt.mp h63)) r0) fun r s' z => ?_
  rcases r with e | (v | _ | _ | _) <;> try exact z.elim
  obtain ⟨rfl, hk, hos, hgn⟩ := z
  refine GoodW.toG ⟨.inl ⟨_, .bool true, [], rfl, raisesW_false ?_, .bool true, ?_, ?_⟩, hk, hos, hgn⟩
  · wrow_none_raised
  · wrow_post
  · intro _; exact ⟨List.nodup_nil, fun a h => by cases h⟩)
