import PyProof.Rows.All
import Wide.All
import OpenK.AllK
import Wide.FinOn
import PySem.Challenge.RW_np0159_01
set_option maxRecDepth 100000
set_option genCtorIdx false
set_option tactic.hygienic false
set_option backward.match.sparseCases false
set_option backward.linearNoConfusionType false
set_option bootstrap.genMatcherCode false
set_option Elab.async false
set_option linter.unusedVariables false
set_option genSizeOf false
set_option genInjectivity false
namespace Mine
open PySem PySem.W PyProof.Rows PySem.Calls
noncomputable abbrev prg:Program:=PySem.Challenge.pw_np0159_01
noncomputable def runT (stp:SharedT->Thread->Option (SharedT×Thread)) (ok:Thread->Bool):Nat->SharedT->Thread->Option SharedT
 | 0,_,_=>none
 | n+1,s,t=>match through t with
  | true=>some s
  | false=>match ok t with
   | false=>none
   | true=>match stp s t with
    | some (s',t')=>runT stp ok n s' t'
    | none=>none
theorem runT_of {tb:String->Option Builtin} {p:Program} {w:World} {n₀:Nat} {ann:Option Value}:∀ {n:Nat} {s s':SharedT} {t:Thread},runT (stepT (denote tb) p w) (stepOk n₀ ann) n s t=some s'->topRun tb p w n₀ ann n s.abs t=some s'.abs
 | 0,s,s',t,h=>by injection h
 | n+1,s,s',t,h=>by
  unfold runT at h
  unfold topRun
  induction h1:through t using Bool.casesOn with
  | true=>rw [h1] at h; (injection h with e1; subst e1); rfl
  | false=>
   rw [h1] at h
   induction h2:stepOk n₀ ann t using Bool.casesOn with
   | false=>rw [h2] at h; injection h
   | true=>
    rw [h2] at h
    induction h3:stepT (denote tb) p w s t using Option.casesOn with
    | none=>rw [h3] at h; injection h
    | some r=>
     obtain ⟨s2,t2⟩:=r
     rw [h3] at h
     rw [stepT_spec h3]
     exact runT_of h
noncomputable def ofL:List Obj->BT->Nat->Option (BT×Nat)
 | [],T,n=>some (T,n)
 | o::l,T,n=>match ((T.ins n o).get n).isSome with
  | true=>ofL l (T.ins n o) (n+1)
  | false=>none
theorem ofL_of (life:Life):∀ {l:List Obj} {T T':BT} {n n':Nat},ofL l T n=some (T',n')->absHeap T' n' life=⟨(absHeap T n life).objs++l.toArray,life⟩
 | [],T,T',n,n',h=>by
  (injection h with e1; cases e1)
  unfold absHeap
  simp
 | o::l,T,T',n,n',h=>by
  unfold ofL at h
  induction h1:((T.ins n o).get n).isSome using Bool.casesOn with
  | false=>rw [h1] at h; injection h
  | true=>
   rw [h1] at h
   rw [ofL_of life h,absHeap_ins h1]
   show (⟨((absHeap T n life).objs.push o)++l.toArray,life⟩:Heap)=_
   congr 1
   apply Array.toList_inj.mp
   simp
theorem moduleCode_tw:@moduleCode=@Fast.tw17154629097778926822:=Fast.te17154629097778926822
theorem stepT_tw:@stepT=@Fast.tw10156331382660048174:=Fast.te10156331382660048174
theorem denote_tw:@denote=@Fast.tw11892475500146522536:=Fast.te11892475500146522536
theorem stepOk_tw:@stepOk=@Fast.tw6613529449190102663:=Fast.te6613529449190102663
theorem table_tw:@treeTable=@Fast.tw14364793385576792824:=Fast.te14364793385576792824
theorem start_tw:@start=@Fast.tw1435165496053646825:=Fast.te1435165496053646825
theorem fence_tw:@fenceModules?=@Fast.tw14289696077712309145:=Fast.te14289696077712309145
theorem import_tw:@importEnds=@Fast.tw10274390034422433532:=Fast.te10274390034422433532
noncomputable def stubW (MC:Module->Str->Option Nat->Sem Value) (p:Program):Thread:=
 ⟨do
  let code ← MC p.main p.main.file none
  let frame ← newBodyFrame code mainNs mainNs
  let _ ← run (.body (behindTheImports p) {scope:=p.main.scope,locals:=mainNs,globals:=mainNs,cells:=[],code,frame:=some frame})
  ret .none,
 .builtin "claim.caller" {},default,[]⟩
noncomputable def whole {β:Type} (IE:(String->Option Builtin)->Program->World->Nat->Shared->Thread->Option Shared) (TB:String->Option Builtin) (SA:Program->Shared×Thread) (FM:Program->Shared->Option Shared)
  (SP:(Code->Sem Fin)->Program->World->SharedT->Thread->Option (SharedT×Thread)) (DN:(String->Option Builtin)->Code->Sem Fin) (SK:Nat->Option Value->Thread->Bool) (MC:Module->Str->Option Nat->Sem Value) (p:Program) (w:World) (N:Nat) (look:Heap->SharedT->β):Option β:=
 (IE TB (opening p) w N (SA (opening p)).1 (SA (opening p)).2).bind fun s=>(FM p s).bind fun s₀=>(ofL s₀.heap.objs.toList .nil 0).bind fun x=>match s₀.heap.isNs mainGlobals&&s₀.gens.size==0 with
 | true=>(runT (SP (DN TB) p w) (SK s₀.heap.objs.size (s₀.heap.nsMap mainGlobals "__annotations__")) N ⟨x.1,x.2,s₀.heap.life,s₀.gens,s₀.drawn,s₀.toks,s₀.os⟩ (stubW MC p)).map fun s₁=>look s₀.heap s₁
 | false=>none
theorem whole_ends {β:Type} {p:Program} {w:World} {N:Nat} {look:Heap->SharedT->β} {v:β} (h:whole @importEnds treeTable @start @fenceModules? @stepT @denote @stepOk @moduleCode p w N look=some v) :
  ∃ s₀,∃ s₁:SharedT,fencedOpening treeTable p w N=some s₀∧(s₀.heap.isNs mainGlobals&&s₀.gens.size==0)=true∧topRun treeTable p w s₀.heap.objs.size (s₀.heap.nsMap mainGlobals "__annotations__") N s₀ (topStub p)=some s₁.abs∧look s₀.heap s₁=v:=by
 unfold whole at h
 obtain ⟨s,h1,h⟩:=Option.bind_eq_some_iff.mp h
 obtain ⟨s₀,h2,h⟩:=Option.bind_eq_some_iff.mp h
 obtain ⟨⟨T,n⟩,h3,h⟩:=Option.bind_eq_some_iff.mp h
 induction hg:(s₀.heap.isNs mainGlobals&&s₀.gens.size==0) using Bool.casesOn with
 | false=>rw [hg] at h; injection h
 | true=>
 rw [hg] at h
 obtain ⟨s₁,h4,h5⟩:=Option.map_eq_some_iff.mp h
 have h4:=runT_of h4
 refine ⟨s₀,s₁,?_,hg,?_,h5⟩
 ·unfold fencedOpening
  rw [h1]; exact h2
 ·have e:(⟨T,n,s₀.heap.life,s₀.gens,s₀.drawn,s₀.toks,s₀.os⟩:SharedT).abs=s₀:=by
   have:=ofL_of s₀.heap.life h3
   obtain ⟨⟨objs,life⟩,gens,drawn,toks,os⟩:=s₀
   show (⟨absHeap T n life,gens,drawn,toks,os⟩:Shared)=_
   rw [this]
   congr 2
   unfold absHeap BT.list
   simp
  rw [e] at h4
  exact h4
theorem whole_tw {β:Type} {p:Program} {w:World} {N:Nat} {look:Heap->SharedT->β}:whole @importEnds treeTable @start @fenceModules? @stepT @denote @stepOk @moduleCode p w N look =
  whole @Fast.tw10274390034422433532 @Fast.tw14364793385576792824 @Fast.tw1435165496053646825 @Fast.tw14289696077712309145 @Fast.tw10156331382660048174 @Fast.tw11892475500146522536 @Fast.tw6613529449190102663 @Fast.tw17154629097778926822 p w N look:=by
 rw [import_tw,start_tw,fence_tw,stepT_tw,denote_tw,stepOk_tw,moduleCode_tw,table_tw]
noncomputable def getT (s:SharedT) (a:Nat):Option Obj:=match Nat.blt a s.n with
 | true=>alive ((s.tree.get a).getD default)
 | false=>none
theorem getT_eq {s:SharedT} {a:Nat}:getT s a=s.abs.heap.get? a:=by
 show _=(absHeap s.tree s.n s.life).get? a
 unfold getT
 induction h:Nat.blt a s.n using Bool.casesOn with
 | false=>exact (abs_get_none fun k=>by rw [Nat.blt_eq.mpr k] at h; injection h).symm
 | true=>
  unfold Heap.get?
  rw [absHeap_at,if_pos (Nat.blt_eq.mp h)]
  generalize (s.tree.get a).getD default=o
  obtain ⟨c,d,dt,sl⟩:=o
  induction dt using Data.casesOn <;> rfl
theorem left_of_whole {p q:Program} {loose:List Str} {Xt:Shared->Bool} {α:Type} {Yf:Shared->α} {Ya:World->α} {N:Nat} {Zf:SharedT->α} (hz:∀ s,Zf s=Yf s.abs)
  (h:∀ w,whole @importEnds treeTable @start @fenceModules? @stepT @denote @stepOk @moduleCode p w N (fun h₀ s=>((staticsOk (importedModules p.main.body) h₀ s.abs.heap&&namesBound p s.abs.heap&&gensDone s.abs&&laidKept h₀ s.abs.heap),openSeen q loose (importedModules p.main.body) Xt true s.abs,Zf s))=some (true,openGood q loose,Ya w)):LeftO p q loose Xt Yf Ya N:=fun w=>by
 obtain ⟨s₀,s₁,h1,h2,h3,h4⟩:=whole_ends (h w)
 obtain ⟨l1,l2,l3⟩:_∧_∧_:=by simpa only [Prod.mk.injEq] using h4
 have t:topFrom treeTable p w N s₀=some s₁.abs:=by
  unfold topFrom
  rw [h2,h3]
  show (match staticsOk (importedModules p.main.body) s₀.heap s₁.abs.heap&&namesBound p s₁.abs.heap&&gensDone s₁.abs&&laidKept s₀.heap s₁.abs.heap with | true=>_ | false=>_)=_
  rw [l1]
 unfold openEnds
 rw [h1]
 show (topFrom treeTable p w N s₀).map _=_
 rw [t]
 exact congrArg some (Prod.ext l2 ((hz _).symm.trans l3))
noncomputable def stOf:Stmt->Arguments×List Stmt×Scope
 | .FunctionDef _ a b _ _ _ sc _ _ _=>(a,b,sc)
 | _=>default
noncomputable def clOf:Stmt->List Stmt
 | .ClassDef _ _ _ b _ _ _ _ _ _ _=>b
 | _=>[]
noncomputable def tf (i:Nat):Arguments×List Stmt×Scope:=stOf (prg.main.body.getD i (.Pass default))
noncomputable def cf (i j:Nat):Arguments×List Stmt×Scope:=stOf ((clOf (prg.main.body.getD i (.Pass default))).getD j (.Pass default))
noncomputable def fo (f:Arguments×List Stmt×Scope) (name qual:Str) (defaults mod:Value) (code:Addr):Obj:=
 ⟨.type "function",none,.func {name:=name,qualname:=qual,params:=f.1,body:=.stmts f.2.1,scope:=f.2.2,globals:=3,closure:=[],defaults:=defaults,kwdefaults:=.none,pyModule:=mod,code:=.ref code},#[]⟩
noncomputable def co (l:List Value):Obj:=⟨.type "code",none,.fields ⟨l⟩,#[]⟩
noncomputable def de (P:Params) (k:Str) (t:Nat) (v:Value):DictEntry:=⟨reduceHash (P.strHash k.cps),.str k t,v⟩
noncomputable def to (l:List Value):Obj:=⟨.type "tuple",none,.seq ⟨l⟩ 0,#[]⟩
noncomputable def fc (a:Nat) (c:Bool) (f:Arguments×List Stmt×Scope) (n q:Str) (d m:Value) (t l r u:Nat):Frag:=[
 (a,co ([.str n t,.str q (t+1),.str "/claim/cut.py" (t+2),.int l 0,.int r 0,.int 0 0,.int 0 0,.int 3 0]++cond c [.ref (a - 3),.bool true,.int 181 0,.ref (a - 2),.none,.none,.none,.ref (a - 1)] [.ref (a - 5),.bool true,.int 181 0,.ref (a - 4),.none,.ref (a - 3),.ref (a - 2),.ref (a - 1)]++[.int u 0,.int l 0,.str "/claim/cut.py" (u+1)])),
 (a+1,fo f n q d m a)]
noncomputable abbrev m0:Value:=.str "tclcore.faults" 194
noncomputable abbrev m1:Value:=.str "tclcore.machine" 418
noncomputable abbrev m2:Value:=.str "tclcore.compcore" 632
noncomputable abbrev m3:Value:=.str "tclcore.spaces" 671
noncomputable abbrev m4:Value:=.str "tclcore.host" 706
noncomputable abbrev m5:Value:=.str "tclcore.numbers" 1027
noncomputable abbrev m6:Value:=.str "tclcore.lists" 1080
noncomputable abbrev m7:Value:=.str "tclcore.ops" 1185
noncomputable abbrev m8:Value:=.str "law_np0159_01" 1459
noncomputable def kf0 (P:Params):Frag:=[(0,⟨.type "dict",none,.dict ⟨[de P "__name__" 1 (.str "builtins" 160),de P "__doc__" 2 (.builtin "builtins.__doc__:str#opaque"),de P "__package__" 3 (.builtin "builtins.__package__:str#opaque"),de P "__loader__" 4 (.builtin "builtins.__loader__:shared#opaque"),de P "__spec__" 5 (.builtin "builtins.__spec__#opaque"),de P "__build_class__" 6 (.builtin "__build_class__"),de P "__import__" 7 (.builtin "__import__"),de P "abs" 8 (.builtin "abs"),de P "all" 9 (.builtin "all"),de P "any" 10 (.builtin "any"),de P "ascii" 11 (.builtin "ascii"),de P "bin" 12 (.builtin "bin"),de P "breakpoint" 13 (.builtin "breakpoint"),de P "callable" 14 (.builtin "callable"),de P "chr" 15 (.builtin "chr"),de P "compile" 16 (.builtin "compile"),de P "delattr" 17 (.builtin "delattr"),de P "dir" 18 (.builtin "dir"),de P "divmod" 19 (.builtin "divmod"),de P "eval" 20 (.builtin "eval"),de P "exec" 21 (.builtin "exec"),de P "format" 22 (.builtin "format"),de P "getattr" 23 (.builtin "getattr"),de P "globals" 24 (.builtin "globals"),de P "hasattr" 25 (.builtin "hasattr"),de P "hash" 26 (.builtin "hash"),de P "hex" 27 (.builtin "hex"),de P "id" 28 (.builtin "id"),de P "input" 29 (.builtin "input"),de P "isinstance" 30 (.builtin "isinstance"),de P "issubclass" 31 (.builtin "issubclass"),de P "iter" 32 (.builtin "iter"),de P "aiter" 33 (.builtin "aiter"),de P "len" 34 (.builtin "len"),de P "locals" 35 (.builtin "locals"),de P "max" 36 (.builtin "max"),de P "min" 37 (.builtin "min"),de P "next" 38 (.builtin "next"),de P "anext" 39 (.builtin "anext"),de P "oct" 40 (.builtin "oct"),de P "ord" 41 (.builtin "ord"),de P "pow" 42 (.builtin "pow"),de P "print" 43 (.builtin "print"),de P "repr" 44 (.builtin "repr"),de P "round" 45 (.builtin "round"),de P "setattr" 46 (.builtin "setattr"),de P "sorted" 47 (.builtin "sorted"),de P "sum" 48 (.builtin "sum"),de P "vars" 49 (.builtin "vars"),de P "None" 50 (.none),de P "Ellipsis" 51 (.ellipsis),de P "NotImplemented" 52 (.notImplemented),de P "False" 53 (.bool false),de P "True" 54 (.bool true),de P "bool" 55 (.type "bool"),de P "memoryview" 56 (.type "memoryview"),de P "bytearray" 57 (.type "bytearray"),de P "bytes" 58 (.type "bytes"),de P "classmethod" 59 (.type "classmethod"),de P "complex" 60 (.type "complex"),de P "dict" 61 (.type "dict"),de P "enumerate" 62 (.type "enumerate"),de P "filter" 63 (.type "filter"),de P "float" 64 (.type "float"),de P "frozenset" 65 (.type "frozenset"),de P "property" 66 (.type "property"),de P "int" 67 (.type "int"),de P "list" 68 (.type "list"),de P "map" 69 (.type "map"),de P "object" 70 (.type "object"),de P "range" 71 (.type "range"),de P "reversed" 72 (.type "reversed"),de P "set" 73 (.type "set"),de P "slice" 74 (.type "slice"),de P "staticmethod" 75 (.type "staticmethod"),de P "str" 76 (.type "str"),de P "super" 77 (.type "super"),de P "tuple" 78 (.type "tuple"),de P "type" 79 (.type "type"),de P "zip" 80 (.type "zip"),de P "__debug__" 81 (.bool true),de P "BaseException" 82 (.type "BaseException"),de P "BaseExceptionGroup" 83 (.type "BaseExceptionGroup"),de P "Exception" 84 (.type "Exception"),de P "GeneratorExit" 85 (.type "GeneratorExit"),de P "KeyboardInterrupt" 86 (.type "KeyboardInterrupt"),de P "SystemExit" 87 (.type "SystemExit"),de P "ArithmeticError" 88 (.type "ArithmeticError"),de P "AssertionError" 89 (.type "AssertionError"),de P "AttributeError" 90 (.type "AttributeError"),de P "BufferError" 91 (.type "BufferError"),de P "EOFError" 92 (.type "EOFError"),de P "ImportError" 93 (.type "ImportError"),de P "LookupError" 94 (.type "LookupError"),de P "MemoryError" 95 (.type "MemoryError"),de P "NameError" 96 (.type "NameError"),de P "OSError" 97 (.type "OSError"),de P "ReferenceError" 98 (.type "ReferenceError"),de P "RuntimeError" 99 (.type "RuntimeError"),de P "StopAsyncIteration" 100 (.type "StopAsyncIteration"),de P "StopIteration" 101 (.type "StopIteration"),de P "SyntaxError" 102 (.type "SyntaxError"),de P "SystemError" 103 (.type "SystemError"),de P "TypeError" 104 (.type "TypeError"),de P "ValueError" 105 (.type "ValueError"),de P "Warning" 106 (.type "Warning"),de P "FloatingPointError" 107 (.type "FloatingPointError"),de P "OverflowError" 108 (.type "OverflowError"),de P "ZeroDivisionError" 109 (.type "ZeroDivisionError"),de P "BytesWarning" 110 (.type "BytesWarning"),de P "DeprecationWarning" 111 (.type "DeprecationWarning"),de P "EncodingWarning" 112 (.type "EncodingWarning"),de P "FutureWarning" 113 (.type "FutureWarning"),de P "ImportWarning" 114 (.type "ImportWarning"),de P "PendingDeprecationWarning" 115 (.type "PendingDeprecationWarning"),de P "ResourceWarning" 116 (.type "ResourceWarning"),de P "RuntimeWarning" 117 (.type "RuntimeWarning"),de P "SyntaxWarning" 118 (.type "SyntaxWarning"),de P "UnicodeWarning" 119 (.type "UnicodeWarning"),de P "UserWarning" 120 (.type "UserWarning"),de P "BlockingIOError" 121 (.type "BlockingIOError"),de P "ChildProcessError" 122 (.type "ChildProcessError"),de P "ConnectionError" 123 (.type "ConnectionError"),de P "FileExistsError" 124 (.type "FileExistsError"),de P "FileNotFoundError" 125 (.type "FileNotFoundError"),de P "InterruptedError" 126 (.type "InterruptedError"),de P "IsADirectoryError" 127 (.type "IsADirectoryError"),de P "NotADirectoryError" 128 (.type "NotADirectoryError"),de P "PermissionError" 129 (.type "PermissionError"),de P "ProcessLookupError" 130 (.type "ProcessLookupError"),de P "TimeoutError" 131 (.type "TimeoutError"),de P "IndentationError" 132 (.type "IndentationError"),de P "_IncompleteInputError" 133 (.type "_IncompleteInputError"),de P "IndexError" 134 (.type "IndexError"),de P "KeyError" 135 (.type "KeyError"),de P "ModuleNotFoundError" 136 (.type "ModuleNotFoundError"),de P "NotImplementedError" 137 (.type "NotImplementedError"),de P "PythonFinalizationError" 138 (.type "PythonFinalizationError"),de P "RecursionError" 139 (.type "RecursionError"),de P "UnboundLocalError" 140 (.type "UnboundLocalError"),de P "UnicodeError" 141 (.type "UnicodeError"),de P "BrokenPipeError" 142 (.type "BrokenPipeError"),de P "ConnectionAbortedError" 143 (.type "ConnectionAbortedError"),de P "ConnectionRefusedError" 144 (.type "ConnectionRefusedError"),de P "ConnectionResetError" 145 (.type "ConnectionResetError"),de P "TabError" 146 (.type "TabError"),de P "UnicodeDecodeError" 147 (.type "UnicodeDecodeError"),de P "UnicodeEncodeError" 148 (.type "UnicodeEncodeError"),de P "UnicodeTranslateError" 149 (.type "UnicodeTranslateError"),de P "ExceptionGroup" 150 (.type "ExceptionGroup"),de P "EnvironmentError" 151 (.type "OSError"),de P "IOError" 152 (.type "OSError"),de P "open" 153 (.builtin "open"),de P "quit" 154 (.builtin "builtins.quit#opaque"),de P "exit" 155 (.builtin "builtins.exit#opaque"),de P "copyright" 156 (.builtin "builtins.copyright#opaque"),de P "credits" 157 (.builtin "builtins.credits#opaque"),de P "license" 158 (.builtin "builtins.license#opaque"),de P "help" 159 (.builtin "builtins.help#opaque")]⟩ 159,#[]⟩),
 (1,⟨.type "dict",none,.dict ⟨[de P "builtins" 162 (.ref 4),de P "__main__" 163 (.ref 5)]⟩ 2,#[]⟩),
 (2,⟨.none,none,.dict ⟨[de P "type.__subclasses__.Exception.0" 221 (.int 38 0),de P "type.__subclasses__.Exception.n" 222 (.int 2 0),de P "type.__subclasses__.Exception.1" 297 (.int 84 0)]⟩ 3,#[]⟩),
 (3,⟨.type "dict",none,.dict ⟨[de P "__name__" 165 (.str "law_np0159_01" 1459),de P "__doc__" 166 (.none),de P "__package__" 167 (.none),de P "__loader__" 168 (.builtin "__main__.__loader__#opaque"),de P "__spec__" 169 (.none),de P "__annotations__" 170 (.ref 6),de P "__builtins__" 171 (.ref 4),de P "__file__" 173 (.str "/claim/cut.py" 172),de P "__cached__" 174 (.none),de P "_wall" 193 (.ref 21),de P "TclFault" 224 (.ref 38),de P "Misused" 240 (.ref 51),de P "OutOfFuel" 256 (.ref 63),de P "Raised" 300 (.ref 84),de P "Nest" 336 (.ref 105),de P "Pause" 367 (.ref 126),de P "error" 376 (.ref 139),de P "cut" 384 (.ref 146),de P "note" 392 (.ref 153),de P "note_row" 400 (.ref 160),de P "end_return" 407 (.ref 167),de P "end_proc" 417 (.ref 174),de P "Act" 455 (.ref 191),de P "taker" 471 (.ref 202),de P "note_source" 483 (.ref 209),de P "Machine" 619 (.ref 296),de P "run_code" 631 (.ref 307),de P "Code" 670 (.ref 324),de P "Var" 705 (.ref 345),de P "Host" 819 (.ref 430),de P "no_variable" 828 (.ref 441),de P "var_in" 836 (.ref 448),de P "put_value" 845 (.ref 455),de P "elements_in" 855 (.ref 462),de P "pair_of" 862 (.ref 469),de P "act" 872 (.ref 476),de P "SmallHost" 1026 (.ref 593),de P "is_blank" 1035 (.ref 602),de P "digit" 1043 (.ref 609),de P "hex_sign" 1057 (.ref 616),de P "octal_sign" 1068 (.ref 623),de P "backslash" 1079 (.ref 630),de P "check_behind" 1091 (.ref 637),de P "braced_element" 1102 (.ref 644),de P "quoted_element" 1112 (.ref 651),de P "bare_element" 1122 (.ref 658),de P "find_element" 1130 (.ref 665),de P "split_list" 1139 (.ref 672),de P "mode_of" 1155 (.ref 679),de P "escaped" 1164 (.ref 686),de P "quote" 1175 (.ref 694),de P "join_list" 1184 (.ref 701),de P "set_slot" 1196 (.ref 708),de P "taken" 1206 (.ref 715),de P "op_push" 1216 (.ref 722),de P "op_pop" 1226 (.ref 729),de P "op_load" 1236 (.ref 736),de P "op_load_name" 1246 (.ref 743),de P "op_load_element" 1256 (.ref 750),de P "op_store" 1267 (.ref 757),de P "op_store_name" 1277 (.ref 764),de P "op_store_element" 1289 (.ref 771),de P "op_join" 1300 (.ref 778),de P "call" 1308 (.ref 785),de P "op_invoke" 1318 (.ref 792),de P "go" 1327 (.ref 799),de P "op_start" 1337 (.ref 806),de P "op_jump" 1347 (.ref 813),de P "op_fail" 1357 (.ref 820),de P "plain_ops" 1363 (.ref 827),de P "Each" 1396 (.ref 844),de P "op_each_start" 1408 (.ref 855),de P "is_over" 1416 (.ref 862),de P "op_each_step" 1432 (.ref 869),de P "op_each_take" 1442 (.ref 876),de P "op_each_end" 1452 (.ref 883),de P "each_ops" 1458 (.ref 890),de P "_law_draw" 1471 (.ref 897),de P "_law_bracket" 1482 (.ref 904),de P "_law_word" 1495 (.ref 911),de P "_law_list" 1507 (.ref 918),de P "_law_each" 1513 (.ref 923),de P "_law_call" 1519 (.ref 928),de P "_law_command" 1532 (.ref 935),de P "_law_tree" 1542 (.ref 942),de P "_law_write" 1551 (.ref 949),de P "_law_split" 1562 (.ref 956),de P "_law_join" 1568 (.ref 961),de P "_law_do" 1579 (.ref 968),de P "_law_next" 1590 (.ref 975),de P "_law_text" 1603 (.ref 982),de P "_law_round" 1613 (.ref 989),de P "_law_loop" 1619 (.ref 994),de P "_law_run" 1625 (.ref 999),de P "_law_put_text" 1638 (.ref 1006),de P "_law_put_loop" 1644 (.ref 1011),de P "_law_put" 1662 (.ref 1018),de P "_law_act" 1676 (.ref 1025),de P "law" 1698 (.ref 1032)]⟩ 99,#[]⟩),
 (37,⟨.type "dict",none,.dict ⟨[de P "__module__" 203 (.str "tclcore.faults" 194),de P "__firstlineno__" 207 (.int 5 206),de P "__init__" 215 (.ref 35),de P "__static_attributes__" 217 (.ref 36),de P "__weakref__" 219 (.ref 39),de P "__doc__" 220 (.none)]⟩ 3,#[]⟩),
 (38,⟨.type "type",none,.cls ⟨"TclFault",[.type "Exception"],[.ref 38,.type "Exception",.type "BaseException",.type "object"],37,"TclFault",true,[],[.ref 51,.ref 63],false,none,false⟩,⟨[some (.ref 22),none,some (.str "TclFault" 196),some (.str "TclFault" 204),some (.builtin "Exception.__new__"),some (.bool true)]⟩⟩),
 (50,⟨.type "dict",none,.dict ⟨[de P "__module__" 232 (.str "tclcore.faults" 194),de P "__firstlineno__" 236 (.int 10 235),de P "__static_attributes__" 237 (.ref 49),de P "__doc__" 238 (.none)]⟩ 2,#[]⟩),
 (51,⟨.type "type",none,.cls ⟨"Misused",[.ref 38],[.ref 51,.ref 38,.type "Exception",.type "BaseException",.type "object"],50,"Misused",true,[],[],false,none,false⟩,⟨[some (.ref 42),none,some (.str "Misused" 225),some (.str "Misused" 233),some (.builtin "Exception.__new__"),some (.bool true)]⟩⟩),
 (62,⟨.type "dict",none,.dict ⟨[de P "__module__" 248 (.str "tclcore.faults" 194),de P "__firstlineno__" 252 (.int 12 251),de P "__static_attributes__" 253 (.ref 61),de P "__doc__" 254 (.none)]⟩ 2,#[]⟩),
 (63,⟨.type "type",none,.cls ⟨"OutOfFuel",[.ref 38],[.ref 63,.ref 38,.type "Exception",.type "BaseException",.type "object"],62,"OutOfFuel",true,[],[],false,none,false⟩,⟨[some (.ref 54),none,some (.str "OutOfFuel" 241),some (.str "OutOfFuel" 249),some (.builtin "Exception.__new__"),some (.bool true)]⟩⟩),
 (73,to [.str "NONE" 269]),
 (74,to [.ref 73,.int 0 270,.int 0 271])]++
 (fc 80 false (cf 5 0) "__init__" "Raised.__init__" (.ref 74) m0 272 16 6 281++
 ([(83,⟨.type "dict",none,.dict ⟨[de P "__module__" 264 (.str "tclcore.faults" 194),de P "__firstlineno__" 268 (.int 14 267),de P "__init__" 283 (.ref 81),de P "__static_attributes__" 293 (.ref 82),de P "__weakref__" 295 (.ref 85),de P "__doc__" 296 (.none)]⟩ 3,#[]⟩),
 (84,⟨.type "type",none,.cls ⟨"Raised",[.type "Exception"],[.ref 84,.type "Exception",.type "BaseException",.type "object"],83,"Raised",true,[],[],false,none,false⟩,⟨[some (.ref 66),none,some (.str "Raised" 257),some (.str "Raised" 265),some (.builtin "Exception.__new__"),some (.bool true)]⟩⟩),
 (95,to [.none,.bool false,.str "" 313])]++
 (fc 101 false (cf 6 0) "__init__" "Nest.__init__" (.ref 95) m0 314 29 5 322++
 ([(104,⟨.type "dict",none,.dict ⟨[de P "__module__" 308 (.str "tclcore.faults" 194),de P "__firstlineno__" 312 (.int 27 311),de P "__init__" 324 (.ref 102),de P "__static_attributes__" 329 (.ref 103),de P "__dict__" 331 (.ref 106),de P "__weakref__" 333 (.ref 107),de P "__doc__" 334 (.none)]⟩ 4,#[]⟩),
 (105,⟨.type "type",none,.cls ⟨"Nest",[.type "object"],[.ref 105,.type "object"],104,"Nest",true,[],[],false,none,false⟩,⟨[none,none,some (.str "Nest" 301),some (.str "Nest" 309),some (.builtin "object.__new__"),some (.bool true)]⟩⟩),
 (125,⟨.type "dict",none,.dict ⟨[de P "__module__" 344 (.str "tclcore.faults" 194),de P "__firstlineno__" 348 (.int 34 347),de P "__init__" 357 (.ref 123),de P "__static_attributes__" 360 (.ref 124),de P "__dict__" 362 (.ref 127),de P "__weakref__" 364 (.ref 128),de P "__doc__" 365 (.none)]⟩ 4,#[]⟩),
 (126,⟨.type "type",none,.cls ⟨"Pause",[.type "object"],[.ref 126,.type "object"],125,"Pause",true,[],[],false,none,false⟩,⟨[none,none,some (.str "Pause" 337),some (.str "Pause" 345),some (.builtin "object.__new__"),some (.bool true)]⟩⟩),
 (131,to [.str "NONE" 368]),
 (132,to [.ref 131])]++
 (fc 138 false (tf 8) "error" "error" (.ref 132) m0 369 39 2 374++
 (fc 145 false (tf 9) "cut" "cut" .none m0 377 41 2 382++
 (fc 152 false (tf 10) "note" "note" .none m0 385 45 2 390++
 (fc 187 false (cf 15 0) "__init__" "Act.__init__" .none m1 432 85 3 438++
 ([(190,⟨.type "dict",none,.dict ⟨[de P "__module__" 427 (.str "tclcore.machine" 418),de P "__firstlineno__" 431 (.int 83 430),de P "__init__" 440 (.ref 188),de P "__static_attributes__" 448 (.ref 189),de P "__dict__" 450 (.ref 192),de P "__weakref__" 452 (.ref 193),de P "__doc__" 453 (.none)]⟩ 4,#[]⟩),
 (191,⟨.type "type",none,.cls ⟨"Act",[.type "object"],[.ref 191,.type "object"],190,"Act",true,[],[],false,none,false⟩,⟨[none,none,some (.str "Act" 420),some (.str "Act" 428),some (.builtin "object.__new__"),some (.bool true)]⟩⟩)]++
 (fc 201 false (tf 16) "taker" "taker" .none m1 456 93 3 469++
 (fc 208 false (tf 17) "note_source" "note_source" .none m1 472 100 2 481++
 (fc 222 false (cf 18 0) "__init__" "Machine.__init__" .none m1 496 108 4 503++
 (fc 243 false (cf 18 3) "drop" "Machine.drop" .none m1 525 132 1 529++
 (fc 250 false (cf 18 4) "give" "Machine.give" .none m1 532 135 2 537++
 (fc 257 false (cf 18 5) "leave" "Machine.leave" .none m1 540 142 2 545++
 (fc 264 false (cf 18 6) "take" "Machine.take" .none m1 548 146 2 554++
 (fc 271 false (cf 18 7) "go_on" "Machine.go_on" .none m1 557 158 4 570++
 (fc 278 false (cf 18 8) "unwind" "Machine.unwind" .none m1 573 169 2 581++
 (fc 285 false (cf 18 9) "step" "Machine.step" .none m1 584 186 1 593++
 (fc 292 false (cf 18 10) "run" "Machine.run" .none m1 596 201 1 601++
 ([(295,⟨.type "dict",none,.dict ⟨[de P "__module__" 491 (.str "tclcore.machine" 418),de P "__firstlineno__" 495 (.int 106 494),de P "__init__" 505 (.ref 223),de P "code_for" 516 (.ref 230),de P "enter" 524 (.ref 237),de P "drop" 531 (.ref 244),de P "give" 539 (.ref 251),de P "leave" 547 (.ref 258),de P "take" 556 (.ref 265),de P "go_on" 572 (.ref 272),de P "unwind" 583 (.ref 279),de P "step" 595 (.ref 286),de P "run" 603 (.ref 293),de P "__static_attributes__" 612 (.ref 294),de P "__dict__" 614 (.ref 297),de P "__weakref__" 616 (.ref 298),de P "__doc__" 617 (.none)]⟩ 4,#[]⟩),
 (296,⟨.type "type",none,.cls ⟨"Machine",[.type "object"],[.ref 296,.type "object"],295,"Machine",true,[],[],false,none,false⟩,⟨[none,none,some (.str "Machine" 484),some (.str "Machine" 492),some (.builtin "object.__new__"),some (.bool true)]⟩⟩)]++
 (fc 306 false (tf 19) "run_code" "run_code" .none m1 620 214 2 629++
 (fc 320 false (cf 21 0) "__init__" "Code.__init__" .none m2 646 230 6 655)))))))))))))))))))))))
noncomputable def kf1 (P:Params):Frag:=[(323,⟨.type "dict",none,.dict ⟨[de P "__module__" 641 (.str "tclcore.compcore" 632),de P "__firstlineno__" 645 (.int 228 644),de P "__init__" 657 (.ref 321),de P "__static_attributes__" 663 (.ref 322),de P "__dict__" 665 (.ref 325),de P "__weakref__" 667 (.ref 326),de P "__doc__" 668 (.none)]⟩ 4,#[]⟩),
 (324,⟨.type "type",none,.cls ⟨"Code",[.type "object"],[.ref 324,.type "object"],323,"Code",true,[],[],false,none,false⟩,⟨[none,none,some (.str "Code" 634),some (.str "Code" 642),some (.builtin "object.__new__"),some (.bool true)]⟩⟩)]++
 (fc 341 false (cf 23 0) "__init__" "Var.__init__" .none m3 685 239 1 689++
 ([(344,⟨.type "dict",none,.dict ⟨[de P "__module__" 680 (.str "tclcore.spaces" 671),de P "__firstlineno__" 684 (.int 237 683),de P "__init__" 691 (.ref 342),de P "__static_attributes__" 698 (.ref 343),de P "__dict__" 700 (.ref 346),de P "__weakref__" 702 (.ref 347),de P "__doc__" 703 (.none)]⟩ 4,#[]⟩),
 (345,⟨.type "type",none,.cls ⟨"Var",[.type "object"],[.ref 345,.type "object"],344,"Var",true,[],[],false,none,false⟩,⟨[none,none,some (.str "Var" 673),some (.str "Var" 681),some (.builtin "object.__new__"),some (.bool true)]⟩⟩),
 (357,to [.int 40 720,.none])]++
 (fc 363 false (cf 25 0) "__init__" "Host.__init__" (.ref 357) m4 721 249 3 727++
 (fc 377 false (cf 25 2) "spend" "Host.spend" .none m4 738 265 1 742++
 (fc 419 false (cf 25 8) "leave" "Host.leave" .none m4 787 306 2 792++
 ([(429,⟨.type "dict",none,.dict ⟨[de P "__module__" 715 (.str "tclcore.host" 706),de P "__firstlineno__" 719 (.int 247 718),de P "__init__" 729 (.ref 364),de P "tool" 737 (.ref 371),de P "spend" 744 (.ref 378),de P "where" 751 (.ref 385),de P "run" 760 (.ref 392),de P "run_global" 768 (.ref 399),de P "call" 777 (.ref 406),de P "finish" 786 (.ref 413),de P "leave" 794 (.ref 420),de P "outcome" 802 (.ref 427),de P "__static_attributes__" 812 (.ref 428),de P "__dict__" 814 (.ref 431),de P "__weakref__" 816 (.ref 432),de P "__doc__" 817 (.none)]⟩ 4,#[]⟩),
 (430,⟨.type "type",none,.cls ⟨"Host",[.type "object"],[.ref 430,.type "object"],429,"Host",true,[],[.ref 593],false,none,false⟩,⟨[none,none,some (.str "Host" 708),some (.str "Host" 716),some (.builtin "object.__new__"),some (.bool true)]⟩⟩)]++
 (fc 447 false (tf 27) "var_in" "var_in" .none m4 829 315 2 834++
 (fc 454 false (tf 28) "put_value" "put_value" .none m4 837 319 3 843++
 (fc 468 false (tf 30) "pair_of" "pair_of" .none m4 856 330 1 860++
 (fc 475 false (tf 31) "act" "act" .none m4 863 334 4 870++
 ([(484,to [.int 40 885,.none])]++
 (fc 490 false (cf 32 0) "__init__" "SmallHost.__init__" (.ref 484) m4 886 340 3 892++
 (fc 504 false (cf 32 2) "place" "SmallHost.place" .none m4 903 349 2 908++
 (fc 511 false (cf 32 3) "read_var" "SmallHost.read_var" .none m4 911 352 3 917++
 (fc 518 false (cf 32 4) "write_var" "SmallHost.write_var" .none m4 920 357 4 927++
 (fc 525 false (cf 32 5) "read" "SmallHost.read" .none m4 930 360 2 935++
 (fc 532 false (cf 32 6) "write" "SmallHost.write" .none m4 938 363 3 944++
 (fc 546 false (cf 32 8) "stamp" "SmallHost.stamp" .none m4 955 371 2 960++
 ([(555,to [.none])]++
 (fc 561 false (cf 32 10) "put" "SmallHost.put" (.ref 555) m4 973 378 4 980++
 (fc 568 false (cf 32 11) "remove" "SmallHost.remove" .none m4 983 382 2 988++
 (fc 575 false (cf 32 12) "add" "SmallHost.add" .none m4 991 388 2 999++
 (fc 589 false (cf 32 14) "begin" "SmallHost.begin" .none m4 1010 397 2 1017)))))))))))))))))))))))
noncomputable def kf2 (P:Params):Frag:=[(592,⟨.type "dict",none,.dict ⟨[de P "__module__" 880 (.str "tclcore.host" 706),de P "__firstlineno__" 884 (.int 338 883),de P "__init__" 894 (.ref 491),de P "has" 902 (.ref 498),de P "place" 910 (.ref 505),de P "read_var" 919 (.ref 512),de P "write_var" 929 (.ref 519),de P "read" 937 (.ref 526),de P "write" 946 (.ref 533),de P "drop" 954 (.ref 540),de P "stamp" 962 (.ref 547),de P "array" 972 (.ref 554),de P "put" 982 (.ref 562),de P "remove" 990 (.ref 569),de P "add" 1001 (.ref 576),de P "is_first" 1009 (.ref 583),de P "begin" 1019 (.ref 590),de P "__static_attributes__" 1023 (.ref 591),de P "__doc__" 1024 (.none)]⟩ 2,#[]⟩),
 (593,⟨.type "type",none,.cls ⟨"SmallHost",[.ref 430],[.ref 593,.ref 430,.type "object"],592,"SmallHost",true,[],[],false,none,false⟩,⟨[some (.ref 477),none,some (.str "SmallHost" 873),some (.str "SmallHost" 881),some (.builtin "object.__new__"),some (.bool true)]⟩⟩)]++
 (fc 601 false (tf 34) "is_blank" "is_blank" .none m5 1029 404 1 1033++
 (fc 636 false (tf 41) "check_behind" "check_behind" .none m6 1082 463 3 1089++
 (fc 643 false (tf 42) "braced_element" "braced_element" .none m6 1092 470 2 1100++
 (fc 657 false (tf 44) "bare_element" "bare_element" .none m6 1113 498 2 1120++
 (fc 664 false (tf 45) "find_element" "find_element" .none m6 1123 508 2 1128++
 (fc 671 false (tf 46) "split_list" "split_list" .none m6 1131 518 1 1137++
 (fc 678 false (tf 47) "mode_of" "mode_of" .none m6 1140 525 2 1153++
 ([(687,to [.bool false])]++
 (fc 693 false (tf 49) "quote" "quote" (.ref 687) m6 1165 566 2 1173++
 (fc 700 false (tf 50) "join_list" "join_list" .none m6 1176 578 1 1182++
 (fc 707 false (tf 52) "set_slot" "set_slot" .none m7 1187 584 4 1194++
 (fc 714 false (tf 53) "taken" "taken" .none m7 1197 588 2 1204++
 (fc 721 false (tf 54) "op_push" "op_push" .none m7 1207 593 4 1214++
 (fc 728 false (tf 55) "op_pop" "op_pop" .none m7 1217 595 4 1224++
 (fc 735 false (tf 56) "op_load" "op_load" .none m7 1227 597 4 1234++
 (fc 742 false (tf 57) "op_load_name" "op_load_name" .none m7 1237 599 4 1244++
 (fc 749 false (tf 58) "op_load_element" "op_load_element" .none m7 1247 601 4 1254++
 (fc 756 false (tf 59) "op_store" "op_store" .none m7 1257 603 4 1265++
 (fc 763 false (tf 60) "op_store_name" "op_store_name" .none m7 1268 606 4 1275++
 (fc 770 false (tf 61) "op_store_element" "op_store_element" .none m7 1278 608 4 1287++
 (fc 777 false (tf 62) "op_join" "op_join" .none m7 1290 611 4 1298++
 (fc 784 false (tf 63) "call" "call" .none m7 1301 614 2 1306++
 (fc 791 false (tf 64) "op_invoke" "op_invoke" .none m7 1309 619 4 1316)))))))))))))))))))))))
noncomputable def kf3 (P:Params):Frag:=fc 798 false (tf 65) "go" "go" .none m7 1319 621 3 1325++
 (fc 805 false (tf 66) "op_start" "op_start" .none m7 1328 625 4 1335++
 (fc 812 false (tf 67) "op_jump" "op_jump" .none m7 1338 633 4 1345++
 (fc 819 false (tf 68) "op_fail" "op_fail" .none m7 1348 635 4 1355++
 (fc 826 false (tf 69) "plain_ops" "plain_ops" .none m7 1358 639 0 1361++
 (fc 840 false (cf 70 0) "__init__" "Each.__init__" .none m7 1376 643 3 1382++
 ([(843,⟨.type "dict",none,.dict ⟨[de P "__module__" 1371 (.str "tclcore.ops" 1185),de P "__firstlineno__" 1375 (.int 641 1374),de P "__init__" 1384 (.ref 841),de P "__static_attributes__" 1389 (.ref 842),de P "__dict__" 1391 (.ref 845),de P "__weakref__" 1393 (.ref 846),de P "__doc__" 1394 (.none)]⟩ 4,#[]⟩),
 (844,⟨.type "type",none,.cls ⟨"Each",[.type "object"],[.ref 844,.type "object"],843,"Each",true,[],[],false,none,false⟩,⟨[none,none,some (.str "Each" 1364),some (.str "Each" 1372),some (.builtin "object.__new__"),some (.bool true)]⟩⟩)]++
 (fc 854 false (tf 71) "op_each_start" "op_each_start" .none m7 1397 648 4 1406++
 (fc 861 false (tf 72) "is_over" "is_over" .none m7 1409 653 1 1414++
 (fc 868 false (tf 73) "op_each_step" "op_each_step" .none m7 1417 658 4 1430++
 (fc 875 false (tf 74) "op_each_take" "op_each_take" .none m7 1433 671 4 1440++
 (fc 882 false (tf 75) "op_each_end" "op_each_end" .none m7 1443 673 4 1450++
 (fc 889 false (tf 76) "each_ops" "each_ops" .none m7 1453 675 0 1456++
 (fc 896 false (tf 78) "_law_draw" "_law_draw" .none m8 1461 678 3 1469++
 (fc 903 false (tf 79) "_law_bracket" "_law_bracket" .none m8 1472 683 3 1480++
 (fc 910 false (tf 80) "_law_word" "_law_word" .none m8 1483 691 4 1493++
 (fc 917 false (tf 81) "_law_list" "_law_list" .none m8 1496 704 3 1505++
 (fc 922 true (tf 82) "_law_each" "_law_each" .none m8 1508 715 3 1511++
 (fc 927 true (tf 83) "_law_call" "_law_call" .none m8 1514 725 2 1517++
 (fc 934 false (tf 84) "_law_command" "_law_command" .none m8 1520 727 3 1530++
 (fc 941 false (tf 85) "_law_tree" "_law_tree" .none m8 1533 741 2 1540++
 (fc 948 false (tf 86) "_law_write" "_law_write" .none m8 1543 745 3 1549++
 (fc 955 false (tf 87) "_law_split" "_law_split" .none m8 1552 748 1 1560++
 (fc 960 true (tf 88) "_law_join" "_law_join" .none m8 1563 761 1 1566)))))))))))))))))))))))
noncomputable def kf4 (P:Params):Frag:=fc 967 false (tf 89) "_law_do" "_law_do" .none m8 1569 763 4 1577++
 (fc 974 false (tf 90) "_law_next" "_law_next" .none m8 1580 775 3 1588++
 (fc 981 false (tf 91) "_law_text" "_law_text" .none m8 1591 779 3 1601++
 (fc 988 false (tf 92) "_law_round" "_law_round" .none m8 1604 788 3 1611++
 (fc 993 true (tf 93) "_law_loop" "_law_loop" .none m8 1614 795 3 1617++
 (fc 998 true (tf 94) "_law_run" "_law_run" .none m8 1620 807 3 1623++
 (fc 1005 false (tf 95) "_law_put_text" "_law_put_text" .none m8 1626 816 4 1636++
 (fc 1010 true (tf 96) "_law_put_loop" "_law_put_loop" .none m8 1639 827 4 1642++
 (fc 1017 false (tf 97) "_law_put" "_law_put" .none m8 1645 850 4 1660++
 (fc 1024 false (tf 98) "_law_act" "_law_act" .none m8 1663 868 3 1674++
 (fc 1031 false (tf 99) "law" "law" .none m8 1677 883 1 1696))))))))))
noncomputable def KF (P:Params):Frag:=kf0 P++(kf1 P++(kf2 P++(kf3 P++(kf4 P))))
noncomputable def kAs:List Addr:=[0,1,2,3,37,38,50,51,62,63,73,74,80,81,83,84,95,101,102,104,105,125,126,131,132,138,139,145,146,152,153,187,188,190,191,201,202,208,209,222,223,243,244,250,251,257,258,264,265,271,272,278,279,285,286,292,293,295,296,306,307,320,321,323,324,341,342,344,345,357,363,364,377,378,419,420,429,430,447,448,454,455,468,469,475,476,484,490,491,504,505,511,512,518,519,525,526,532,533,546,547,555,561,562,568,569,575,576,589,590,592,593,601,602,636,637,643,644,657,658,664,665,671,672,678,679,687,693,694,700,701,707,708,714,715,721,722,728,729,735,736,742,743,749,750,756,757,763,764,770,771,777,778,784,785,791,792,798,799,805,806,812,813,819,820,826,827,840,841,843,844,854,855,861,862,868,869,875,876,882,883,889,890,896,897,903,904,910,911,917,918,922,923,927,928,934,935,941,942,948,949,955,956,960,961,967,968,974,975,981,982,988,989,993,994,998,999,1005,1006,1010,1011,1017,1018,1024,1025,1031,1032]
theorem kAs_eq (P:Params):kAs=(KF P).map (·.1):=by kernel_rfl
end Mine
namespace Mine
set_option maxHeartbeats 0
open PySem PySem.W PyProof.Rows PySem.Calls
abbrev rwl:OpenLaw:=PySem.Challenge.rw_np0159_01
noncomputable def obsK (s:Shared):List (Option Obj):=kAs.map s.heap.get?
noncomputable def valK (w:World):List (Option Obj):=(KF w.params).map fun p=>some p.2
noncomputable def qq:Program:=view prg [99]
noncomputable def looseN:List Str:=prg.boundNames.filter fun n=>n != "law"
theorem openSeen_tw:@openSeen=@Fast.tw4187177175401517315:=Fast.te4187177175401517315
theorem left:LeftO prg qq looseN (fun s=>recOk [] s) obsK valK 14000:=left_of_whole (Zf:=fun s=>kAs.map (getT s)) (fun s=>congrArg (kAs.map ·) (funext fun a=>getT_eq)) fun w=>by
 rw [whole_tw,openSeen_tw]
 kernel_rfl
theorem said0:Fast.tw12908688711261696721 (Fast.tw2368527892694137696 rwl).prog=true:=by
 unfold Fast.tw12908688711261696721
 simp only [Bool.and_eq_true]
 repeat' apply And.intro
 all_goals (as_aux_lemma=>kernel_rfl)
theorem said:rwl.wellSaid=true:=by
 rw [show @OpenLaw.wellSaid=@Fast.tw9446332074065402090 from Fast.te9446332074065402090]
 unfold Fast.tw9446332074065402090
 simp only [Bool.and_eq_true]
 repeat' apply And.intro
 ·unfold Fast.tw17960256430627541270 Fast.tw2436336058641802641
  simp only [Bool.and_eq_true]
  repeat' apply And.intro
  ·exact said0
  all_goals kernel_rfl
 all_goals kernel_rfl
theorem holds_of_call {d:DefRec} {kwd:List (Str×Expr)} (hd:defOf qq "law"=some (d,kwd)) (hp:prg.theDef "law"=some (d.params,d.body,d.scope)) (hk:kwWritten? d.params.kwonlyargs d.params.kw_defaults=some kwd) (hw:rwl.row.toRowW.promised)
  (call:WalkO qq looseN (fun U U=>True) (fun w h=>(KF w.params).In h) rwl.row.toRowW d kwd fun f vs=>PySem.call f vs):rwl.Holds:=by
 refine holds_law said fun k1=>?_
 exact W.holds_open (r:=rwl.row) (q:=qq) (loose:=looseN) (Xt:=fun s=>recOk [] s) (XP:=fun U U=>True) (Yf:=obsK) (Ya:=valK) (YP:=fun w h=>(KF w.params).In h) (N:=14000)
  left (fun w s e=>Frag.in_of (kAs_eq _) e) (fun w h h' Y k=>Frag.In.keeps Y k) (fun U U=>trivial) (fun U U U U U=>trivial) hd hp hk (fun s e=>recFacts_of e) rfl k1 (by decide +kernel) ⟨rfl,rfl,rfl,rfl,rfl,by decide +kernel⟩ hw call
end Mine
namespace Mine
set_option genInjectivity true
open PySem PySem.W PySem.Builtin PySem.Builtin.Str
inductive AV where
 | none
 | bool (b:Bool)
 | int (i:Int)
 | str (s:Str)
 | ref (i:Nat)
 | tup (xs:List AV)
 | lst (xs:List AV)
 | fn (a:Addr)
 | ty (n:String)
 | bi (n:String)
 | rng (n:Nat)
noncomputable def AV.ctorIdx:AV->Nat:=fun t=>AV.casesOn t 0 (fun U=>1) (fun U=>2) (fun U=>3) (fun U=>4) (fun U=>5) (fun U=>6) (fun U=>7) (fun U=>8) (fun U=>9) (fun U=>10)
inductive AObj where
 | list (xs:List AV)
 | dict (kvs:List (AV×AV))
 | kdict (kvs:List (AV×AV))
 | inst (c:Addr) (fs:List (Str×AV))
 | exc (c:Addr) (fs:List (Str×AV))
noncomputable def AObj.ctorIdx:AObj->Nat:=fun t=>AObj.casesOn t (fun U=>0) (fun U=>1) (fun U=>2) (fun U U=>3) (fun U U=>4)
structure AHeap where
 next:Nat
 get:Nat->Option AObj
noncomputable def AHeap.set (σ:AHeap) (i:Nat) (o:AObj):AHeap:=⟨σ.next,fun j=>if j=i then some o else σ.get j⟩
noncomputable def AHeap.del (σ:AHeap) (i:Nat):AHeap:=⟨σ.next,fun j=>if j=i then Option.none else σ.get j⟩
noncomputable def AHeap.new (σ:AHeap) (o:AObj):AHeap:=⟨σ.next+1,fun j=>if j=σ.next then some o else σ.get j⟩
noncomputable abbrev Loc:=Str->Option AV
noncomputable def Loc.put (m:Loc) (x:Str) (v:Option AV):Loc:=fun y=>if y=x then v else m y
noncomputable abbrev lim:Nat:=1000000
noncomputable def absO (f:Value->Option AV) (a:Addr) (o:Obj):Option AV:=match o.data with
 | .seq vs _=>if o.cls==.type "tuple" then (vs.toList.mapM f).map .tup else none
 | .func _=>some (.fn a)
 | .cls _=>some (.fn a)
 | _=>none
noncomputable def absV:Nat->Frag->Value->Option AV
 | 0,_,_=>none
 | n+1,K,v=>match v with
  | .none=>some .none
  | .bool b=>some (.bool b)
  | .int i _=>some (.int i)
  | .str s _=>some (.str s)
  | .builtin n=>some (.bi n)
  | .type n=>some (.ty n)
  | .ref a=>(K.lookup a).bind (absO (absV n K) a)
  | _=>none
noncomputable def isRefV:Value->Bool
 | .ref _=>true
 | _=>false
noncomputable def okMro:List Value->Bool
 | []=>false
 | v::r=>v::r==[.type "object"]||v::r==[.type "Exception",.type "BaseException",.type "object"]||(isRefV v&&okMro r)
noncomputable def clsBase (K:Frag) (c:Addr):Bool:=hasDictIn K c&&(clsIn K c).any (fun cd=>okMro cd.mro)&&findIn K (.ref c) "__setattr__"==some (some (.builtin "object.__setattr__"))&&findIn K (.ref c) "__getattr__"==some none
noncomputable def clsInst (K:Frag) (c:Addr):Bool:=clsBase K c&&findIn K (.ref c) "__getattribute__"==some (some (.builtin "object.__getattribute__"))&&makesIn K c
noncomputable def clsExc (K:Frag) (c:Addr):Bool:=clsBase K c&&findIn K (.ref c) "__getattribute__"==some (some (.builtin "BaseException.__getattribute__"))&&(clsIn K c).any fun cd=>cd.mro.contains (.type "BaseException")
noncomputable def fldOk (K:Frag) (c:Addr) (x:Str):Bool:=findIn K (.ref c) x==some none
noncomputable abbrev EQ:=AV->AHeap->Prop
noncomputable abbrev EX:=Nat->AHeap->Prop
noncomputable abbrev PT:=AHeap->EQ->EX->Prop
structure VW (x:PT) (σ:AHeap) (Q:EQ) (E:EX):Prop where
 r:x σ Q E
noncomputable abbrev CallT:=Option Nat->Addr->List AV->PT
structure Cx where
 P:Params
 sc:Scope
 hd:Option Nat
 call:CallT
noncomputable def glob (K:Frag) (x:Str):Option AV:=match nsIn K mainGlobals x with
 | some (some v)=>absV 2 K v
 | some none=>match nsIn K builtinsNs x with
  | some (some v)=>absV 1 K v
  | _=>none
 | none=>none
noncomputable def frzL:List (Nat×Nat×Nat):=[(90,21,27),(590,12,26),(688,24,38),(688,25,37),(688,40,42),(689,11,32),(690,18,20),(690,22,24),(694,16,35),(698,20,34),(699,16,54),(701,16,30),(703,12,26),(708,16,30),(710,16,28),(712,16,29),(713,11,67),(714,12,25),(716,11,30),(719,17,65),(719,18,30),(719,19,29),(719,32,39),(719,33,38),(719,41,55),(719,42,47),(719,49,54),(719,57,64),(719,58,63),(723,11,97),(724,18,22),(724,54,86),(726,18,53),(726,55,57),(726,68,74),(726,68,111),(726,77,111),(731,15,21),(732,25,46),(732,58,60),(734,33,70),(737,16,108),(737,18,30),(737,40,52),(737,62,76),(737,89,101),(738,32,88),(738,34,47),(740,28,72),(742,29,71),(742,31,43),(742,52,64),(743,28,72),(743,30,42),(743,52,64),(744,11,50),(753,108,117),(762,20,110),(778,67,69),(784,33,39),(792,29,35),(797,12,81),(798,12,48),(801,28,55),(802,18,51),(810,25,44),(813,19,101),(820,21,27),(834,45,78),(837,12,29),(857,19,38),(859,21,42),(873,26,35),(892,11,37),(902,16,59),(907,60,70),(910,57,59),(912,42,44),(914,16,26)]
noncomputable def frzF (p:Pos):Bool:=frzL.contains (p.line,p.col,p.endCol)
noncomputable def smallI (x:Int):Bool:=decide (-(2 ^ 62)<x)&&decide (x<2 ^ 62)
noncomputable def keyIs (k:AV):AV->Bool
 | .str y=>match k with | .str x=>x==y | _=>false
 | .int y=>match k with | .int x=>x==y | _=>false
 | _=>false
noncomputable def keyOk (k:AV):AV->Bool
 | .str _=>match k with | .str _=>true | _=>false
 | .int _=>match k with | .int _=>true | _=>false
 | _=>false
noncomputable def getD (kvs:List (AV×AV)) (k:AV):Option (Option AV):=if kvs.all (fun e=>keyOk k e.1) then some ((kvs.find? fun e=>keyIs k e.1).map (·.2)) else none
noncomputable def putD (kvs:List (AV×AV)) (k v:AV):List (AV×AV):=match kvs with
 | []=>[(k,v)]
 | e::r=>if keyIs k e.1 then (e.1,v)::r else e::putD r k v
noncomputable def delD (kvs:List (AV×AV)) (k:AV):List (AV×AV):=match kvs with
 | []=>[]
 | e::r=>if keyIs k e.1 then r else e::delD r k
noncomputable def putF (fs:List (Str×AV)) (x:Str) (v:AV):List (Str×AV):=match fs with
 | []=>[(x,v)]
 | e::r=>if e.1==x then (e.1,v)::r else e::putF r x v
noncomputable def isStrA:AV->Bool
 | .str _=>true
 | _=>false
noncomputable def notBi:AV->Bool
 | .bi _=>false
 | _=>true
noncomputable def isExcIn (K:Frag) (c:Addr):Bool:=(clsIn K c).any fun cd=>cd.mro.contains (.type "BaseException")
noncomputable def fnOf (K:Frag):Option Value->Option Addr
 | some (.ref f)=>if fnIn K f&&isFn K (.ref f) then some f else none
 | _=>none
noncomputable def methA (K:Frag) (c:Addr) (x:Str):Option Addr:=(findIn K (.ref c) x).bind (fnOf K)
noncomputable def clsMeth (K:Frag) (c:Addr) (x:Str):Option Addr:=
 if readsIn K c (.type "type")&&specialIn K (.ref c) "__getattribute__"==some (some (.builtin "type.__getattribute__")) then (match findCls K (.ref c) (.type "type") x with
  | some (.val (.ref f))=>if fnIn K f then some f else none
  | _=>none) else none
noncomputable def newSlot (sl:Array (Option Value)):Bool:=sl.size==6&&sl[4]?==some (some (.builtin "Exception.__new__"))
noncomputable def excInitO (K:Frag) (c:Addr) (o:Obj):Option Addr:=match o.data with
 | .cls cd=>if o.cls==.type "type"&&newSlot o.slots&&!cd.hasDel&&cd.mro==[.ref c,.type "Exception",.type "BaseException",.type "object"]&&nsOkIn K cd.ns&&clsExc K c then (nsIn K cd.ns "__init__").bind (fnOf K) else none
 | _=>none
noncomputable def excInit (K:Frag) (c:Addr):Option Addr:=(K.lookup c).bind (excInitO K c)
inductive NewL (xs:List AV) (σ:AHeap) (Q:EQ):Bool->Prop
 | f (hl:xs.length<=lim) (q:Q (.lst xs) σ):NewL xs σ Q true
 | n (hl:xs.length<=lim) (q:Q (.ref σ.next) (σ.new (.list xs))):NewL xs σ Q false
inductive NewD (kvs:List (AV×AV)) (σ:AHeap) (Q:EQ):Prop
 | mk (hs:kvs.all (fun e=>isStrA e.1)=true) (q:Q (.ref σ.next) (σ.new (.dict (kvs.foldl (fun d e=>putD d e.1 e.2) []))))
inductive FreezeP (σ:AHeap) (Q:EQ):AV->Prop
 | mk {i:Nat} {xs:List AV} (h:σ.get i=some (.list xs)) (q:Q (.lst xs) (σ.del i)):FreezeP σ Q (.ref i)
inductive BinP (frz:Bool) (σ:AHeap) (Q:EQ):Operator->AV->AV->Prop
 | ai {x y:Int} (q:Q (.int (x+y)) σ):BinP frz σ Q .Add (.int x) (.int y)
 | si {x y:Int} (q:Q (.int (x - y)) σ):BinP frz σ Q .Sub (.int x) (.int y)
 | mi {x y:Int} (hx:smallI x=true) (hy:smallI y=true) (q:Q (.int (x*y)) σ):BinP frz σ Q .Mult (.int x) (.int y)
 | mo {x y:Int} (h:0<y) (q:Q (.int (x % y)) σ):BinP frz σ Q .Mod (.int x) (.int y)
 | pw {y:Nat} (h:y<=1000) (q:Q (.int (3 ^ y)) σ):BinP frz σ Q .Pow (.int 3) (.int y)
 | as {x y:Str} (h:x.length+y.length<=lim) (q:Q (.str (x++y)) σ):BinP frz σ Q .Add (.str x) (.str y)
 | al {xs ys:List AV} (q:NewL (xs++ys) σ Q frz):BinP frz σ Q .Add (.lst xs) (.lst ys)
 | ml {x:AV} {n:Nat} (h:n<=1000) (q:NewL (List.replicate n x) σ Q frz):BinP frz σ Q .Mult (.lst [x]) (.int n)
inductive AugP (σ:AHeap) (Q:EQ):Operator->AV->AV->Prop
 | a {x y:Int} (q:Q (.int (x+y)) σ):AugP σ Q .Add (.int x) (.int y)
 | s {x y:Int} (q:Q (.int (x - y)) σ):AugP σ Q .Sub (.int x) (.int y)
mutual
inductive DatR (σ:AHeap):Nat->AV->PyData->Prop
 | int {n:Nat} {i:Int}:DatR σ (n+1) (.int i) (.int i)
 | str {n:Nat} {s:Str} (h:PyData.strOk s=true):DatR σ (n+1) (.str s) (.str s)
 | tup {n:Nat} {xs:List AV} {ds:List PyData} (h:DatsR σ n xs ds):DatR σ (n+1) (.tup xs) (.tuple ds)
 | lst {n:Nat} {xs:List AV} {ds:List PyData} (h:DatsR σ n xs ds):DatR σ (n+1) (.lst xs) (.list ds)
 | ref {n i:Nat} {xs:List AV} {ds:List PyData} (e:σ.get i=some (.list xs)) (h:DatsR σ n xs ds):DatR σ (n+1) (.ref i) (.list ds)
inductive DatsR (σ:AHeap):Nat->List AV->List PyData->Prop
 | nil {n:Nat}:DatsR σ n [] []
 | cons {n:Nat} {x:AV} {d:PyData} {xs:List AV} {ds:List PyData} (h:DatR σ n x d) (r:DatsR σ n xs ds):DatsR σ n (x::xs) (d::ds)
end
inductive EqR (σ:AHeap):AV->AV->Bool->Prop
 | s {x y:Str}:EqR σ (.str x) (.str y) (x==y)
 | i {x y:Int}:EqR σ (.int x) (.int y) (x==y)
 | d {a b:AV} {x y:PyData} (ha:DatR σ 6 a x) (hb:DatR σ 6 b y):EqR σ a b (PyData.eqv x y)
 | e {i j:Nat} (ha:σ.get i=some (.dict [])) (hb:σ.get j=some (.dict [])):EqR σ (.ref i) (.ref j) true
inductive InR (σ:AHeap):AV->AV->Bool->Prop
 | s {x y:Str}:InR σ (.str x) (.str y) (Txt.contains y x)
 | lt {x:Str} {ys:List Str}:InR σ (.str x) (.lst (ys.map .str)) (ys.any (·==x))
 | tt {x:Str} {ys:List Str}:InR σ (.str x) (.tup (ys.map .str)) (ys.any (·==x))
 | li {x:Int} {ys:List Int}:InR σ (.int x) (.lst (ys.map .int)) (ys.any (·==x))
 | d {x:Str} {i:Nat} {kvs:List (AV×AV)} {r:Option AV} (h:σ.get i=some (.dict kvs)) (e:getD kvs (.str x)=some r):InR σ (.str x) (.ref i) r.isSome
noncomputable def isN:AV->Bool
 | .none=>true
 | _=>false
inductive CmpR (σ:AHeap):CmpOp->AV->AV->Bool->Prop
 | eq {a b:AV} {r:Bool} (h:EqR σ a b r):CmpR σ .Eq a b r
 | ne {a b:AV} {r:Bool} (h:EqR σ a b r):CmpR σ .NotEq a b (!r)
 | lt {x y:Int}:CmpR σ .Lt (.int x) (.int y) (decide (x<y))
 | le {x y:Int}:CmpR σ .LtE (.int x) (.int y) (decide (x<=y))
 | gt {x y:Int}:CmpR σ .Gt (.int x) (.int y) (decide (y<x))
 | ge {x y:Int}:CmpR σ .GtE (.int x) (.int y) (decide (y<=x))
 | is {a:AV}:CmpR σ .Is a .none (isN a)
 | nis {a:AV}:CmpR σ .IsNot a .none (!isN a)
 | inn {a b:AV} {r:Bool} (h:InR σ a b r):CmpR σ .In a b r
 | nin {a b:AV} {r:Bool} (h:InR σ a b r):CmpR σ .NotIn a b (!r)
inductive CmpP (op:CmpOp) (a b:AV) (σ:AHeap) (Q:Bool->AHeap->Prop):Prop
 | mk {r:Bool} (h:CmpR σ op a b r) (q:Q r σ)
inductive FldsP (σ:AHeap) (i:Nat):Addr->List (Str×AV)->Prop
 | inst {c:Addr} {fs:List (Str×AV)} (h:σ.get i=some (.inst c fs)):FldsP σ i c fs
 | exc {c:Addr} {fs:List (Str×AV)} (h:σ.get i=some (.exc c fs)):FldsP σ i c fs
inductive AttrP (x:Str) (σ:AHeap) (Q:EQ):AV->Prop
 | mk {i:Nat} {c:Addr} {fs:List (Str×AV)} {v:AV} (h:FldsP σ i c fs) (e:fs.lookup x=some v) (b:notBi v=true) (q:Q v σ):AttrP x σ Q (.ref i)
inductive SetP (K:Frag) (x:Str) (w:AV) (σ:AHeap) (Q:AHeap->Prop):AV->Prop
 | inst {i:Nat} {c:Addr} {fs:List (Str×AV)} (h:σ.get i=some (.inst c fs)) (f:(fldOk K c x&&decide (fs.length<=900))=true) (q:Q (σ.set i (.inst c (putF fs x w)))):SetP K x w σ Q (.ref i)
 | exc {i:Nat} {c:Addr} {fs:List (Str×AV)} (h:σ.get i=some (.exc c fs)) (f:(fldOk K c x&&decide (fs.length<=900))=true) (q:Q (σ.set i (.exc c (putF fs x w)))):SetP K x w σ Q (.ref i)
inductive IdxR:Int->Nat->Nat->Prop
 | p {k n:Nat} (h:k<n) (hl:n<=lim):IdxR k n k
 | m {k n:Nat} (h:0<k∧k<=n) (hl:n<=lim):IdxR (-(k:Int)) n (n - k)
inductive SubP (σ:AHeap) (Q:EQ):AV->AV->Prop
 | str {s:Str} {n:Int} {j:Nat} (h:IdxR n s.length j) (q:Q (.str (Txt.item s n)) σ):SubP σ Q (.str s) (.int n)
 | ref {i j:Nat} {xs:List AV} {n:Int} {w:AV} (h:σ.get i=some (.list xs)) (hi:IdxR n xs.length j) (e:xs[j]?=some w) (q:Q w σ):SubP σ Q (.ref i) (.int n)
 | lst {j:Nat} {xs:List AV} {n:Int} {w:AV} (hi:IdxR n xs.length j) (e:xs[j]?=some w) (q:Q w σ):SubP σ Q (.lst xs) (.int n)
 | tup {j:Nat} {xs:List AV} {n:Int} {w:AV} (hi:IdxR n xs.length j) (e:xs[j]?=some w) (q:Q w σ):SubP σ Q (.tup xs) (.int n)
 | ds {i:Nat} {kvs:List (AV×AV)} {x:Str} {w:AV} (h:σ.get i=some (.dict kvs)) (e:getD kvs (.str x)=some (some w)) (q:Q w σ):SubP σ Q (.ref i) (.str x)
 | di {i:Nat} {kvs:List (AV×AV)} {x:Int} {w:AV} (h:σ.get i=some (.dict kvs)) (e:getD kvs (.int x)=some (some w)) (q:Q w σ):SubP σ Q (.ref i) (.int x)
 | ks {i:Nat} {kvs:List (AV×AV)} {x:Str} {w:AV} (h:σ.get i=some (.kdict kvs)) (e:getD kvs (.str x)=some (some w)) (q:Q w σ):SubP σ Q (.ref i) (.str x)
inductive PartR:AV->Option Int->Prop
 | n:PartR .none none
 | i {k:Int}:PartR (.int k) (some k)
inductive ListR (σ:AHeap):AV->List AV->Prop
 | lst {xs:List AV}:ListR σ (.lst xs) xs
 | ref {i:Nat} {xs:List AV} (h:σ.get i=some (.list xs)):ListR σ (.ref i) xs
inductive SliceP (frz:Bool) (σ:AHeap) (Q:EQ):AV->AV->AV->Prop
 | str {s:Str} {lo hi:AV} {a b:Option Int} (ha:PartR lo a) (hb:PartR hi b) (hl:s.length<=lim) (q:Q (.str (Txt.slice s a b)) σ):SliceP frz σ Q (.str s) lo hi
 | dr {v:AV} {xs:List AV} {k:Nat} (h:ListR σ v xs) (hl:xs.length<=lim) (q:NewL (xs.drop k) σ Q frz):SliceP frz σ Q v (.int k) .none
 | tk {v:AV} {xs:List AV} {k:Nat} (h:ListR σ v xs) (hl:xs.length<=lim) (q:NewL (xs.take k) σ Q frz):SliceP frz σ Q v .none (.int k)
inductive SetItP (w:AV) (σ:AHeap) (Q:AHeap->Prop):AV->AV->Prop
 | lst {i k:Nat} {xs:List AV} (h:σ.get i=some (.list xs)) (hk:k<xs.length) (hl:xs.length<=lim) (q:Q (σ.set i (.list (xs.set k w)))):SetItP w σ Q (.ref i) (.int k)
 | d {i:Nat} {kvs:List (AV×AV)} {k:AV} {r:Option AV} (h:σ.get i=some (.dict kvs)) (hk:keyOk k k=true) (e:getD kvs k=some r) (hl:kvs.length<=1000) (q:Q (σ.set i (.dict (putD kvs k w)))):SetItP w σ Q (.ref i) k
inductive LenR (σ:AHeap):AV->Nat->Prop
 | str {s:Str} (hl:s.length<=lim):LenR σ (.str s) s.length
 | lst {v:AV} {xs:List AV} (h:ListR σ v xs) (hl:xs.length<=lim):LenR σ v xs.length
 | tup {xs:List AV} (hl:xs.length<=lim):LenR σ (.tup xs) xs.length
inductive BiP (hd:Option Nat) (K:Frag) (σ:AHeap) (Q:EQ):String->List AV->Prop
 | len {v:AV} {n:Nat} (h:LenR σ v n) (q:Q (.int n) σ):BiP hd K σ Q "len" [v]
 | sum {ns:List Int} (h:hd=none) (q:Q (.int ns.sum) σ):BiP hd K σ Q "sum" [.lst (ns.map .int)]
 | isT {xs:List AV} (q:Q (.bool true) σ):BiP hd K σ Q "isinstance" [.tup xs,.ty "tuple"]
 | isC {s:Str} {c:Addr} (h:(isClsIn K c&&typeIn K (.ref c)==some (.type "type"))=true) (q:Q (.bool false) σ):BiP hd K σ Q "isinstance" [.str s,.fn c]
inductive TyP (σ:AHeap) (Q:EQ):String->List AV->Prop
 | range {n:Nat} (h:n<=lim) (q:Q (.rng n) σ):TyP σ Q "range" [.int n]
 | tuple {v:AV} {xs:List AV} (h:ListR σ v xs) (hl:xs.length<=lim) (q:Q (.tup xs) σ):TyP σ Q "tuple" [v]
inductive Mt where
 | fn (f:Addr)
 | self (f:Addr)
 | append | lpop | get | dpop | join | find | count | exc
noncomputable def Mt.ctorIdx:Mt->Nat:=fun t=>Mt.casesOn t (fun U=>0) (fun U=>1) 2 3 4 5 6 7 8 9
inductive GetMP (K:Frag) (σ:AHeap) (Q:Mt->AHeap->Prop):AV->Str->Prop
 | append {i:Nat} {xs:List AV} (h:σ.get i=some (.list xs)) (q:Q .append σ):GetMP K σ Q (.ref i) "append"
 | lpop {i:Nat} {xs:List AV} (h:σ.get i=some (.list xs)) (q:Q .lpop σ):GetMP K σ Q (.ref i) "pop"
 | get {i:Nat} {kvs:List (AV×AV)} (h:σ.get i=some (.dict kvs)) (q:Q .get σ):GetMP K σ Q (.ref i) "get"
 | dpop {i:Nat} {kvs:List (AV×AV)} (h:σ.get i=some (.dict kvs)) (q:Q .dpop σ):GetMP K σ Q (.ref i) "pop"
 | inst {i:Nat} {c f:Addr} {fs:List (Str×AV)} {x:Str} (h:σ.get i=some (.inst c fs)) (m:methA K c x=some f) (q:Q (.self f) σ):GetMP K σ Q (.ref i) x
 | cls {c f:Addr} {x:Str} (m:clsMeth K c x=some f) (q:Q (.fn f) σ):GetMP K σ Q (.fn c) x
 | join {s:Str} (q:Q .join σ):GetMP K σ Q (.str s) "join"
 | find {s:Str} (q:Q .find σ):GetMP K σ Q (.str s) "find"
 | count {s:Str} (q:Q .count σ):GetMP K σ Q (.str s) "count"
 | exc (q:Q .exc σ):GetMP K σ Q (.ty "Exception") "__init__"
inductive MtP (σ:AHeap) (Q:EQ):Mt->AV->List AV->Prop
 | append {i:Nat} {xs:List AV} {v:AV} (h:σ.get i=some (.list xs)) (hl:xs.length<lim) (q:Q .none (σ.set i (.list (xs++[v])))):MtP σ Q .append (.ref i) [v]
 | lpop {i:Nat} {xs:List AV} {v:AV} (h:σ.get i=some (.list (xs++[v]))) (hl:xs.length<lim) (q:Q v (σ.set i (.list xs))):MtP σ Q .lpop (.ref i) []
 | lpop0 {i:Nat} {xs:List AV} {v:AV} (h:σ.get i=some (.list (v::xs))) (hl:xs.length<lim) (q:Q v (σ.set i (.list xs))):MtP σ Q .lpop (.ref i) [.int 0]
 | get {i:Nat} {kvs:List (AV×AV)} {k d:AV} {r:Option AV} (h:σ.get i=some (.dict kvs)) (hk:keyOk k k=true) (e:getD kvs k=some r) (q:Q (r.getD d) σ):MtP σ Q .get (.ref i) [k,d]
 | dpop {i:Nat} {kvs:List (AV×AV)} {k v:AV} (h:σ.get i=some (.dict kvs)) (hk:keyOk k k=true) (e:getD kvs k=some (some v)) (hl:kvs.length<=1000) (q:Q v (σ.set i (.dict (delD kvs k)))):MtP σ Q .dpop (.ref i) [k]
 | dpopd {i:Nat} {kvs:List (AV×AV)} {k d:AV} (h:σ.get i=some (.dict kvs)) (hk:keyOk k k=true) (e:getD kvs k=some none) (q:Q d σ):MtP σ Q .dpop (.ref i) [k,d]
 | join {s:Str} {v:AV} {ss:List Str} (h:ListR σ v (ss.map .str)) (hj:JoinOk s ss=true) (q:Q (.str (Txt.join s ss)) σ):MtP σ Q .join (.str s) [v]
 | find {s y:Str} (q:Q (.int (Txt.find s y)) σ):MtP σ Q .find (.str s) [.str y]
 | count {s y:Str} (q:Q (.int (Txt.count s y)) σ):MtP σ Q .count (.str s) [.str y]
 | exc {i:Nat} {c:Addr} {fs:List (Str×AV)} {o v:AV} (h:σ.get i=some (.exc c fs)) (q:Q .none σ):MtP σ Q .exc o [.ref i,v]
inductive TruthP (σ:AHeap) (Q:Bool->AHeap->Prop):AV->Prop
 | b {b:Bool} (q:Q b σ):TruthP σ Q (.bool b)
 | n (q:Q false σ):TruthP σ Q .none
inductive LoopP (σ:AHeap) (Q:List AV->AHeap->Prop):AV->Prop
 | lst {v:AV} {xs:List AV} (h:ListR σ v xs) (hl:xs.length<=lim) (q:Q xs σ):LoopP σ Q v
 | tup {xs:List AV} (hl:xs.length<=lim) (q:Q xs σ):LoopP σ Q (.tup xs)
 | rng {n:Nat} (h:n<=lim) (q:Q ((List.range n).map fun (k:Nat)=>AV.int k) σ):LoopP σ Q (.rng n)
 | dict {i:Nat} {kvs:List (AV×AV)} (h:σ.get i=some (.dict kvs)) (hs:kvs.all (fun e=>isStrA e.1)=true) (hl:kvs.length<=lim) (q:Q (kvs.map (·.1)) (σ.set i (.kdict kvs))):LoopP σ Q (.ref i)
noncomputable def standsA (σ₀:AHeap) (v:AV) (σ:AHeap):Prop:=match v with
 | .ref i=>match σ₀.get i with
  | some (.list xs)=>σ.get i=some (.list xs)
  | _=>True
 | _=>True
inductive RaiseP (P:Params) (hd:Option Nat) (E:EX) (σ:AHeap):AV->Prop
 | mk {i:Nat} {c:Addr} {fs:List (Str×AV)} (h:σ.get i=some (.exc c fs)) (t:typeIn (KF P) (.ref c)=some (.type "type")) (hh:(hd.isNone||hd==some i)=true) (q:E i σ):RaiseP P hd E σ (.ref i)
inductive CatchP (P:Params) (i:Nat) (a:Addr) (σ:AHeap) (B:Prop):Prop
 | mk {c:Addr} {fs:List (Str×AV)} (h:σ.get i=some (.exc c fs)) (s:subIn (KF P) (.ref c) (.ref a)=some true) (b:B)
inductive CompP (frz:Bool) (v:AV) (xs:List AV) (σ:AHeap) (B:AV->AHeap->EQ->Prop) (Q:EQ):Prop
 | mk (J:List AV->List AV->AHeap->Prop) (j0:J [] xs σ) (st:∀ ys x r σ',J ys (x::r) σ'->standsA σ v σ'∧B x σ' fun y σ''=>J (ys++[y]) r σ'') (en:∀ ys σ',J ys [] σ'->standsA σ v σ'∧NewL ys σ' Q frz)
noncomputable def locNm (sc:Scope) (x:Str):Bool:=sc.names.lookup x==some .local||sc.names.lookup x==some .cell
noncomputable def relab (sc outer:Scope):Scope:={sc with names:=sc.names.map fun (n,k)=>if k==.free&&outer.kind==.function&&outer.names.lookup n==some .cell then (n,.cell) else (n,k)}
noncomputable def tagE:Expr->Nat
 | .Starred ..=>1
 | .Set ..=>2
 | .Call ..=>3
 | .ListComp ..=>4
 | .SetComp ..=>5
 | .DictComp ..=>6
 | .Slice ..=>7
 | .Attribute ..=>8
 | .UnaryOp ..=>9
 | .BoolOp ..=>10
 | .IfExp ..=>11
 | .Compare ..=>12
 | .Name ..=>13
 | .List ..=>14
 | .Tuple ..=>15
 | _=>0
noncomputable def isStar (e:Expr):Bool:=tagE e==1
noncomputable def isSetE (e:Expr):Bool:=tagE e==2
noncomputable def isCompE (e:Expr):Bool:=tagE e==4||tagE e==5||tagE e==6
noncomputable def Gu (b:Bool) (C:Prop):Prop:=match b with
 | true=>C
 | false=>True
theorem Gu.use {b:Bool} {C:Prop} (g:Gu b C) (h:b=true):C:=by rw [h] at g; exact g
noncomputable def GuO {α:Type} (o:Option α) (C:α->Prop):Prop:=match o with
 | none=>True
 | some a=>C a
theorem GuO.use {α:Type} {o:Option α} {a:α} {C:α->Prop} (g:GuO o C) (h:o=some a):C a:=by rw [h] at g; exact g
theorem GuO.of {α:Type} {o:Option α} {C:α->Prop} (h:∀ a,o=some a->C a):GuO o C:=by
 induction o using Option.casesOn with
 | none=>trivial
 | some a=>exact h a rfl
theorem GuO.ite {α:Type} {c:Prop} [Decidable c] {o:Option α} {C:α->Prop} (h:c->GuO o C):GuO (if c then o else none) C:=by
 by_cases z:c
 ·rw [if_pos z]; exact h z
 ·rw [if_neg z]; exact trivial
noncomputable def isSliceE (e:Expr):Bool:=tagE e==7
noncomputable def isAttrE (e:Expr):Bool:=tagE e==8
noncomputable def isTestE (e:Expr):Bool:=tagE e==9||tagE e==10||tagE e==11||tagE e==12
theorem nameE_inv {e:Expr} (h:(tagE e==13)=true):∃ x p,e=.Name x p:=Gu.use (by induction e using Expr.casesOn <;> first | exact trivial | exact ⟨_,_,rfl⟩) h
theorem tupE_inv {e:Expr} (h:(tagE e==15)=true):∃ ts c p,e=.Tuple ts c p:=Gu.use (by induction e using Expr.casesOn <;> first | exact trivial | exact ⟨_,_,_,rfl⟩) h
theorem callE_inv {e:Expr} (h:(tagE e==3)=true):∃ f a k p,e=.Call f a k p:=Gu.use (by induction e using Expr.casesOn <;> first | exact trivial | exact ⟨_,_,_,_,rfl⟩) h
noncomputable def isCall0:Expr->Bool
 | .Call f [] [] _=>tagE f==13
 | _=>false
noncomputable def okComp (sc outer:Scope):Bool:=(sc.names.lookup ("__debug__":Str)).isNone&&sc.kind==.function&&outer.kind==.function&&sc.names.all (fun x=>x.2 != .cell&&(x.2 != .local||sc.names.lookup x.1==some .local)&&(x.2 != .free||outer.names.lookup x.1==some .cell))
noncomputable def Loc.hide (sc:Scope) (m:Loc):Loc:=fun y=>if sc.names.lookup y==some .local then none else m y
inductive Fl where
 | next | brk | cont
 | ret (v:AV)
noncomputable def Fl.ctorIdx:Fl->Nat:=fun t=>Fl.casesOn t 0 1 2 (fun U=>3)
noncomputable def nameOf?:Expr->Option Str
 | .Name x _=>some x
 | _=>none
noncomputable def namesOf (ts:List Expr):List Str:=ts.filterMap nameOf?
noncomputable def asgOk (t e:Expr):Bool:=!(tagE t==14||tagE e==5||tagE e==6)&&match t with
 | .Tuple ts _ _=>(match e with
  | .Tuple vs _ _=>(!vs.all (constantsAlone 8)||vs.all (foldedForSure 8))&&decide (namesOf ts).Nodup
  | _=>true)
 | _=>true
noncomputable def tupOf:AV->Option (List AV)
 | .tup xs=>some xs
 | _=>none
noncomputable def defsA (K:Frag):Value->Option (List AV)
 | .none=>some []
 | v=>(absV 3 K v).bind tupOf
noncomputable def bindP (ps:List Str) (args ds:List AV):Option Loc:=
 if args.length<=ps.length∧ps.length<=args.length+ds.length∧ds.length<=ps.length then some fun x=>(ps.zip (args++ds.drop (args.length+ds.length - ps.length))).lookup x else none
noncomputable def bindA (K:Frag) (fd:FuncData) (args:List AV):Option Loc:=(defsA K fd.defaults).bind (bindP (fd.params.args.map (·.arg)) args)
noncomputable def okFn (K:Frag) (fd:FuncData):Bool:=fd.params.posonlyargs.isEmpty&&fd.params.vararg.isNone&&fd.params.kwonlyargs.isEmpty&&fd.params.kwarg.isNone&&fd.closure.isEmpty&&fd.globals==mainGlobals&&fd.builtins==builtinsNs &&
 !fd.scope.isGenerator&&!fd.scope.isCoroutine&&fd.scope.kind==.function&&(fd.scope.names.lookup ("__debug__":Str)).isNone&&(fd.params.args.all fun a=>fd.scope.names.lookup a.arg==some .local||fd.scope.names.lookup a.arg==some .cell)&&decide (fd.params.args.map (·.arg)).Nodup&&codeIn K fd.code fd.qualname
noncomputable def initP (cx:Cx) (i:Addr) (args:List AV) (o:AObj):PT:=fun σ Q E=>VW (cx.call cx.hd i (.ref σ.next::args)) (σ.new o) (fun r σ'=>match r with
 | .none=>Q (.ref σ.next) σ'
 | _=>False) E
noncomputable def callV (cx:Cx) (f:AV) (args:List AV):PT:=fun σ Q E=>match f with
 | .fn a=>if fnIn (KF cx.P) a then cx.call cx.hd a args σ Q E
  else if isExcIn (KF cx.P) a then match excInit (KF cx.P) a with
   | some i=>initP cx i args (.exc a []) σ Q E
   | none=>False
  else match methA (KF cx.P) a "__init__" with
   | some i=>if clsInst (KF cx.P) a then initP cx i args (.inst a []) σ Q E else False
   | none=>False
 | .bi n=>BiP cx.hd (KF cx.P) σ Q n args
 | .ty n=>TyP σ Q n args
 | _=>False
noncomputable def callMtA (cx:Cx) (mt:Mt) (o:AV) (args:List AV):PT:=fun σ Q E=>match mt with
 | .fn f=>cx.call cx.hd f args σ Q E
 | .self f=>cx.call cx.hd f (o::args) σ Q E
 | m=>MtP σ Q m o args
noncomputable def one {α:Type} (l:List α) (k:α->Prop):Prop:=match l with
 | [a]=>k a
 | _=>False
noncomputable def someP {α:Type} (o:Option α) (k:α->Prop):Prop:=match o with
 | some a=>k a
 | none=>False
noncomputable def constP (k:AV->Prop):Const->Prop
 | .none=>k .none
 | .bool b=>k (.bool b)
 | .int i=>k (.int i)
 | .str s=>k (.str s)
 | _=>False
noncomputable def nameP (cx:Cx) (m:Loc) (x:Str) (k:AV->Prop):Prop:=match cx.sc.names.lookup x with
 | some .local | some .cell=>someP (m x) k
 | some .globalImplicit=>someP (glob (KF cx.P) x) k
 | _=>False
noncomputable def vcSeq (e:Expr->PT):List Expr->AHeap->(List AV->AHeap->Prop)->EX->Prop
 | [],σ,Q,_=>Q [] σ
 | a::r,σ,Q,E=>e a σ (fun v σ=>vcSeq e r σ (fun vs σ=>Q (v::vs) σ) E) E
noncomputable def vcBool (e:Expr->PT) (op:BoolOp):List Expr->PT
 | [],_,_,_=>False
 | [a],σ,Q,E=>e a σ Q E
 | a::r,σ,Q,E=>e a σ (fun v σ=>TruthP σ (fun t σ=>match op with
  | .And=>(t=false->Q v σ)∧(t=true->vcBool e op r σ Q E)
  | .Or=>(t=true->Q v σ)∧(t=false->vcBool e op r σ Q E)) v) E
noncomputable def vcTest (e:Expr->AHeap->(Bool->AHeap->Prop)->EX->Prop) (op:BoolOp):List Expr->AHeap->(Bool->AHeap->Prop)->EX->Prop
 | [],σ,Q,_=>Q (op==.And) σ
 | a::r,σ,Q,E=>e a σ (fun t σ=>match op with
  | .And=>(t=false->Q false σ)∧(t=true->vcTest e op r σ Q E)
  | .Or=>(t=true->Q true σ)∧(t=false->vcTest e op r σ Q E)) E
noncomputable def vcPairs (e:Expr->PT):List (Option Expr)->List Expr->AHeap->(List (AV×AV)->AHeap->Prop)->EX->Prop
 | [],[],σ,Q,_=>Q [] σ
 | some k::ks,v::vs,σ,Q,E=>e k σ (fun kv σ=>e v σ (fun vv σ=>vcPairs e ks vs σ (fun r σ=>Q ((kv,vv)::r) σ) E) E) E
 | _,_,_,_,_=>False
noncomputable def vcOpt (e:Expr->PT) (o:Option Expr):PT:=fun σ Q E=>match o with
 | some a=>e a σ Q E
 | none=>Q .none σ
noncomputable abbrev Vc:=Loc->Expr->PT
noncomputable abbrev Vt:=Loc->Expr->AHeap->(Bool->AHeap->Prop)->EX->Prop
noncomputable def unp2 (v:AV) (k:AV->AV->Prop):Prop:=∃ a b,v=.tup [a,b]∧k a b
noncomputable def unp3 (v:AV) (k:AV->AV->AV->Prop):Prop:=∃ a b c,v=.tup [a,b,c]∧k a b c
noncomputable def unp4 (v:AV) (k:AV->AV->AV->AV->Prop):Prop:=∃ a b c d,v=.tup [a,b,c,d]∧k a b c d
noncomputable def unp6 (v:AV) (k:AV->AV->AV->AV->AV->AV->Prop):Prop:=∃ a b c d e f,v=.tup [a,b,c,d,e,f]∧k a b c d e f
noncomputable def names?:List Expr->Option (List Str)
 | []=>some []
 | t::r=>(nameOf? t).bind fun x=>(names? r).map (x::·)
noncomputable def Loc.puts (m:Loc):List Str->List AV->Loc
 | x::ns,v::vs=>Loc.puts (m.put x (some v)) ns vs
 | _,_=>m
noncomputable def vcNs (v:AV) (m:Loc) (k:Loc->Prop) (ns:List Str):Prop:=
 if ns.length==2 then unp2 v fun a b=>k (m.puts ns [a,b])
 else if ns.length==3 then unp3 v fun a b c=>k (m.puts ns [a,b,c])
 else if ns.length==4 then unp4 v fun a b c d=>k (m.puts ns [a,b,c,d])
 else if ns.length==6 then unp6 v fun a b c d e f=>k (m.puts ns [a,b,c,d,e,f]) else False
noncomputable def vcBind (sc:Scope) (t:Expr) (v:AV) (m:Loc) (k:Loc->Prop):Prop:=match t with
 | .Name x _=>if locNm sc x then k (m.put x (some v)) else False
 | .Tuple ts _ _=>match names? ts with
  | some ns=>if ns.all (locNm sc) then vcNs v m k ns else False
  | none=>False
 | _=>False
noncomputable def vcStepE (cx:Cx) (ec:Cx->Vc) (tc:Vt) (m:Loc) (e:Expr) (σ:AHeap) (Q:EQ) (E:EX):Prop:=
 let ev:=ec cx
 match e with
 | .Constant c _ _=>constP (fun v=>Q v σ) c
 | .Name x p=>nameP cx m x fun v=>if frzF p then FreezeP σ Q v else Q v σ
 | .BoolOp op vs _=>vcBool (ev m) op vs σ Q E
 | .BinOp l op r p=>ev m l σ (fun a σ=>ev m r σ (fun b σ=>BinP (frzF p) σ Q op a b) E) E
 | .UnaryOp op x _=>match op with
  | .USub=>(match x with
   | .Constant c _ _=>(match c with
    | .int i=>Q (.int (-i)) σ
    | _=>False)
   | _=>False)
  | .Not=>ev m x σ (fun v σ=>TruthP σ (fun b σ=>Q (.bool (!b)) σ) v) E
  | _=>False
 | .IfExp t b o _=>tc m t σ (fun c σ=>(c=true->ev m b σ Q E)∧(c=false->ev m o σ Q E)) E
 | .Compare l ops rs _=>one ops fun op=>one rs fun r=>if isSetE r then False else ev m l σ (fun a σ=>ev m r σ (fun b σ=>CmpP op a b σ fun r σ=>Q (.bool r) σ) E) E
 | .Attribute o x _=>if isCall0 o then False else ev m o σ (fun v σ=>AttrP x σ Q v) E
 | .Subscript o i p=>if isSliceE i then (match i with
   | .Slice lo hi st _=>if st.isSome then False else ev m o σ (fun v σ=>vcOpt (ev m) lo σ (fun a σ=>vcOpt (ev m) hi σ (fun b σ=>SliceP (frzF p) σ Q v a b) E) E) E
   | _=>False)
  else ev m o σ (fun v σ=>ev m i σ (fun k σ=>SubP σ Q v k) E) E
 | .Tuple es _ _=>if es.any isStar||decide (lim<es.length) then False else vcSeq (ev m) es σ (fun vs σ=>Q (.tup vs) σ) E
 | .List es p=>if es.any isStar then False else vcSeq (ev m) es σ (fun vs σ=>NewL vs σ Q (frzF p)) E
 | .Dict ks vs _=>if decide (ks.length<=15)&&ks.all (·.isSome)&&ks.length==vs.length then vcPairs (ev m) ks vs σ (fun kvs σ=>NewD kvs σ Q) E else False
 | .Call f args kws p=>if !kws.isEmpty||args.any isStar||decide (20<args.length) then False
  else if isAttrE f then (match f with
   | .Attribute o x ap=>if !(ap.endLine==p.line)||isCall0 o then False else ev m o σ (fun v σ=>GetMP (KF cx.P) σ (fun mt σ=>vcSeq (ev m) args σ (fun vs σ=>VW (callMtA cx mt v vs) σ Q E) E) v x) E
   | _=>False)
  else ev m f σ (fun g σ=>vcSeq (ev m) args σ (fun vs σ=>VW (callV cx g vs) σ Q E) E) E
 | .ListComp elt gens sc p=>one gens fun gn=>if okComp sc cx.sc&&!isSetE gn.iter&&gn.ifs.isEmpty&&gn.is_async==0 then ev m gn.iter σ (fun v σ=>LoopP σ (fun xs σ=>CompP (frzF p) v xs σ (fun x σ' K=>vcBind sc gn.target x (m.hide sc) fun m'=>ec {cx with sc:=relab sc cx.sc} m' elt σ' K E) Q) v) E else False
 | _=>False
noncomputable def vcStepT (ev:Vc) (tc:Vt) (m:Loc) (e:Expr) (σ:AHeap) (Q:Bool->AHeap->Prop) (E:EX):Prop:=if isTestE e then (match e with
  | .UnaryOp op x _=>(match op with
   | .Not=>tc m x σ (fun b σ=>Q (!b) σ) E
   | _=>False)
  | .BoolOp op vs _=>vcTest (tc m) op vs σ Q E
  | .IfExp t b o _=>tc m t σ (fun c σ=>(c=true->tc m b σ Q E)∧(c=false->tc m o σ Q E)) E
  | .Compare l ops rs _=>one ops fun op=>one rs fun r=>if isSetE r then False else ev m l σ (fun a σ=>ev m r σ (fun b σ=>CmpP op a b σ Q) E) E
  | _=>False)
 else ev m e σ (fun v σ=>TruthP σ Q v) E
noncomputable def vcs:Nat->(Cx->Vc)×(Cx->Vt)
 | 0=>(fun U U U U U U=>False,fun U U U U U U=>False)
 | n+1=>(fun cx=>vcStepE cx (vcs n).1 ((vcs n).2 cx),fun cx=>vcStepT ((vcs n).1 cx) ((vcs n).2 cx))
noncomputable def modT:Expr->List Str
 | .Name x _=>[x]
 | .Tuple ts _ _=>namesOf ts
 | _=>[]
noncomputable def modN:Nat->Stmt->List Str
 | 0,_=>[]
 | n+1,s=>match s with
  | .Assign ts _ _=>ts.flatMap modT
  | .AugAssign t _ _ _=>modT t
  | .If _ b o _=>b.flatMap (modN n)++o.flatMap (modN n)
  | .While _ b _ _=>b.flatMap (modN n)
  | .For t _ b _ _=>modT t++b.flatMap (modN n)
  | .Try b hs _ fb _=>b.flatMap (modN n)++(hs.flatMap (fun h=>match h with
   | .ExceptHandler _ x hb _=>x.toList++hb.flatMap (modN n))++fb.flatMap (modN n))
  | _=>[]
noncomputable abbrev SQ:=Fl->AHeap->Loc->Prop
noncomputable abbrev SX:=Nat->AHeap->Loc->Prop
noncomputable abbrev Vs:=Stmt->AHeap->Loc->SQ->SX->Prop
noncomputable def dd:List Str->List Str
 | []=>[]
 | x::r=>if r.contains x then dd r else x::dd r
noncomputable def allV:List Str->Loc->(List (Option AV)->Loc->Prop)->Prop
 | [],m,k=>k [] m
 | x::xs,m,k=>∀ v:Option AV,allV xs (m.put x v) fun vs m'=>k (v::vs) m'
noncomputable def vcA (cx:Cx) (ev:Vc) (t:Expr) (v:AV) (σ:AHeap) (m:Loc) (k:AHeap->Loc->Prop) (E:SX):Prop:=match t with
 | .Attribute o x _=>ev m o σ (fun ov σ=>SetP (KF cx.P) x v σ (fun σ=>k σ m) ov) fun i σ=>E i σ m
 | .Subscript o i _=>if isSliceE i then False else ev m o σ (fun ov σ=>ev m i σ (fun iv σ=>SetItP v σ (fun σ=>k σ m) ov iv) fun i σ=>E i σ m) fun i σ=>E i σ m
 | t=>vcBind cx.sc t v m fun m=>k σ m
noncomputable def vcBlk (x:Vs):List Stmt->AHeap->Loc->SQ->SX->Prop
 | [],σ,m,Q,_=>Q .next σ m
 | s::r,σ,m,Q,E=>x s σ m (fun f σ m=>match f with
  | .next=>vcBlk x r σ m Q E
  | f=>Q f σ m) E
noncomputable def vcCatch (P:Params) (sc:Scope) (e:Expr) (k:Addr->Prop):Prop:=match e with
 | .Name x _=>if sc.names.lookup x==some .globalImplicit then someP (glob (KF P) x) fun v=>match v with
  | .fn a=>if isExcIn (KF P) a&&typeIn (KF P) (.ref a)==some (.type "type") then k a else False
  | _=>False else False
 | _=>False
noncomputable def loopV (md:Stmt->List Str) (b:List Stmt):List Str:=dd (b.flatMap md)
noncomputable def forV (md:Stmt->List Str) (t:Expr) (b:List Stmt):List Str:=dd (modT t++b.flatMap md)
noncomputable def inLoop (J:AHeap->Loc->Prop) (Q:SQ):SQ:=fun f σ m=>match f with
 | .next | .cont=>J σ m
 | .brk=>Q .next σ m
 | .ret v=>Q (.ret v) σ m
noncomputable def onNext (Q:AHeap->Loc->Prop):SQ:=fun f σ m=>match f with
 | .next=>Q σ m
 | _=>False
noncomputable def vcStepS (cx:Cx) (ec:Cx->Vc) (tc:Cx->Vt) (xc:Cx->Vs) (md:Stmt->List Str) (st:Stmt) (σ:AHeap) (m:Loc) (Q:SQ) (E:SX):Prop:=match st with
 | .Expr e _=>if isCompE e then False else ec cx m e σ (fun U σ=>Q .next σ m) fun i σ=>E i σ m
 | .Pass _=>Q .next σ m
 | .Break _=>Q .brk σ m
 | .Continue _=>Q .cont σ m
 | .Return oe _=>vcOpt (ec cx m) oe σ (fun v σ=>Q (.ret v) σ m) fun i σ=>E i σ m
 | .Assign ts e _=>one ts fun t=>if !asgOk t e then False else ec cx m e σ (fun v σ=>vcA cx (ec cx) t v σ m (fun σ m=>Q .next σ m) E) fun i σ=>E i σ m
 | .AugAssign t op e _=>(match t with
  | .Name x _=>nameP cx m x fun old=>ec cx m e σ (fun v σ=>AugP σ (fun w σ=>if locNm cx.sc x then Q .next σ (m.put x (some w)) else False) op old v) fun i σ=>E i σ m
  | .Attribute o x _=>ec cx m o σ (fun ov σ=>AttrP x σ (fun old σ=>ec cx m e σ (fun v σ=>AugP σ (fun w σ=>SetP (KF cx.P) x w σ (fun σ=>Q .next σ m) ov) op old v) fun i σ=>E i σ m) ov) fun i σ=>E i σ m
  | _=>False)
 | .If t b o _=>tc cx m t σ (fun c σ=>(c=true->vcBlk (xc cx) b σ m Q E)∧(c=false->vcBlk (xc cx) o σ m Q E)) fun i σ=>E i σ m
 | .While t b o _=>if !o.isEmpty then False else ∃ (J:Nat->AHeap->List (Option AV)->Prop) (n₀:Nat),J n₀ σ ((loopV md b).map m)∧∀ k σ,allV (loopV md b) m fun vs m=>J k σ vs->
   tc cx m t σ (fun c σ=>(c=true->vcBlk (xc cx) b σ m (inLoop (fun σ m=>∃ k',k'<k∧J k' σ ((loopV md b).map m)) Q) E)∧(c=false->Q .next σ m)) fun i σ=>E i σ m
 | .For tgt iter b o _=>if !o.isEmpty||isSetE iter then False else ec cx m iter σ (fun v σ=>LoopP σ (fun xs σ=>∃ (J:List AV->AHeap->List (Option AV)->Prop),J xs σ ((forV md tgt b).map m)∧∀ σ',allV (forV md tgt b) m fun vs m=>
   (∀ x r,J (x::r) σ' vs->standsA σ v σ'∧vcBind cx.sc tgt x m fun m=>vcBlk (xc cx) b σ' m (inLoop (fun σ m=>J r σ ((forV md tgt b).map m)) Q) E)∧(J [] σ' vs->standsA σ v σ'∧Q .next σ' m)) v) fun i σ=>E i σ m
 | .Raise oe c _=>(match oe with
  | some e=>if c.isSome then False else ec cx m e σ (fun v σ=>RaiseP cx.P cx.hd (fun i σ=>E i σ m) σ v) fun i σ=>E i σ m
  | none=>False)
 | .Try b hs o fb _=>if !o.isEmpty then False else (match hs with
  | []=>if fb.isEmpty then False else vcBlk (xc cx) b σ m (fun f σ m=>vcBlk (xc cx) fb σ m (onNext fun σ m=>Q f σ m) fun U U U=>False)
   fun i σ m=>vcBlk (xc {cx with hd:=some i}) fb σ m (onNext fun σ m=>E i σ m) fun U U U=>False
  | _=>if !fb.isEmpty then False else one hs fun h=>match h with
   | .ExceptHandler ot ox hb _=>(match ot with
    | some t=>vcBlk (xc cx) b σ m Q fun i σ m=>vcCatch cx.P cx.sc t fun a=>CatchP cx.P i a σ (match ox with
     | none=>if hb.isEmpty then False else vcBlk (xc {cx with hd:=some i}) hb σ m Q E
     | some x=>if !(cx.sc.names.lookup x==some .local)||hb.isEmpty then False else vcBlk (xc {cx with hd:=some i}) hb σ (m.put x (some (.ref i))) (fun f σ m=>Q f σ (m.put x none)) (fun j σ m=>E j σ (m.put x none)))
    | none=>False))
 | _=>False
noncomputable def vcN:Nat->Cx->Vs
 | 0=>fun U U U U U U=>False
 | n+1=>fun cx=>vcStepS cx (vcs 12).1 (vcs 12).2 (vcN n) (modN n)
noncomputable def vcFn (P:Params) (call:CallT) (hd:Option Nat) (a:Addr) (args:List AV):PT:=fun σ Q E=>match (KF P).lookup a with
 | some ⟨_,_,.func fd,_⟩=>match fd.body with
  | .stmts body=>if okFn (KF P) fd then someP (bindA (KF P) fd args) fun m=>vcBlk (vcN 12 ⟨P,fd.scope,hd,call⟩) body σ m (fun f σ U=>match f with | .ret v=>Q v σ | .next=>Q .none σ | _=>False) fun i σ U=>E i σ else False
  | _=>False
 | _=>False
noncomputable def callF (P:Params):Nat->CallT
 | 0=>fun U U U U U U=>False
 | d+1=>vcFn P (callF P d)
end Mine
namespace Mine
open PySem PySem.W PyProof.Rows
noncomputable abbrev HL:=List (Nat×AObj)
structure H (σ:AHeap) (L:HL):Prop where
 nd:(L.map (·.1)).Nodup
 ok:∀ e∈L,e.1<σ.next∧σ.get e.1=some e.2
noncomputable def SP (L:HL) (c:AHeap->Prop):Prop:=∀ σ,H σ L->c σ
theorem get_set_eq {σ:AHeap} {i:Nat} {o:AObj}:(σ.set i o).get i=some o:=if_pos rfl
theorem get_set_ne {σ:AHeap} {i j:Nat} {o:AObj} (h:j≠i):(σ.set i o).get j=σ.get j:=if_neg h
theorem H.at {σ:AHeap} {L:HL} (h:H σ L) {k i:Nat} {o:AObj} (e:L[k]?=some (i,o)):σ.get i=some o:=(h.ok _ (List.mem_of_getElem? e)).2
theorem getElem_lt {α:Type} {l:List α} {k:Nat} {a:α} (e:l[k]?=some a):k<l.length:=by
 rcases Nat.lt_or_ge k l.length with z | z
 ·exact z
 ·rw [List.getElem?_eq_none z] at e; injection e
noncomputable def upd (L:HL) (k:Nat) (o:AObj):HL:=match L[k]? with
 | some (i,_)=>L.set k (i,o)
 | none=>L
theorem upd_eq {L:HL} {k i:Nat} {o o':AObj} (e:L[k]?=some (i,o)):upd L k o'=L.set k (i,o'):=by unfold upd; rw [e]
theorem map_set_fst:∀ {L:HL} {k i:Nat} {o o':AObj},L[k]?=some (i,o)->(L.set k (i,o')).map (·.1)=L.map (·.1)
 | [],k,i,o,o',e=>by injection e
 | x::L,0,i,o,o',e=>by (injection e with e1; subst e1); rfl
 | x::L,k+1,i,o,o',e=>congrArg (x.1::·) (map_set_fst (L:=L) e)
theorem H.upd {σ:AHeap} {L:HL} (h:H σ L) {k i:Nat} {o o':AObj} (e:L[k]?=some (i,o)):H (σ.set i o') (upd L k o'):=by
 rw [upd_eq e]
 refine ⟨by rw [map_set_fst e]; exact h.nd,fun x hx=>?_⟩
 obtain ⟨j,hj⟩:=List.mem_iff_getElem?.mp hx
 by_cases hjk:j=k
 ·subst hjk
  rw [List.getElem?_set_self (getElem_lt e)] at hj
  (injection hj with e1; subst e1)
  exact ⟨(h.ok _ (List.mem_of_getElem? e)).1,get_set_eq⟩
 ·rw [List.getElem?_set_ne (fun z=>hjk z.symm)] at hj
  have hx:=h.ok x (List.mem_of_getElem? hj)
  refine ⟨hx.1,(get_set_ne fun z=>?_).trans hx.2⟩
  have e1:(L.map (·.1))[j]?=some i:=by rw [List.getElem?_map,hj]; exact congrArg some z
  have e2:(L.map (·.1))[k]?=some i:=by rw [List.getElem?_map,e]; rfl
  exact hjk ((List.getElem?_inj (getElem_lt e1) h.nd).mp (e1.trans e2.symm))
theorem H.new {σ:AHeap} {F:HL} (h:H σ F) (o:AObj):H (σ.new o) ((σ.next,o)::F):=by
 refine ⟨List.nodup_cons.mpr ⟨fun hm=>?_,h.nd⟩,fun e he=>?_⟩
 ·obtain ⟨e,he,e2⟩:=List.mem_map.mp hm
  exact Nat.ne_of_lt (h.ok e he).1 e2
 ·rcases List.mem_cons.mp he with rfl | he
  ·exact ⟨Nat.lt_succ_self _,if_pos rfl⟩
  ·exact ⟨Nat.lt_succ_of_lt (h.ok e he).1,(if_neg (Nat.ne_of_lt (h.ok e he).1)).trans (h.ok e he).2⟩
theorem H.sub {σ:AHeap} {L M:HL} (h:H σ L) (s:M.Sublist L):H σ M:=⟨h.nd.sublist (s.map _),fun e he=>h.ok e (s.subset he)⟩
theorem H.tl {σ:AHeap} {x:Nat×AObj} {L:HL} (h:H σ (x::L)):H σ L:=h.sub (List.sublist_cons_self _ _)
theorem H.perm {σ:AHeap} {L M:HL} (h:H σ L) (s:L.Perm M):H σ M:=⟨((s.map _).nodup_iff).mp h.nd,fun e he=>h.ok e (s.mem_iff.mpr he)⟩
theorem H.del {σ:AHeap} {i:Nat} {o:AObj} {L:HL} (h:H σ ((i,o)::L)):H (σ.del i) L:=by
 have hn:=h.nd
 rw [List.map_cons,List.nodup_cons] at hn
 exact ⟨h.tl.nd,fun e he=>⟨(h.tl.ok e he).1,(if_neg fun z=>hn.1 (List.mem_map.mpr ⟨e,he,z⟩)).trans (h.tl.ok e he).2⟩⟩
section
variable {L M:HL} {A B c:AHeap->Prop} {Q:EQ} {E:EX}
theorem small_nat {n:Nat} (h:n<=100000000):smallI n=true:=by
 have e:(2:Int) ^ 62=4611686018427387904:=by kernel_rfl
 unfold smallI
 rw [Bool.and_eq_true,decide_eq_true_iff,decide_eq_true_iff,e]
 lia
variable {z:Bool}
variable {T:Bool->AHeap->Prop}
theorem nat_beq {x y:Nat}:((x:Int)==(y:Int))=(x==y):=by
 rw [Bool.eq_iff_iff,beq_iff_eq,beq_iff_eq]; exact Int.ofNat_inj
noncomputable def putO (x:Str) (w:AV):AObj->AObj
 | .inst c fs=>.inst c (putF fs x w)
 | .exc c fs=>.exc c (putF fs x w)
 | o=>o
noncomputable def okO (K:Frag) (x:Str):AObj->Bool
 | .inst c fs=>fldOk K c x&&decide (fs.length<=900)
 | .exc c fs=>fldOk K c x&&decide (fs.length<=900)
 | _=>false
theorem lim_le {n:Nat} (h:n<=10000):n<=lim:=Nat.le_trans h (by decide)
theorem lim_lt {n:Nat} (h:n<=10000):n<lim:=Nat.lt_of_le_of_lt h (by decide)
theorem s_new {xs:List AV} (hl:xs.length<=lim) (q:∀ i,SP ((i,.list xs)::L) (Q (.ref i))):SP L fun σ=>NewL xs σ Q false:=fun σ h=>.n hl (q _ _ (h.new _))
theorem s_newd {kvs:List (AV×AV)} (hs:kvs.all (fun e=>isStrA e.1)=true) (q:∀ i,SP ((i,.dict (kvs.foldl (fun d e=>putD d e.1 e.2) []))::L) (Q (.ref i))):SP L fun σ=>NewD kvs σ Q:=fun σ h=>⟨hs,q _ _ (h.new _)⟩
theorem s_freeze {i:Nat} {xs:List AV} (q:SP L (Q (.lst xs))):SP ((i,.list xs)::L) fun σ=>FreezeP σ Q (.ref i):=fun σ h=>⟨h.at (k:=0) rfl,q _ h.del⟩
section
variable {i:Nat} {xs:List AV} {v w:AV} {kvs:List (AV×AV)}
variable {hd:Option Nat} {cx:Cx}
variable {K:Frag} {R:Mt->AHeap->Prop}
variable {Z:List AV->AHeap->Prop}
theorem stands_ref {σ₀ σ:AHeap} (h₀:σ₀.get i=some (.list xs)) (h:σ.get i=some (.list xs)):standsA σ₀ (.ref i) σ:=by unfold standsA; simp only [h₀]; exact h
end
end
inductive KdP where
 | free | stat | fz | priv | frm
 | obj (i:Nat)
 | aux (i:Nat)
noncomputable def KdP.ctorIdx:KdP->Nat:=fun t=>KdP.casesOn t 0 1 2 3 4 (fun U=>5) (fun U=>6)
structure Gh where
 κ:Addr->KdP
 ρ:Nat->Addr
 n:Nat
 τ:Nat->Bool
noncomputable def KdP.firm:KdP->Prop
 | .stat | .fz | .priv | .frm=>True
 | _=>False
noncomputable def KdP.val:KdP->Prop
 | .stat | .fz=>True
 | _=>False
noncomputable def KdP.own:KdP->Prop
 | .priv | .frm=>True
 | _=>False
noncomputable def KdP.of (i:Nat) (k:KdP):Prop:=k=.obj i∨k=.aux i
theorem KdP.own.noval {k:KdP} (h:k.own):¬ k.val:=by induction k using KdP.casesOn <;> first | exact h.elim | exact id
theorem KdP.own.firm {k:KdP} (h:k.own):k.firm:=by induction k using KdP.casesOn <;> first | exact h | trivial
theorem KdP.val.firm {k:KdP} (h:k.val):k.firm:=by induction k using KdP.casesOn <;> first | exact h | trivial
theorem KdP.of.noval {k:KdP} {i:Nat} (h:k.of i):¬ k.val:=by rcases h with rfl | rfl <;> exact id
structure Ext (g g':Gh):Prop where
 n:g.n<=g'.n
 ρ:∀ i,i<g.n->g'.ρ i=g.ρ i
 κ:∀ a,(g.κ a).firm->g'.κ a=g.κ a
 τ:∀ i,g.τ i=true->g'.τ i=true
theorem Ext.refl (g:Gh):Ext g g:=⟨Nat.le_refl _,fun U U=>rfl,fun U U=>rfl,fun U h=>h⟩
theorem Ext.trans {a b c:Gh} (x:Ext a b) (y:Ext b c):Ext a c:=
 ⟨Nat.le_trans x.n y.n,fun i hi=>(y.ρ i (Nat.lt_of_lt_of_le hi x.n)).trans (x.ρ i hi),fun p hp=>(y.κ p ((x.κ p hp).symm▸hp)).trans (x.κ p hp),fun i h=>y.τ i (x.τ i h)⟩
structure ExtV (g g':Gh):Prop where
 n:g.n<=g'.n
 ρ:∀ i,i<g.n->g'.ρ i=g.ρ i
 κ:∀ a,(g.κ a).val->g'.κ a=g.κ a
theorem Ext.v {g g':Gh} (x:Ext g g'):ExtV g g':=⟨x.n,x.ρ,fun a h=>x.κ a h.firm⟩
theorem ExtV.val {g g':Gh} (x:ExtV g g') {a:Addr} (h:(g.κ a).val):(g'.κ a).val:=(x.κ a h).symm▸h
mutual
inductive VRep (g:Gh) (h:Heap):AV->Value->Prop
 | none:VRep g h .none .none
 | bool (b:Bool):VRep g h (.bool b) (.bool b)
 | int (i:Int) (t:Tok):VRep g h (.int i) (.int i t)
 | str (s:Str) (t:Tok):VRep g h (.str s) (.str s t)
 | ref (i:Nat) (hi:i<g.n) (a:Addr) (ha:a=g.ρ i):VRep g h (.ref i) (.ref a)
 | tup {xs:List AV} {a:Addr} {d:Option Addr} {vs:Array Value} {n:Nat} {sl:Array (Option Value)} (k:(g.κ a).val) (e:h.get? a=some ⟨.type "tuple",d,.seq vs n,sl⟩) (r:VReps g h xs vs.toList):VRep g h (.tup xs) (.ref a)
 | lst {xs:List AV} {a:Addr} {d:Option Addr} {vs:Array Value} {n:Nat} {sl:Array (Option Value)} (k:(g.κ a).val) (e:h.get? a=some ⟨.type "list",d,.seq vs n,sl⟩) (r:VReps g h xs vs.toList):VRep g h (.lst xs) (.ref a)
 | fn (a:Addr) (k:g.κ a=.stat):VRep g h (.fn a) (.ref a)
 | ty (n:String):VRep g h (.ty n) (.type n)
 | bi (n:String):VRep g h (.bi n) (.builtin n)
 | rng {n:Nat} {a:Addr} {t u v:Tok} (k:(g.κ a).val) (r:IsRange h a 0 n 1 t u v):VRep g h (.rng n) (.ref a)
inductive VReps (g:Gh) (h:Heap):List AV->List Value->Prop
 | nil:VReps g h [] []
 | cons {x:AV} {xs:List AV} {v:Value} {vs:List Value} (a:VRep g h x v) (r:VReps g h xs vs):VReps g h (x::xs) (v::vs)
end
inductive SeqO (T:String) (g:Gh) (h:Heap) (xs:List AV):Value->Prop
 | mk {a:Addr} {d:Option Addr} {vs:Array Value} {n:Nat} {sl:Array (Option Value)} (k:(g.κ a).val) (e:h.get? a=some ⟨.type T,d,.seq vs n,sl⟩) (r:VReps g h xs vs.toList):SeqO T g h xs (.ref a)
inductive RngO (g:Gh) (h:Heap) (n:Nat):Value->Prop
 | mk {a:Addr} {t u v:Tok} (k:(g.κ a).val) (r:IsRange h a 0 n 1 t u v):RngO g h n (.ref a)
noncomputable def VInv (g:Gh) (h:Heap):AV->Value->Prop
 | .none,c=>c=.none
 | .bool b,c=>c=.bool b
 | .int i,c=>∃ t,c=.int i t
 | .str s,c=>∃ t,c=.str s t
 | .ref i,c=>i<g.n∧c=.ref (g.ρ i)
 | .tup xs,c=>SeqO "tuple" g h xs c
 | .lst xs,c=>SeqO "list" g h xs c
 | .fn a,c=>c=.ref a∧g.κ a=.stat
 | .ty n,c=>c=.type n
 | .bi n,c=>c=.builtin n
 | .rng n,c=>RngO g h n c
theorem VRep.inv {g:Gh} {h:Heap} {v:AV} {c:Value} (r:VRep g h v c):VInv g h v c:=by
 induction r using VRep.casesOn with
 | none=>rfl
 | bool b=>rfl
 | int i t=>exact ⟨t,rfl⟩
 | str s t=>exact ⟨t,rfl⟩
 | ref i hi a ha=>exact ⟨hi,congrArg _ ha⟩
 | tup k e r=>exact ⟨k,e,r⟩
 | lst k e r=>exact ⟨k,e,r⟩
 | fn a k=>exact ⟨rfl,k⟩
 | ty n=>rfl
 | bi n=>rfl
 | rng k r=>exact ⟨k,r⟩
inductive ConsI (g:Gh) (h:Heap) (x:AV) (xs:List AV):List Value->Prop
 | mk {v:Value} {vs:List Value} (a:VRep g h x v) (r:VReps g h xs vs):ConsI g h x xs (v::vs)
noncomputable def VsInv (g:Gh) (h:Heap):List AV->List Value->Prop
 | [],l=>l=[]
 | x::xs,l=>ConsI g h x xs l
theorem VReps.inv {g:Gh} {h:Heap} {xs:List AV} {vs:List Value} (r:VReps g h xs vs):VsInv g h xs vs:=by
 induction r using VReps.casesOn with
 | nil=>rfl
 | cons a r=>exact ⟨a,r⟩
noncomputable def Stays (g:Gh) (h h':Heap):Prop:=∀ a o,h.get? a=some o->(g.κ a).val->h'.get? a=some o
theorem Stays.refl (g:Gh) (h:Heap):Stays g h h:=fun U U e U=>e
section
variable {g g':Gh} {h h':Heap}
theorem VReps.monoV (x:ExtV g g') (k:Stays g h h') {a:List AV} {v:List Value} (r:VReps g h a v):VReps g' h' a v:=
 VReps.rec (motive_1:=fun a v U=>VRep g' h' a v) (motive_2:=fun a v U=>VReps g' h' a v) .none .bool .int .str (fun i hi a ha=>.ref i (Nat.lt_of_lt_of_le hi x.n) a (ha.trans (x.ρ i hi).symm))
  (fun hk e U r=>.tup (x.val hk) (k _ _ e hk) r) (fun hk e U r=>.lst (x.val hk) (k _ _ e hk) r) (fun a hk=>.fn a ((x.κ _ (by rw [hk]; trivial)).trans hk)) .ty .bi (fun hk r=>.rng (x.val hk) (k _ _ r hk)) .nil (fun U U=>.cons) r
theorem VReps.hd {x:AV} {xs:List AV} {v:Value} {vs:List Value} (r:VReps g h (x::xs) (v::vs)):VRep g h x v:=by
 have q:ConsI g h x xs (v::vs):=r.inv
 cases q; assumption
theorem VRep.monoV (x:ExtV g g') (k:Stays g h h') {a:AV} {v:Value} (r:VRep g h a v):VRep g' h' a v:=(VReps.monoV x k (.cons r .nil)).hd
theorem VRep.mono (x:Ext g g') (k:Stays g h h') {a:AV} {v:Value} (r:VRep g h a v):VRep g' h' a v:=r.monoV x.v k
theorem VReps.mono (x:Ext g g') (k:Stays g h h') {a:List AV} {v:List Value} (r:VReps g h a v):VReps g' h' a v:=r.monoV x.v k
theorem VReps.length:∀ {xs:List AV} {vs:List Value},VReps g h xs vs->vs.length=xs.length
 | [],_,r=>r.inv▸rfl
 | x::xs,_,r=>r.inv.casesOn fun U r=>congrArg Nat.succ r.length
theorem VReps.size {xs:List AV} {vs:Array Value} (r:VReps g h xs vs.toList):vs.size=xs.length:=r.length
theorem VReps.append:∀ {xs ys:List AV} {vs ws:List Value},VReps g h xs vs->VReps g h ys ws->VReps g h (xs++ys) (vs++ws)
 | [],_,_,_,r,y=>r.inv▸y
 | x::xs,_,_,_,r,y=>r.inv.casesOn fun a r=>.cons a (r.append y)
theorem VReps.get:∀ {xs:List AV} {vs:List Value} {i:Nat} {x:AV},VReps g h xs vs->xs[i]?=some x->∃ v,vs[i]?=some v∧VRep g h x v
 | [],_,_,_,_,e=>by injection e
 | y::ys,_,0,x,r,e=>r.inv.casesOn fun a U=>⟨_,rfl,Option.some.inj e▸a⟩
 | y::ys,_,i+1,x,r,e=>r.inv.casesOn fun U r=>VReps.get (i:=i) r e
theorem VReps.getA {xs:List AV} {vs:Array Value} {i:Nat} {x:AV} (r:VReps g h xs vs.toList) (e:xs[i]?=some x):∃ v,vs[i]?=some v∧VRep g h x v:=by
 obtain ⟨v,h1,h2⟩:=r.get e
 exact ⟨v,by rw [← Array.getElem?_toList]; exact h1,h2⟩
theorem VReps.take:∀ {xs:List AV} {vs:List Value} (n:Nat),VReps g h xs vs->VReps g h (xs.take n) (vs.take n)
 | _,_,0,_=>.nil
 | [],_,_+1,r=>r.inv▸.nil
 | x::xs,_,n+1,r=>r.inv.casesOn fun a r=>.cons a (r.take n)
theorem VReps.drop:∀ {xs:List AV} {vs:List Value} (n:Nat),VReps g h xs vs->VReps g h (xs.drop n) (vs.drop n)
 | _,_,0,r=>r
 | [],_,_+1,r=>r.inv▸.nil
 | x::xs,_,n+1,r=>r.inv.casesOn fun U r=>r.drop n
theorem VReps.set:∀ {xs:List AV} {vs:List Value} {x:AV} {v:Value} (n:Nat),VReps g h xs vs->VRep g h x v->VReps g h (xs.set n x) (vs.set n v)
 | [],_,_,_,_,r,_=>r.inv▸.nil
 | _::_,_,_,_,0,r,y=>r.inv.casesOn fun U r=>.cons y r
 | _::_,_,_,_,n+1,r,y=>r.inv.casesOn fun a r=>.cons a (r.set n y)
inductive FsRep (P:Params) (g:Gh) (h:Heap):List (Str×AV)->List DictEntry->Prop
 | nil:FsRep P g h [] []
 | cons {x:Str} {t:Tok} {v:AV} {cv:Value} {fs:List (Str×AV)} {es:List DictEntry} (a:VRep g h v cv) (r:FsRep P g h fs es):FsRep P g h ((x,v)::fs) (⟨PyData.keyHash P x,.str x t,cv⟩::es)
theorem FsRep.monoV {P:Params} (x:ExtV g g') (k:Stays g h h') {fs:List (Str×AV)} {es:List DictEntry} (r:FsRep P g h fs es):FsRep P g' h' fs es:=by
 induction r with
 | nil=>exact .nil
 | cons a _ ih=>exact .cons (a.monoV x k) ih
inductive LRep {T:Type} (mk:T->AV) (g:Gh) (h:Heap):List (AV×AV)->List (T×Value)->Prop
 | nil:LRep mk g h [] []
 | cons {k:T} {v:AV} {cv:Value} {kvs:List (AV×AV)} {l:List (T×Value)} (a:VRep g h v cv) (r:LRep mk g h kvs l):LRep mk g h ((mk k,v)::kvs) ((k,cv)::l)
theorem LRep.monoV {T:Type} {mk:T->AV} (x:ExtV g g') (k:Stays g h h') {kvs:List (AV×AV)} {l:List (T×Value)} (r:LRep mk g h kvs l):LRep mk g' h' kvs l:=by
 induction r with
 | nil=>exact .nil
 | cons a _ ih=>exact .cons (a.monoV x k) ih
end
inductive ListO (g:Gh) (h:Heap) (a:Addr) (xs:List AV):Prop
 | mk {vs:Array Value} {n:Nat} (e:h.get? a=some ⟨.type "list",none,.seq vs n,#[]⟩) (r:VReps g h xs vs.toList)
inductive DictO (w:World) (g:Gh) (h:Heap) (a:Addr) (kvs:List (AV×AV)):Prop
 | s {l:List (Str×Value)} {o:Obj} (e:h.get? a=some o) (d:o.IsDictOf (strKind prg w) l) (r:LRep AV.str g h kvs l)
 | i {l:List (Int×Value)} {o:Obj} (e:h.get? a=some o) (d:o.IsDictOf (intKind prg w) l) (r:LRep AV.int g h kvs l)
inductive FldsO (P:Params) (g:Gh) (h:Heap) (i:Nat) (d:Addr) (fs:List (Str×AV)):Prop
 | mk {es:Array DictEntry} {n:Nat} (k:g.κ d=.aux i) (e:h.get? d=some ⟨.type "dict",none,.dict es n,#[]⟩) (r:FsRep P g h fs es.toList)
inductive InstO (w:World) (g:Gh) (h:Heap) (i:Nat) (c:Addr) (fs:List (Str×AV)):Prop
 | mk {d:Addr} {osl:Array (Option Value)} (e:h.get? (g.ρ i)=some ⟨.ref c,some d,.plain,osl⟩) (f:FldsO w.params g h i d fs) (c1:clsInst (KF w.params) c=true) (c2:∀ e∈fs,fldOk (KF w.params) c e.1=true)
inductive TraceO (g:Gh) (h:Heap) (i:Nat) (d:Option Addr) (vs:Array Value):Prop
 | no (t:g.τ i=false) (e:vs[1]?=some .none)
 | yes {T:Addr} {oT:Obj} {ts:Array Value} (e:vs[1]?=some (.ref T)) (k:g.κ T=.aux i) (ne:d≠some T) (eT:h.get? T=some oT) (dT:oT.data=.fields ts) (l:3<ts.size)
inductive ExcD (w:World) (g:Gh) (h:Heap) (i:Nat) (fs:List (Str×AV)):Option Addr->Prop
 | some {d:Addr} (f:FldsO w.params g h i d fs):ExcD w g h i fs (some d)
 | none (e:fs=[]):ExcD w g h i fs none
inductive ExcO (w:World) (g:Gh) (h:Heap) (i:Nat) (c:Addr) (fs:List (Str×AV)):Prop
 | mk {vs:Array Value} {d:Option Addr} {osl:Array (Option Value)} (e:h.get? (g.ρ i)=some ⟨.ref c,d,.fields vs,osl⟩) (l:5<vs.size) (e2:vs[2]?=some .none) (t:TraceO g h i d vs) (f:ExcD w g h i fs d) (c1:clsExc (KF w.params) c=true) (c2:∀ e∈fs,fldOk (KF w.params) c e.1=true)
noncomputable def ORep (w:World) (g:Gh) (h:Heap) (i:Nat):AObj->Prop
 | .list xs=>ListO g h (g.ρ i) xs
 | .dict kvs=>DictO w g h (g.ρ i) kvs
 | .kdict kvs=>DictO w g h (g.ρ i) kvs
 | .inst c fs=>InstO w g h i c fs
 | .exc c fs=>ExcO w g h i c fs
noncomputable def kdOf (i:Nat):AObj->KdP
 | .kdict _=>.fz
 | _=>.obj i
theorem kdOf_free {i:Nat} {o:AObj}:kdOf i o≠.free:=by induction o using AObj.casesOn <;> intro z <;> injection z
theorem kdOf_obj {i j:Nat} {o:AObj} (h:kdOf j o=.obj i):j=i:=by induction o using AObj.casesOn <;> (first | (injection h; done) | cases h) <;> rfl
theorem kdOf_own {i:Nat} {o:AObj}:¬ (kdOf i o).own:=by induction o using AObj.casesOn <;> exact id
structure SameO (g g':Gh) (h h':Heap) (j:Nat):Prop where
 ρ:g'.ρ j=g.ρ j
 τ:g'.τ j=g.τ j
 κ:∀ a,(g.κ a).of j->g'.κ a=g.κ a
 k:∀ a o,h.get? a=some o->(g.κ a).of j->h'.get? a=some o
section
variable {w:World} {g g':Gh} {h h':Heap} {i:Nat}
theorem FldsO.mono {d:Addr} {fs:List (Str×AV)} (x:ExtV g g') (st:Stays g h h') (sm:SameO g g' h h' i):FldsO w.params g h i d fs->FldsO w.params g' h' i d fs
 | ⟨k,e,r⟩=>⟨(sm.κ _ (.inr k)).trans k,sm.k _ _ e (.inr k),r.monoV x st⟩
theorem ORep.mono (x:ExtV g g') (st:Stays g h h') (sm:SameO g g' h h' i) {o:AObj} (hi:g.κ (g.ρ i)=kdOf i o) (r:ORep w g h i o):ORep w g' h' i o:=by
 have kd:∀ kvs,DictO w g h (g.ρ i) kvs->(∀ o,h.get? (g.ρ i)=some o->h'.get? (g.ρ i)=some o)->DictO w g' h' (g'.ρ i) kvs:=fun kvs r k=>by
  rw [sm.ρ]
  induction r using DictO.casesOn with
  | s e d r=>exact .s (k _ e) d (r.monoV x st)
  | i e d r=>exact .i (k _ e) d (r.monoV x st)
 induction o using AObj.casesOn with
 | list xs=>obtain ⟨e,r⟩:=r; exact ⟨by rw [sm.ρ]; exact sm.k _ _ e (.inl hi),r.monoV x st⟩
 | dict kvs=>exact kd _ r fun o e=>sm.k _ _ e (.inl hi)
 | kdict kvs=>exact kd _ r fun o e=>st _ _ e (by rw [hi]; trivial)
 | inst c fs=>obtain ⟨e,f,c1,c2⟩:=r; exact ⟨by rw [sm.ρ]; exact sm.k _ _ e (.inl hi),f.mono x st sm,c1,c2⟩
 | exc c fs=>
  obtain ⟨e,l,e2,t,f,c1,c2⟩:=r
  refine ⟨by rw [sm.ρ]; exact sm.k _ _ e (.inl hi),l,e2,?_,?_,c1,c2⟩
  ·induction t using TraceO.casesOn with
   | no t e=>exact .no (sm.τ.trans t) e
   | yes e k ne eT dT l=>exact .yes e ((sm.κ _ (.inr k)).trans k) ne (sm.k _ _ eT (.inr k)) dT l
  ·induction f using ExcD.casesOn with
   | some f=>exact .some (f.mono x st sm)
   | none e0=>exact .none e0
end
structure OInv (w:World) (g:Gh) (h:Heap) (i:Nat) (o:AObj):Prop where
 lt:i<g.n
 inj:g.κ (g.ρ i)=kdOf i o
 rep:ORep w g h i o
structure Sta (w:World) (g:Gh) (s:Shared):Prop where
 inK:(KF w.params).In s.heap
 stat:∀ a o,(KF w.params).lookup a=some o->g.κ a=.stat
 gens:s.gens=#[]
 sys:g.κ sysModules=.stat
 cst:g.κ cStatics=.stat
 lim:s.heap.NoLimit
structure Rel (w:World) (g:Gh) (σ:AHeap) (s:Shared):Prop where
 n:g.n=σ.next
 trc:∀ i,g.τ i=true->∃ c fs,σ.get i=some (.exc c fs)
 objs:∀ i o,σ.get i=some o->OInv w g s.heap i o
 live:∀ a,g.κ a≠.free->∃ o,s.heap.get? a=some o
 sta:Sta w g s
structure TrP (g:Gh) (X:Addr->Prop) (h h':Heap):Prop where
 val:Stays g h h'
 priv:∀ a o,h.get? a=some o->(g.κ a).own->¬ X a->∃ sl,h'.get? a=some {o with slots:=sl}∧(g.κ a=.priv->sl=o.slots)
theorem TrP.of_keeps {g:Gh} {X:Addr->Prop} {h h':Heap} (k:∀ b o,h.get? b=some o->h'.get? b=some o):TrP g X h h':=⟨fun a o e U=>k a o e,fun a o e U U=>⟨o.slots,k a o e,fun U=>rfl⟩⟩
theorem TrP.refl (g:Gh) (X:Addr->Prop) (h:Heap):TrP g X h h:=.of_keeps (fun U U e=>e)
theorem TrP.trans {g g':Gh} {X:Addr->Prop} {a b c:Heap} (e:Ext g g') (x:TrP g X a b) (y:TrP g' X b c):TrP g X a c:=
 ⟨fun p o ho hk=>y.val p o (x.val p o ho hk) ((e.κ p hk.firm).symm▸hk),fun p o ho hk hx=>by
  obtain ⟨sl,h1,h2⟩:=x.priv p o ho hk hx
  have ek:=e.κ p hk.firm
  obtain ⟨sl',h3,h4⟩:=y.priv p _ h1 (ek.symm▸hk) hx
  exact ⟨sl',h3,fun q=>(h4 (ek.trans q)).trans (h2 q)⟩⟩
theorem TrP.weaken {g:Gh} {X Y:Addr->Prop} {h h':Heap} (x:TrP g X h h') (k:∀ a,X a->Y a):TrP g Y h h':=⟨x.val,fun a o e hk hy=>x.priv a o e hk fun q=>hy (k a q)⟩
section
variable {w:World} {g g':Gh} {σ σ':AHeap} {s s':Shared} {i:Nat} {o o':AObj}
theorem Rel.free (r:Rel w g σ s):∀ a,s.heap.objs.size<=a->g.κ a=.free:=fun a ha=>by
 induction h:g.κ a using KdP.casesOn with
 | free=>rfl
 | _=>
  obtain ⟨o,e⟩:=r.live a (by rw [h]; intro z; injection z)
  exact absurd (Heap.lt_size e) (Nat.not_lt.mpr ha)
theorem Rel.rep (r:Rel w g σ s) (hi:σ.get i=some o):ORep w g s.heap i o:=(r.objs _ _ hi).rep
theorem Rel.notSys (r:Rel w g σ s) (hi:σ.get i=some o) (hk:kdOf i o=.obj i):(g.ρ i==sysModules)=false:=by
 rw [beq_eq_false_iff_ne]
 intro q
 have:=(r.objs _ _ hi).inj
 rw [q,r.sta.sys,hk] at this; injection this
theorem Sta.go (x:Sta w g s) (hκ:∀ a,g.κ a=.stat->g'.κ a=.stat) (st:Stays g s.heap s'.heap) (hg:s'.gens=s.gens):Sta w g' s':=by
 obtain ⟨mc,⟨o,es,ep,ho,r⟩,q⟩:=x.lim
 exact ⟨fun a o e=>st _ _ (x.inK a o e) (by rw [x.stat a o e]; trivial),fun a o e=>hκ a (x.stat a o e),hg.trans x.gens,hκ _ x.sys,hκ _ x.cst,mc,⟨o,es,ep,st _ _ ho (by rw [x.cst]; trivial),r⟩,q⟩
theorem OInv.mono {h h':Heap} (x:ExtV g g') (st:Stays g h h') (sm:SameO g g' h h' i) (hκ:g'.κ (g.ρ i)=g.κ (g.ρ i)) (r:OInv w g h i o):OInv w g' h' i o:=
 ⟨Nat.lt_of_lt_of_le r.lt x.n,by rw [sm.ρ]; exact hκ.trans r.inj,r.rep.mono x st sm r.inj⟩
theorem SameO.refl {h h':Heap} (k:∀ a o,h.get? a=some o->(g.κ a).of i->h'.get? a=some o):SameO g g h h' i:=⟨rfl,rfl,fun U U=>rfl,k⟩
theorem ExtV.refl:ExtV g g:=⟨Nat.le_refl _,fun U U=>rfl,fun U U=>rfl⟩
theorem OInv.heap {h h':Heap} (st:Stays g h h') (k:∀ a o,h.get? a=some o->(g.κ a).of i->h'.get? a=some o) (r:OInv w g h i o):OInv w g h' i o:=r.mono .refl st (.refl k) rfl
theorem OInv.ghost {h:Heap} (x:ExtV g g') (hρ:g'.ρ i=g.ρ i) (hτ:g'.τ i=g.τ i) (hκ:∀ a,(g.κ a).of i∨a=g.ρ i->g'.κ a=g.κ a) (r:OInv w g h i o):OInv w g' h i o:=r.mono x (.refl _ _) ⟨hρ,hτ,fun a ha=>hκ a (.inl ha),fun U U e U=>e⟩ (hκ _ (.inr rfl))
theorem Rel.set (r:Rel w g σ s) (hi:σ.get i=some o) (sz:∀ a b,s.heap.get? a=some b->∃ b',s'.heap.get? a=some b') (k:∀ a b,s.heap.get? a=some b->¬ (g.κ a).of i->s'.heap.get? a=some b) (hg:s'.gens=s.gens) (hk:kdOf i o'=kdOf i o) (ht:∀ c fs,o=.exc c fs->∃ c fs,o'=.exc c fs) (ho:ORep w g s'.heap i o'):Rel w g (σ.set i o') s':=by
 have st:Stays g s.heap s'.heap:=fun a b e hk=>k a b e fun q=>q.noval hk
 refine ⟨r.n,fun j hj=>?_,fun j b e=>?_,fun a ha=>(r.live a ha).elim fun o e=>sz a o e,r.sta.go (fun U z=>z) st hg⟩
 ·obtain ⟨c,fs,h⟩:=r.trc j hj
  by_cases q:j=i
  ·subst q; rw [hi] at h; obtain ⟨c,fs,e⟩:=ht c fs (Option.some.inj h); exact ⟨c,fs,(if_pos rfl).trans (congrArg some e)⟩
  ·exact ⟨c,fs,(if_neg q).trans h⟩
 ·have e:(if j=i then some o' else σ.get j)=some b:=e
  by_cases q:j=i
  ·subst q; rw [if_pos rfl] at e; (injection e with e1; subst e1); exact ⟨(r.objs _ _ hi).lt,(r.objs _ _ hi).inj.trans hk.symm,ho⟩
  ·rw [if_neg q] at e
   exact (r.objs _ _ e).heap st fun a b ea hk=>k a b ea fun z=>by rcases hk with hk | hk <;> rcases z with z | z <;> rw [hk] at z <;> first | (injection z with z; exact q z) | injection z
theorem Rel.keeps (r:Rel w g σ s) (k:∀ a b,s.heap.get? a=some b->s'.heap.get? a=some b) (hg:s'.gens=s.gens):Rel w g σ s':=
 ⟨r.n,r.trc,fun j b e=>(r.objs _ _ e).heap (fun a b e U=>k a b e) fun a b e U=>k a b e,fun a ha=>(r.live a ha).imp fun o e=>k a o e,r.sta.go (fun U z=>z) (fun a b e U=>k a b e) hg⟩
theorem Rel.privs (r:Rel w g σ s) (k:∀ a b,s.heap.get? a=some b->¬ (g.κ a).own->s'.heap.get? a=some b) (sz:∀ a b,s.heap.get? a=some b->∃ b',s'.heap.get? a=some b') (hg:s'.gens=s.gens):Rel w g σ s':=by
 have st:Stays g s.heap s'.heap:=fun a b e hk=>k a b e fun q=>q.noval hk
 exact ⟨r.n,r.trc,fun j b e=>(r.objs _ _ e).heap st fun a b ea hk=>k a b ea (by rcases hk with hk | hk <;> rw [hk] <;> exact id),fun a ha=>(r.live a ha).elim fun o e=>sz a o e,r.sta.go (fun U z=>z) st hg⟩
open Classical in
noncomputable def Gh.marks (g:Gh) (P:Addr->Prop) (k:Addr->KdP):Gh:={g with κ:=fun b=>if P b then k b else g.κ b}
noncomputable def Gh.mark (g:Gh) (a:Addr) (k:KdP):Gh:={g with κ:=fun b=>if b=a then k else g.κ b}
theorem Gh.mark_self (g:Gh) (a:Addr) (k:KdP):(g.mark a k).κ a=k:=if_pos rfl
theorem Gh.mark_ne (g:Gh) {a b:Addr} (k:KdP) (h:b≠a):(g.mark a k).κ b=g.κ b:=if_neg h
theorem Rel.kinds {κ':Addr->KdP} (r:Rel w g σ s) (h:∀ a,g.κ a=.free∨g.κ a=.priv∨κ' a=g.κ a) (hl:∀ a,κ' a≠.free->∃ o,s.heap.get? a=some o):Rel w {g with κ:=κ'} σ s:=by
 have ne:∀ a,g.κ a≠.free->g.κ a≠.priv->κ' a=g.κ a:=fun a h1 h2=>(h a).elim (fun z=>(h1 z).elim) fun z=>z.elim (fun z=>(h2 z).elim) id
 refine ⟨r.n,r.trc,fun j b e=>(r.objs _ _ e).ghost (g:=g) ⟨Nat.le_refl _,fun U U=>rfl,fun a hv=>?_⟩ rfl rfl fun a ha=>?_,hl,r.sta.go (fun a z=>?_) (.refl _ _) rfl⟩
 ·exact ne a (by intro z; rw [z] at hv; exact hv) (by intro z; rw [z] at hv; exact hv)
 ·rcases ha with ha | rfl
  ·exact ne a (by intro z; rw [z] at ha; rcases ha with z | z <;> injection z) (by intro z; rw [z] at ha; rcases ha with z | z <;> injection z)
  ·have:=(r.objs _ _ e).inj
   exact ne _ (by rw [this]; exact kdOf_free) (by intro z; exact kdOf_own (i:=j) (o:=b) (by rw [← this,z]; trivial))
 ·exact (ne a (by rw [z]; intro q; injection q) (by rw [z]; intro q; injection q)).trans z
theorem Rel.marks {P:Addr->Prop} (k:Addr->KdP) (r:Rel w g σ s) (ha:∀ a,P a->∃ o,s.heap.get? a=some o) (hP:∀ a,P a->g.κ a=.free):Rel w (g.marks P k) σ s:=
 r.kinds (fun a=>by by_cases q:P a; exact .inl (hP a q); exact .inr (.inr (if_neg q))) fun a z=>by
  by_cases q:P a
  ·exact ha a q
  ·exact r.live a fun e=>z ((if_neg q).trans e)
theorem Rel.mark {a:Addr} (k:KdP) (r:Rel w g σ s) (ha:∃ o,s.heap.get? a=some o) (hf:g.κ a=.free):Rel w (g.mark a k) σ s:=
 r.kinds (fun b=>by by_cases q:b=a; exact .inl (q▸hf); exact .inr (.inr (if_neg q))) fun b z=>by
  by_cases q:b=a
  ·exact q▸ha
  ·exact r.live b fun e=>z ((if_neg q).trans e)
theorem Rel.unpriv {a:Addr} (r:Rel w g σ s) (hf:g.κ a=.priv):Rel w (g.mark a .free) σ s:=
 r.kinds (fun b=>by by_cases q:b=a; exact .inr (.inl (q▸hf)); exact .inr (.inr (if_neg q))) fun b z=>by
  by_cases q:b=a
  ·exact (z (if_pos q)).elim
  ·exact r.live b fun e=>z ((if_neg q).trans e)
theorem Ext.mark {a:Addr} (k:KdP) (hf:¬ (g.κ a).firm):Ext g (g.mark a k):=⟨Nat.le_refl _,fun U U=>rfl,fun b hb=>Gh.mark_ne g k fun q=>hf (q▸hb),fun U h=>h⟩
theorem Ext.marks {P:Addr->Prop} (k:Addr->KdP) (hP:∀ a,P a->g.κ a=.free):Ext g (g.marks P k):=⟨Nat.le_refl _,fun U U=>rfl,fun a ha=>if_neg fun q=>by rw [hP a q] at ha; exact ha,fun U h=>h⟩
theorem Ext.unpriv {a:Addr} (x:Ext g g') (ha:¬ (g.κ a).firm):Ext g (g'.mark a .free):=⟨x.n,x.ρ,fun b hb=>(Gh.mark_ne g' (b:=b) (a:=a) _ fun q=>ha (q▸hb)).trans (x.κ b hb),x.τ⟩
theorem ExtV.unpriv {a:Addr} (ha:g.κ a=.priv):ExtV g (g.mark a .free):=⟨Nat.le_refl _,fun U U=>rfl,fun b hb=>Gh.mark_ne g _ fun q=>by rw [q,ha] at hb; exact hb⟩
noncomputable def Gh.grow (g:Gh) (a:Addr):Gh:=⟨fun b=>if b=a then .obj g.n else g.κ b,fun j=>if j=g.n then a else g.ρ j,g.n+1,g.τ⟩
theorem Gh.grow_ne {a b:Addr} (h:b≠a):(g.grow a).κ b=g.κ b:=if_neg h
theorem Gh.grow_ρ (g:Gh) (a:Addr):(g.grow a).ρ g.n=a:=if_pos rfl
theorem Ext.grow {a:Addr} (hf:¬ (g.κ a).firm):Ext g (g.grow a):=⟨Nat.le_succ _,fun i hi=>if_neg (Nat.ne_of_lt hi),fun b hb=>Gh.grow_ne fun q=>hf (q▸hb),fun U h=>h⟩
theorem Rel.new {a:Addr} (r:Rel w g σ s) (ha:∃ o,s.heap.get? a=some o) (hf:g.κ a=.free) (ho:ORep w (g.grow a) s.heap g.n o) (hk:kdOf g.n o=.obj g.n):Rel w (g.grow a) (σ.new o) s:=by
 have x:Ext g (g.grow a):=.grow (by rw [hf]; exact id)
 have nn:=r.n
 have old:∀ {j b},(if j=σ.next then some o else σ.get j)=some b->(j=g.n∧b=o)∨(j<g.n∧σ.get j=some b):=fun {j b} e=>by
  by_cases q:j=σ.next
  ·rw [if_pos q] at e; exact .inl ⟨q.trans nn.symm,(Option.some.inj e).symm⟩
  ·rw [if_neg q] at e; exact .inr ⟨(r.objs _ _ e).lt,e⟩
 refine ⟨congrArg Nat.succ nn,fun j hj=>?_,fun j b e=>?_,fun b hb=>?_,r.sta.go (fun b z=>(Gh.grow_ne fun q=>by rw [q,hf] at z; injection z).trans z) (.refl _ _) rfl⟩
 ·obtain ⟨c,fs,h⟩:=r.trc j hj
  exact ⟨c,fs,(if_neg (Nat.ne_of_lt (nn▸(r.objs _ _ h).lt))).trans h⟩
 ·rcases old e with ⟨rfl,rfl⟩ | ⟨hl,e⟩
  ·exact ⟨Nat.lt_succ_self _,by rw [Gh.grow_ρ,hk]; exact if_pos rfl,ho⟩
  ·refine (r.objs _ _ e).ghost x.v (if_neg (Nat.ne_of_lt hl)) rfl fun b hb=>Gh.grow_ne fun q=>?_
   subst q
   rcases hb with hb | hb
   ·rw [hf] at hb; rcases hb with z | z <;> injection z
   ·have:=(r.objs _ _ e).inj; rw [← hb,hf] at this; exact kdOf_free this.symm
 ·by_cases q:b=a
  ·exact q▸ha
  ·exact r.live b fun e=>hb ((Gh.grow_ne q).trans e)
theorem Rel.fix (r:Rel w g σ s) (hi:σ.get i=some o) (hk:kdOf i o=.obj i) (hx:∀ c fs,o≠.exc c fs) (hn:σ'.next=σ.next) (hs:∀ j,j≠i->σ'.get j=σ.get j) (h':∀ b,σ'.get i=some b->kdOf i b=.fz∧ORep w (g.mark (g.ρ i) .fz) s.heap i b):Rel w (g.mark (g.ρ i) .fz) σ' s:=by
 have hκ:=(r.objs _ _ hi).inj.trans hk
 refine ⟨r.n.trans hn.symm,fun j hj=>?_,fun j b e=>?_,fun b hb=>?_,r.sta.go (fun b z=>(Gh.mark_ne g _ fun q=>by rw [q,hκ] at z; injection z).trans z) (.refl _ _) rfl⟩
 ·obtain ⟨c,fs,h⟩:=r.trc j hj
  exact ⟨c,fs,(hs j fun q=>by rw [q,hi] at h; exact hx c fs (Option.some.inj h)).trans h⟩
 ·by_cases q:j=i
  ·subst q; exact ⟨(r.objs _ _ hi).lt,(Gh.mark_self _ _ _).trans (h' b e).1.symm,(h' b e).2⟩
  ·rw [hs j q] at e
   refine (r.objs _ _ e).ghost (g:=g) ⟨Nat.le_refl _,fun U U=>rfl,fun b hb=>Gh.mark_ne g _ fun z=>by rw [z,hκ] at hb; exact hb⟩ rfl rfl fun b hb=>Gh.mark_ne g _ fun z=>?_
   rcases hb with hb | hb
   ·rw [z,hκ] at hb; rcases hb with z | z
    ·injection z with z; exact q z.symm
    ·injection z
   ·have:=(r.objs _ _ e).inj; rw [← hb,z,hκ] at this; exact q (kdOf_obj this.symm)
 ·by_cases q:b=g.ρ i
  ·exact q▸r.live _ (by rw [hκ]; intro z; injection z)
  ·exact r.live b fun e=>hb ((Gh.mark_ne g _ q).trans e)
theorem Rel.freeze {xs:List AV} (r:Rel w g σ s) (hi:σ.get i=some (.list xs)):Rel w (g.mark (g.ρ i) .fz) (σ.del i) s∧Ext g (g.mark (g.ρ i) .fz)∧VRep (g.mark (g.ρ i) .fz) s.heap (.lst xs) (.ref (g.ρ i)):=by
 have x:Ext g (g.mark (g.ρ i) .fz):=.mark _ (by rw [(r.objs _ _ hi).inj]; exact id)
 obtain ⟨e,q⟩:=r.rep hi
 exact ⟨r.fix hi rfl (fun U U z=>by injection z) rfl (fun j hj=>if_neg hj) (fun b e=>by rw [show (σ.del i).get i=none from if_pos rfl] at e; injection e),x,.lst (by rw [Gh.mark_self]; trivial) e (q.mono x (.refl g _))⟩
theorem Rel.lock {kvs:List (AV×AV)} (r:Rel w g σ s) (hi:σ.get i=some (.dict kvs)):Rel w (g.mark (g.ρ i) .fz) (σ.set i (.kdict kvs)) s∧Ext g (g.mark (g.ρ i) .fz):=by
 have x:Ext g (g.mark (g.ρ i) .fz):=.mark _ (by rw [(r.objs _ _ hi).inj]; exact id)
 refine ⟨r.fix hi rfl (fun U U z=>by injection z) rfl (fun j hj=>if_neg hj) (fun b e=>?_),x⟩
 rw [show (σ.set i (.kdict kvs)).get i=some (.kdict kvs) from if_pos rfl] at e
 (injection e with e1; subst e1)
 refine ⟨rfl,?_⟩
 have d:DictO w g s.heap (g.ρ i) kvs:=r.rep hi
 induction d using DictO.casesOn with
 | s e d r=>exact DictO.s e d (r.monoV x.v (.refl g _))
 | i e d r=>exact DictO.i e d (r.monoV x.v (.refl g _))
end
structure Go (w:World) (X:Addr->Prop) (g:Gh) (s:Shared) (g':Gh) (σ':AHeap) (s':Shared):Prop where
 ext:Ext g g'
 rel:Rel w g' σ' s'
 tr:TrP g X s.heap s'.heap
 os:s'.os=s.os
noncomputable abbrev noX:Addr->Prop:=fun U=>False
section
variable {w:World} {X:Addr->Prop} {g g' g'':Gh} {σ σ' σ'':AHeap} {s s' s'':Shared}
theorem Go.refl (r:Rel w g σ s):Go w X g s g σ s:=⟨.refl g,r,.refl g X _,rfl⟩
theorem Go.trans (x:Go w X g s g' σ' s') (y:Go w X g' s' g'' σ'' s''):Go w X g s g'' σ'' s'':=⟨x.ext.trans y.ext,y.rel,TrP.trans x.ext x.tr y.tr,y.os.trans x.os⟩
theorem Go.moreX {Y:Addr->Prop} (go:Go w X g s g' σ' s') (h:∀ a,X a->Y a):Go w Y g s g' σ' s':=⟨go.ext,go.rel,go.tr.weaken h,go.os⟩
theorem Go.keeps (r:Rel w g σ s) (k:∀ a b,s.heap.get? a=some b->s'.heap.get? a=some b) (hg:s'.gens=s.gens) (ho:s'.os=s.os):Go w X g s g σ s':=⟨.refl g,r.keeps k hg,.of_keeps k,ho⟩
theorem Go.toks {t:Nat} (r:Rel w g σ s):Go w X g s g σ {s with toks:=t}:=.keeps r (fun U U e=>e) rfl rfl
theorem Go.push (r:Rel w g σ s) (o:Obj):Go w X g s g σ {s with heap:=s.heap.push o}:=.keeps r (fun U U e=>Heap.get?_push_of_some _ e) rfl rfl
theorem Go.mark {a:Addr} (x:Go w X g s g' σ' s') (k:KdP) (ha:∃ o,s'.heap.get? a=some o) (hf:g'.κ a=.free):Go w X g s (g'.mark a k) σ' s':=⟨x.ext.trans (.mark k (by rw [hf]; exact id)),x.rel.mark k ha hf,x.tr,x.os⟩
theorem Go.new {a:Addr} {o:AObj} (x:Go w X g s g' σ' s') (ha:∃ o,s'.heap.get? a=some o) (hf:g'.κ a=.free) (ho:ORep w (g'.grow a) s'.heap g'.n o) (hk:kdOf g'.n o=.obj g'.n):Go w X g s (g'.grow a) (σ'.new o) s':=⟨x.ext.trans (.grow (by rw [hf]; exact id)),x.rel.new ha hf ho hk,x.tr,x.os⟩
theorem VRep.go {v:AV} {c:Value} (r:VRep g s.heap v c) (x:Go w X g s g' σ' s'):VRep g' s'.heap v c:=r.mono x.ext x.tr.val
theorem VReps.go {v:List AV} {c:List Value} (r:VReps g s.heap v c) (x:Go w X g s g' σ' s'):VReps g' s'.heap v c:=r.mono x.ext x.tr.val
inductive OkE {α β:Type} (w:World) (g:Gh) (s:Shared) (R:Gh->Heap->β->α->Prop) (Q:β->AHeap->Prop) (cv:α) (s':Shared):Prop
 | mk (v:β) (g':Gh) (σ':AHeap) (go:Go w noX g s g' σ' s') (r:R g' s'.heap v cv) (q:Q v σ')
inductive ErE (w:World) (g:Gh) (s:Shared) (E:EX):Value->Shared->Prop
 | mk {s':Shared} (i:Nat) (g':Gh) (σ':AHeap) (c:Addr) (fs:List (Str×AV)) (go:Go w noX g s g' σ' s') (hi:σ'.get i=some (.exc c fs)) (q:E i σ'):ErE w g s E (.ref (g'.ρ i)) s'
noncomputable def WE {α β:Type} (w:World) (A:Around) (g:Gh) (s:Shared) (c:Sem α) (R:Gh->Heap->β->α->Prop) (Q:β->AHeap->Prop) (E:EX):Prop:=wpAny (model prg w) A c (OkE w g s R Q) (ErE w g s E) s
variable {α β γ δ:Type} {A:Around} {c:Sem α} {R:Gh->Heap->β->α->Prop} {Q:β->AHeap->Prop} {E:EX}
theorem OkE.pre {cv:α} (go:Go w noX g s g' σ' s'):OkE w g' s' R Q cv s''->OkE w g s R Q cv s''
 | ⟨v,g2,σ2,go2,r,q⟩=>⟨v,g2,σ2,go.trans go2,r,q⟩
theorem ErE.pre {e:Value} (go:Go w noX g s g' σ' s'):ErE w g' s' E e s''->ErE w g s E e s''
 | ⟨i,g2,σ2,c,fs,go2,hi,q⟩=>⟨i,g2,σ2,c,fs,go.trans go2,hi,q⟩
theorem WE.pre (go:Go w noX g s g' σ' s') (h:WE w A g' s' c R Q E):wpAny (model prg w) A c (OkE w g s R Q) (ErE w g s E) s':=wpAny_mono h (fun U U q=>q.pre go) fun U U q=>q.pre go
theorem WE.then {P:α->Shared->Prop} {E':Value->Shared->Prop} (h:WE w A g s c R Q E) (k:∀ v cv g' σ' s',Go w noX g s g' σ' s'->R g' s'.heap v cv->Q v σ'->P cv s') (ke:∀ e s',ErE w g s E e s'->E' e s'):wpAny (model prg w) A c P E' s:=
 wpAny_mono h (fun cv s' ⟨v,g',σ',go,r,q⟩=>k v cv g' σ' s' go r q) ke
theorem WE.bind {k:α->Sem γ} {R2:Gh->Heap->δ->γ->Prop} {Q2:δ->AHeap->Prop} (h:WE w A g s c R Q E) (h2:∀ v cv g' σ' s',Go w noX g s g' σ' s'->R g' s'.heap v cv->Q v σ'->WE w A g' s' (k cv) R2 Q2 E):WE w A g s (c >>= k) R2 Q2 E:=
 wpAny_bind (h.then (fun v cv g' σ' s' go r q=>(h2 v cv g' σ' s' go r q).pre go) fun U U q=>q)
theorem WE.ret {v:β} {cv:α} (r:Rel w g σ s) (h:R g s.heap v cv) (q:Q v σ):WE w A g s (pure cv) R Q E:=wpAny_pure ⟨v,g,σ,.refl r,h,q⟩
theorem WE.hold {vs:List Value} (h:WE w A g s c R Q E):WE w A g s (holding vs c) R Q E:=wpAny_holding h
theorem WE.stand {p:Pos} {k:Unit->Sem α} (h:WE w A g s (k ()) R Q E):WE w A g s (standAt p >>= k) R Q E:=wpAny_bind (wpAny_standAt h)
theorem WE.after {k:α->Sem Unit} (h:WE w A g s c R Q E) (ht:∀ r s' (Q:Unit->Shared->Prop) (E:Value->Shared->Prop),Q () s'->wpAny (model prg w) A (k r) Q E s'):WE w A g s (do let r ← c; k r; pure r) R Q E:=
 wpAny_bind (wpAny_mono h (fun r s' q=>wpAny_bind (ht r s' _ _ (wpAny_pure q))) fun U U q=>q)
theorem okS {v:AV} {cv:Value} {Q:EQ} (r:Rel w g σ s) (h:VRep g s.heap v cv) (q:Q v σ):OkE w g s VRep Q cv s:=⟨v,g,σ,.refl r,h,q⟩
theorem okTP {v:AV} {cv:Value} {t:Nat} {Q:EQ} (r:Rel w g σ s) (h:VRep g s.heap v cv) (q:Q v σ):OkE w g s VRep Q cv {s with toks:=t}:=⟨v,g,σ,.toks r,h,q⟩
theorem okK {v:AV} {cv:Value} {t:Nat} {h':Heap} {Q:EQ} (r:Rel w g σ s) (h:VRep g s.heap v cv) (k:∀ a b,s.heap.get? a=some b->h'.get? a=some b) (q:Q v σ):OkE w g s VRep Q cv {s with heap:=h',toks:=t}:=
 have go:Go w noX g s g σ {s with heap:=h',toks:=t}:=.keeps r k rfl rfl
 ⟨v,g,σ,go,h.go go,q⟩
theorem okL {z:Bool} {xs:List AV} {vs:Array Value} {n a:Nat} {Q:EQ} (go:Go w noX g s g' σ' s') (ha:s'.heap.get? a=some ⟨.type "list",none,.seq vs n,#[]⟩) (hf:g'.κ a=.free) (hx:VReps g' s'.heap xs vs.toList) (q:NewL xs σ' Q z):OkE w g s VRep Q (.ref a) s':=by
 induction q using NewL.casesOn with
 | f hl q=>exact ⟨_,_,_,go.mark .fz ⟨_,ha⟩ hf,.lst (by rw [Gh.mark_self]; trivial) ha (hx.mono (.mark _ (by rw [hf]; exact id)) (.refl _ _)),q⟩
 | n hl q=>
  refine ⟨_,_,_,go.new (o:=.list xs) ⟨_,ha⟩ hf ⟨by rw [Gh.grow_ρ]; exact ha,hx.mono (.grow (by rw [hf]; exact id)) (.refl _ _)⟩ rfl,.ref _ ?_ a ?_,q⟩
  ·show σ'.next<g'.n+1; rw [go.rel.n]; exact Nat.lt_succ_self _
  ·rw [← go.rel.n]; exact (Gh.grow_ρ g' a).symm
theorem NewL.len {z:Bool} {xs:List AV} {Q:EQ} (q:NewL xs σ Q z):xs.length<=lim:=by induction q using NewL.casesOn <;> assumption
theorem lim_line:lim+10<=sizeLine:=by decide
theorem size_ok {n:Nat} (h:n<=lim):n<=sizeLine:=Nat.le_trans h (Nat.le_trans (Nat.le_add_right _ _) lim_line)
theorem newLP {z:Bool} {xs:List AV} {vs:List Value} {Q:EQ} (r:Rel w g σ s) (hx:VReps g s.heap xs vs) (q:NewL xs σ Q z):OkE w g s VRep Q (.ref s.heap.objs.size) {s with heap:=s.heap.push {cls:=.type "list",data:=.seq vs.toArray}}:=
 have go:=Go.push r {cls:=.type "list",data:=.seq vs.toArray}
 okL (n:=0) go (Heap.get?_push_size _ rfl) (r.free _ (Nat.le_refl _)) (hx.go go) q
theorem newList_w {z:Bool} {xs:List AV} {vs:List Value} {Q:EQ} (r:Rel w g σ s) (hx:VReps g s.heap xs vs) (q:NewL xs σ Q z):WE w A g s (newList vs) VRep Q E:=
 wpAny_newObj_type (newLP r hx q) (by show vs.toArray.size<=sizeLine; rw [List.size_toArray,hx.length]; exact size_ok q.len)
theorem okTup {xs:List AV} {vs:Array Value} {n a:Nat} {Q:EQ} (go:Go w noX g s g' σ' s') (ha:s'.heap.get? a=some ⟨.type "tuple",none,.seq vs n,#[]⟩) (hf:g'.κ a=.free) (hx:VReps g' s'.heap xs vs.toList) (q:Q (.tup xs) σ'):OkE w g s VRep Q (.ref a) s':=
 ⟨_,_,_,go.mark .fz ⟨_,ha⟩ hf,.tup (by rw [Gh.mark_self]; trivial) ha (hx.mono (.mark _ (by rw [hf]; exact id)) (.refl _ _)),q⟩
theorem newTuple_w {xs:List AV} {vs:List Value} {Q:EQ} (r:Rel w g σ s) (hx:VReps g s.heap xs vs) (hl:xs.length<=lim) (q:Q (.tup xs) σ):WE w A g s (newTuple vs) VRep Q E:=
 have go:=Go.push r {cls:=.type "tuple",data:=.seq vs.toArray}
 wpAny_newObj_type (okTup (n:=0) go (Heap.get?_push_size _ rfl) (r.free _ (Nat.le_refl _)) (hx.go go) q) (by show vs.toArray.size<=sizeLine; rw [List.size_toArray,hx.length]; exact size_ok hl)
end
end Mine
namespace Mine
set_option linter.unusedSimpArgs false
open PySem PySem.W PyProof.Rows
inductive LocI (g:Gh) (sc:Scope) (L:Addr) (m:Loc) (h:Heap):Prop
 | mk (mc:Str->Option Value) (n:h.Ns L mc) (v:∀ x v,sc.names.lookup x=some .local->m x=some v->∃ cv,mc x=some cv∧VRep g h v cv)
inductive CellI (g:Gh) (env:Env) (x:Str) (o:Option AV) (h:Heap):Prop
 | mk (c:Addr) (ov:Option Value) (e:env.cells.lookup x=some c) (k:g.κ c=.priv) (i:h.IsCell c ov) (v:∀ v,o=some v->∃ cv,ov=some cv∧VRep g h v cv)
structure FRp (g:Gh) (sc:Scope) (env:Env) (m:Loc) (h:Heap):Prop where
 names:env.scope.names=sc.names
 kind:env.scope.kind=.function
 skind:sc.kind=.function
 glob:env.globals=mainGlobals
 blt:env.builtins=builtinsNs
 priv:(g.κ env.locals).own
 loc:LocI g sc env.locals m h
 nodebug:sc.names.lookup ("__debug__":Str)=none
 cell:∀ x,sc.names.lookup x=some .cell->CellI g env x (m x) h
 apart:∀ x y c,env.cells.lookup x=some c->env.cells.lookup y=some c->x=y
noncomputable def ownX (env:Env):Addr->Prop:=fun a=>a=env.locals∨∃ n,env.kindOf n=some .cell∧env.cells.lookup n=some a
section
variable {w:World} {A:Around} {g g':Gh} {σ σ':AHeap} {s s':Shared} {Q:EQ} {E:EX} {sc:Scope} {env:Env} {m:Loc}
theorem kindOf_eq {h:Heap} (F:FRp g sc env m h) (x:Str):env.kindOf x=sc.names.lookup x:=by unfold Env.kindOf; rw [F.names]
theorem FRp.goX {h h':Heap} {Y:Addr->Prop} (F:FRp g sc env m h) (x:Ext g g') (k:TrP g Y h h') (hY:∀ a,ownX env a->¬ Y a):FRp g' sc env m h':=by
 refine ⟨F.names,F.kind,F.skind,F.glob,F.blt,by rw [x.κ _ F.priv.firm]; exact F.priv,?_,F.nodebug,fun y hy=>?_,F.apart⟩
 ·obtain ⟨mc,⟨o,es,ep,ho,hd,r⟩,hm⟩:=F.loc
  obtain ⟨sl,hs,_⟩:=k.priv _ _ ho F.priv (hY _ (.inl rfl))
  exact ⟨mc,⟨_,es,ep,hs,hd,r⟩,fun y v hl hv=>(hm y v hl hv).imp fun cv z=>⟨z.1,z.2.mono x k.val⟩⟩
 ·obtain ⟨c,ov,h1,h2,⟨o,h3,h4⟩,h5⟩:=F.cell y hy
  obtain ⟨sl,h6,_⟩:=k.priv _ _ h3 (by rw [h2]; trivial) (hY _ (.inr ⟨y,(kindOf_eq F y).trans hy,h1⟩))
  exact ⟨c,ov,h1,(x.κ _ (by rw [h2]; trivial)).trans h2,⟨_,h6,h4⟩,fun v hv=>(h5 v hv).imp fun cv z=>⟨z.1,z.2.mono x k.val⟩⟩
theorem FRp.go (F:FRp g sc env m s.heap) (x:Go w noX g s g' σ' s'):FRp g' sc env m s'.heap:=F.goX x.ext x.tr fun U U=>id
theorem const_w {c:Const} (r:Rel w g σ s) (q:constP (fun v=>Q v σ) c):WE w A g s (constValue env c) VRep Q E:=by
 induction c using Const.casesOn with
 | none=>exact WE.ret r .none q
 | bool b=>exact WE.ret r (.bool b) q
 | int i=>exact wpAny_mkInt (okTP r (.int i _) q)
 | str x=>exact wpAny_mkText (okTP r (.str x _) q)
 | _=>exact q.elim
theorem mapM_reps {f:Value->Option AV}:∀ {vs:List Value} {xs:List AV},(∀ v∈vs,∀ a,f v=some a->VRep g s.heap a v)->vs.mapM f=some xs->VReps g s.heap xs vs
 | [],xs,_,e=>by (injection e with e1; subst e1); exact .nil
 | v::vs,xs,k,e=>by
  rw [List.mapM_cons] at e
  obtain ⟨x,h1,e⟩:=Option.bind_eq_some_iff.mp e
  obtain ⟨ys,h2,e⟩:=Option.bind_eq_some_iff.mp e
  (injection e with e1; subst e1)
  exact .cons (k v (.head _) x h1) (mapM_reps (fun v hv=>k v (.tail _ hv)) h2)
theorem absO_rep {f:Value->Option AV} (r:Rel w g σ s) {p:Addr} {o:Obj} {a:AV} (ih:∀ v a,f v=some a->VRep g s.heap a v) (hl:(KF w.params).lookup p=some o) (e:absO f p o=some a):VRep g s.heap a (.ref p):=by
 have st:=r.sta.stat _ _ hl
 have ho:=r.sta.inK _ _ hl
 obtain ⟨oc,od,odt,osl⟩:=o
 induction odt using Data.casesOn with
 | seq vs n=>
  have e:(if oc==.type "tuple" then (vs.toList.mapM f).map .tup else none)=some a:=e
  induction hc:oc==.type "tuple" using Bool.casesOn <;> rw [hc] at e
  ·injection e
  ·obtain ⟨xs,hx,rfl⟩:=Option.map_eq_some_iff.mp e
   rw [beq_iff_eq.mp hc] at ho
   exact .tup (by rw [st]; trivial) ho (mapM_reps (fun v U a=>ih v a) hx)
 | func _=>(injection e with e1; subst e1); exact .fn _ st
 | cls _=>(injection e with e1; subst e1); exact .fn _ st
 | _=>injection e
theorem absV_rep (r:Rel w g σ s):∀ (n:Nat) {v:Value} {a:AV},absV n (KF w.params) v=some a->VRep g s.heap a v
 | 0,v,a,e=>by injection e
 | n+1,v,a,e=>by
  induction v using Value.casesOn with
  | ref p=>
   obtain ⟨o,h1,h2⟩:=Option.bind_eq_some_iff.mp (show ((KF w.params).lookup p).bind (absO (absV n (KF w.params)) p)=some a from e)
   exact absO_rep r (fun v a=>absV_rep r n) h1 h2
  | none=>(injection e with e1; subst e1); exact .none
  | bool b=>(injection e with e1; subst e1); exact .bool b
  | int i t=>(injection e with e1; subst e1); exact .int i t
  | str x t=>(injection e with e1; subst e1); exact .str x t
  | builtin n=>(injection e with e1; subst e1); exact .bi n
  | type n=>(injection e with e1; subst e1); exact .ty n
  | _=>injection e
theorem KF_gl {P:Params}:nsOkIn (KF P) mainGlobals=true:=by kernel_rfl
theorem KF_bu {P:Params}:nsOkIn (KF P) builtinsNs=true:=by kernel_rfl
theorem K_ns {a:Addr} (r:Rel w g σ s) (e:nsOkIn (KF w.params) a=true):s.heap.Ns a (s.heap.nsMap a):=Heap.Ns.of_isNs (isNs_of_in r.sta.inK e)
set_option tactic.hygienic true in
theorem ns_of {K:Frag} {h:Heap} {N:Addr} {mg:Str->Option Value} {n:Str} {v:Value} (X:K.In h) (G:h.Ns N mg) (e:nsIn K N n=some (some v)):mg n=some v:=by
 obtain ⟨o,es,ep,ho,hd,_,hf⟩:=G
 unfold nsIn at e
 split at e
 ·rename_i c d es' n' sl q
  have:=X _ _ q
  rw [ho] at this
  (injection this with e1; subst e1)
  (injection hd with e1 e2; subst e1 e2)
  split at e
  ·rename_i en he
   (injection e with e1; cases e1)
   rw [← hf]
   unfold nsFind findBy
   rw [← Array.find?_toList,he]
   rfl
  ·split at e <;> (first | (injection e; done) | cases e)
 ·injection e
theorem someP_inv {α:Type} {o:Option α} {k:α->Prop} (h:someP o k):∃ a,o=some a∧k a:=by
 induction o using Option.casesOn with
 | none=>exact h.elim
 | some a=>exact ⟨a,rfl,h⟩
set_option tactic.hygienic true in
theorem glob_w {x:Str} {a:AV} (r:Rel w g σ s) (F:FRp g sc env m s.heap) (e:Mine.glob (KF w.params) x=some a) (q:Q a σ):WE w A g s (loadGlobal env x) VRep Q E:=by
 have G:=K_ns r KF_gl
 have B:=K_ns r KF_bu
 unfold Mine.glob at e
 split at e
 ·rename_i v hv
  exact Calls.loadGlobal_global (by rw [F.glob]; exact G) (mg_of r.sta.inK G hv) (okS r (absV_rep r 2 e) q)
 ·rename_i hv
  split at e
  ·rename_i v hv2
   exact Calls.loadGlobal_builtin (by rw [F.glob]; exact G) (mg_none_of r.sta.inK G hv) (by rw [F.blt]; exact B) (ns_of r.sta.inK B hv2) (okS r (absV_rep r 1 e) q)
  ·injection e
 ·injection e
theorem name_w0 {cx:Cx} {x:Str} (hP:cx.P=w.params) (r:Rel w g σ s) (F:FRp g cx.sc env m s.heap) (q:nameP cx m x fun v=>Q v σ):WE w A g s (loadName env x) VRep Q E:=by
 have kd:=kindOf_eq F x
 unfold nameP at q
 induction hl:cx.sc.names.lookup x using Option.casesOn with
 | none=>rw [hl] at q; exact q.elim
 | some k=>
  rw [hl] at q kd
  induction k using NameKind.casesOn with
  | «local»=>
   obtain ⟨v,hv,q⟩:=someP_inv q
   obtain ⟨mc,hn,hm⟩:=F.loc
   obtain ⟨cv,h1,h2⟩:=hm x v hl hv
   exact wpAny_loadName_local F.kind kd hn h1 (okS r h2 q)
  | cell=>
   obtain ⟨v,hv,q⟩:=someP_inv q
   obtain ⟨c,ov,h1,h2,h3,h4⟩:=F.cell x hl
   obtain ⟨cv,rfl,h5⟩:=h4 v hv
   exact wpAny_loadName_cell F.kind kd h1 h3 (okS r h5 q)
  | globalImplicit=>
   obtain ⟨v,hv,q⟩:=someP_inv q
   unfold loadName
   simp only [Env.blockKind,F.kind,kd,ScopeKind.isAnnotationScope,Bool.false_and,Bool.false_eq_true,if_false]
   exact glob_w r F (hP▸hv) q
  | free=>exact q.elim
  | globalExplicit=>exact q.elim
theorem mul_listW (l:Addr) (items:Array Value) (n:Nat) (od:Option Addr) (osl:Array (Option Value)) (x:Int) (u:Tok) (hc0:¬(!Builtin.List.listFitsIndex x)=true) (hc1:¬items.size*x.toNat>(2 ^ 63 - 1) / 8) (hc2:¬Builtin.List.listTooLong (items.size*x.toNat)=true) :
  Meets (Builtin.«list.__mul__» ⟨[.ref l,.int x u],[]⟩) (fun U R s=>s.heap.get? l=some {cls:=.type "list",dict:=od,data:=.seq items n,slots:=osl}∧R (.ok (.ret (Value.ref s.heap.objs.size))) {s with heap:=s.heap.push {cls:=Value.type "list",data:=Data.seq (List.foldl (fun x1 x2=>x1++x2) #[] (List.replicate (if items.isEmpty=true then 0 else x.toNat) items))},toks:=s.toks}):=
 .of_wp fun prog w A R s h=>by
  obtain ⟨hp,g,d,tk,os⟩:=s; obtain ⟨hl,h⟩:=h
  have hsz:=AutoListH.joined_fits hc2
  wp_walk; refine wpAny_ite_false (decide_eq_false (Nat.not_lt.mpr hsz)) ?_; wp_walk; exact ⟨_,rfl,h⟩
theorem rmul_listW (a:Int) (t:Tok) (l:Addr) (items:Array Value) (n:Nat) (od:Option Addr) (osl:Array (Option Value)) :
  Meets (Builtin.«int.__rmul__» ⟨[.int a t,.ref l],[]⟩) (fun U R s=>s.heap.get? l=some {cls:=.type "list",dict:=od,data:=.seq items n,slots:=osl}∧R (.ok (.ret Value.notImplemented)) s):=
 .of_wp fun prog w A R s h=>by obtain ⟨hp,g,d,tk,os⟩:=s; obtain ⟨hl,h⟩:=h; wp_walk; exact ⟨_,rfl,h⟩
theorem repl_fold {c:Value} (k:Nat):∀ a:Array Value,List.foldl (fun (x1 x2:Array Value)=>x1++x2) a (List.replicate k #[c])=a++(List.replicate k c).toArray:=by
 induction k with
 | zero=>intro a; simp
 | succ k ih=>intro a; rw [List.replicate_succ,List.foldl_cons,ih,List.replicate_succ]; apply Array.ext'; simp
theorem repl_reps {x:AV} {c:Value} (h:VRep g s.heap x c):∀ k:Nat,VReps g s.heap (List.replicate k x) (List.replicate k c)
 | 0=>.nil
 | k+1=>.cons h (repl_reps h k)
theorem one_reps {x:AV} {vs:Array Value} (r:VReps g s.heap [x] vs.toList):∃ c,vs=#[c]∧VRep g s.heap x c:=by
 have q:ConsI g s.heap x [] vs.toList:=r.inv
 generalize hl:vs.toList=l at q
 obtain ⟨a,r⟩:=q
 exact ⟨_,Array.ext' (hl.trans (congrArg _ r.inv)),a⟩
set_option tactic.hygienic true in
theorem mul_list_w {frz:Bool} {x:AV} {n:Int} {ca:Value} {u:Tok} (r:Rel w g σ s) (ha:VRep g s.heap (.lst [x]) ca) (h0:0<=n) (h:n<=1000) (q:NewL (List.replicate n.toNat x) σ Q frz):WE w A g s (binaryOp .Mult ca (.int n u)) VRep Q E:=by
 obtain ⟨k1,k2,k3⟩:=ha.inv
 rename_i l od vs ep osl
 obtain ⟨c,rfl,hx⟩:=one_reps k3
 refine wpAny_binaryOp_repeat_ref (T:="list") (U:="int") (by decide) ⟨_,k2,rfl⟩ (fun s'=>typeIs_int s' n u) noFill_list_mul PySem.F.fills_int_mul PySem.F.slot_int_rmul repeat_list PySem.F.slot_int_index.lookup
  (call_meets PySem.F.slot_int_rmul (typeIs_int s n u) PySem.F.entry_int_rmul (PySem.F.args_int_rmul_2 _ _) (rmul_listW n u l #[c] ep od osl)
   ⟨k2,rfl,⟨_,k2,rfl⟩,call_meets PySem.F.slot_list_mul ⟨_,k2,rfl⟩ PySem.F.entry_list_mul (PySem.F.args_list_mul_2 _ _)
    (mul_listW l #[c] ep od osl n u (by simp [Builtin.List.listFitsIndex]; lia) (by have:(#[c]:Array Value).size=1:=rfl; rw [this]; lia) (by have:(#[c]:Array Value).size=1:=rfl; rw [this]; simp [Builtin.List.listTooLong,sizeLine]; lia))
    ⟨k2,?_⟩⟩)
 rw [show (if (#[c]:Array Value).isEmpty=true then 0 else n.toNat)=n.toNat by simp,repl_fold,Array.empty_append]
 exact newLP r (repl_reps hx _) q
set_option tactic.hygienic true in
theorem add_list_w {frz:Bool} {xs ys:List AV} {ca cb:Value} (r:Rel w g σ s) (ha:VRep g s.heap (.lst xs) ca) (hb:VRep g s.heap (.lst ys) cb) (q:NewL (xs++ys) σ Q frz):WE w A g s (binaryOp .Add ca cb) VRep Q E:=by
 obtain ⟨k1,k2,k3⟩:=ha.inv
 obtain ⟨j1,j2,j3⟩:=hb.inv
 rename_i l od vs n osl l2 od2 vs2 n2 osl2
 have hl:=q.len
 rw [List.length_append] at hl
 refine concat_meets ⟨_,k2,rfl⟩ ⟨_,j2,rfl⟩ noFill_list_add seq_list_add PySem.F.slot_list_add PySem.F.entry_list_add (PySem.F.args_list_add_2 _ _) (list_addW l l2 vs vs2 n n2 _ _ _ _ (by rw [k3.size,j3.size]; exact size_ok hl)) ⟨k2,j2,?_⟩
 rw [show vs++vs2=(vs.toList++vs2.toList).toArray by simp]
 exact newLP r (k3.append j3) q
theorem small_of {x:Int} (h:smallI x=true):-(2 ^ 62)<x∧x<2 ^ 62:=by
 unfold smallI at h
 simpa using h
theorem bin_w {frz:Bool} {op:Operator} {a b:AV} {ca cb:Value} (r:Rel w g σ s) (ha:VRep g s.heap a ca) (hb:VRep g s.heap b cb) (q:BinP frz σ Q op a b):WE w A g s (binaryOp op ca cb) VRep Q E:=by
 induction q using BinP.casesOn with
 | ai q=>obtain ⟨_,rfl⟩:=ha.inv; obtain ⟨_,rfl⟩:=hb.inv; exact PyProof.Rows.add_int (okTP r (.int _ _) q)
 | si q=>obtain ⟨_,rfl⟩:=ha.inv; obtain ⟨_,rfl⟩:=hb.inv; exact PyProof.Rows.sub_int (okTP r (.int _ _) q)
 | mi hx hy q=>
  obtain ⟨_,rfl⟩:=ha.inv; obtain ⟨_,rfl⟩:=hb.inv
  have h1:=small_of hx
  have h2:=small_of hy
  exact PyProof.Rows.mul_int (okTP r (.int _ _) q) (IntMulOk.of_left (intBits_le_64 (by lia) (by lia)))
 | mo h q=>
  obtain ⟨_,rfl⟩:=ha.inv; obtain ⟨_,rfl⟩:=hb.inv
  refine PyProof.Rows.mod_int' (Int.ne_of_gt h) ?_
  rw [Int.fmod_eq_emod_of_nonneg _ (Int.le_of_lt h)]
  exact okTP r (.int _ _) q
 | pw h q=>obtain ⟨_,rfl⟩:=ha.inv; obtain ⟨_,rfl⟩:=hb.inv; exact PyProof.Rows.pow_int_small (Int.natCast_nonneg _) (by lia) (by decide) (okTP r (.int _ _) q)
 | as h q=>obtain ⟨_,rfl⟩:=ha.inv; obtain ⟨_,rfl⟩:=hb.inv; exact PyProof.Rows.add_str (fun t' tk=>okTP r (.str _ _) q) (size_ok h)
 | al q=>exact add_list_w r ha hb q
 | ml h q=>obtain ⟨_,rfl⟩:=hb.inv; exact mul_list_w r ha (Int.natCast_nonneg _) (by lia) q
theorem aug_w {op:Operator} {a b:AV} {ca cb:Value} (r:Rel w g σ s) (ha:VRep g s.heap a ca) (hb:VRep g s.heap b cb) (q:AugP σ Q op a b):WE w A g s (operate [ca,cb] (inplaceOp op ca cb)) VRep Q E:=by
 refine wpAny_operate' ?_
 induction q using AugP.casesOn with
 | a q=>obtain ⟨_,rfl⟩:=ha.inv; obtain ⟨_,rfl⟩:=hb.inv; exact AutoIntOps.iadd_0 (okTP r (.int _ _) q)
 | s q=>obtain ⟨_,rfl⟩:=ha.inv; obtain ⟨_,rfl⟩:=hb.inv; exact AutoIntOps.isub_0 (okTP r (.int _ _) q)
noncomputable abbrev BR:Gh->Heap->Bool->Bool->Prop:=fun U U b cb=>b=cb
theorem truth_w {v:AV} {cv:Value} {Q:Bool->AHeap->Prop} (r:Rel w g σ s) (hv:VRep g s.heap v cv) (q:TruthP σ Q v):WE w A g s (truthy cv) BR Q E:=by
 induction q using TruthP.casesOn with
 | b q=>rw [hv.inv]; exact wpAny_pure ⟨_,g,σ,.refl r,rfl,q⟩
 | n q=>rw [hv.inv]; exact wpAny_pure ⟨_,g,σ,.refl r,rfl,q⟩
end
section
variable {w:World} {A:Around} {g:Gh} {σ:AHeap} {s:Shared} {Q:EQ} {E:EX}
inductive RdI (h:Heap) (v:Value) (d:PyData) (n:Nat):Prop
 | mk (as:List Addr) (r:Reads h v d as) (c:d.canLay0=true) (l:d.depth<=n)
inductive RdsI (h:Heap) (v:List Value) (d:List PyData) (n:Nat):Prop
 | mk (as:List Addr) (r:ReadsAll h v d as) (c:PyData.canLayAll0 d=true) (l:PyData.depthAll d<=n)
theorem dat_reads (r:Rel w g σ s) {n:Nat} {a:AV} {d:PyData} (e:DatR σ n a d):∀ {v:Value},VRep g s.heap a v->RdI s.heap v d n:=
 DatR.rec (motive_1:=fun n a d U=>∀ {v:Value},VRep g s.heap a v->RdI s.heap v d n) (motive_2:=fun n a d U=>∀ {v:List Value},VReps g s.heap a v->RdsI s.heap v d n)
  (fun hv=>by obtain ⟨t,rfl⟩:=hv.inv; exact ⟨_,.int _ t,rfl,Nat.zero_le _⟩)
  (fun h v hv=>by obtain ⟨t,rfl⟩:=hv.inv; exact ⟨_,.str _ t,h,Nat.zero_le _⟩)
  (fun U ih v hv=>by obtain ⟨k,e,r⟩:=hv.inv; obtain ⟨as,h2,h3,h4⟩:=ih r; exact ⟨_,.tuple e rfl rfl h2,h3,Nat.succ_le_succ h4⟩)
  (fun U ih v hv=>by obtain ⟨k,e,r⟩:=hv.inv; obtain ⟨as,h2,h3,h4⟩:=ih r; exact ⟨_,.list e rfl rfl h2,h3,Nat.succ_le_succ h4⟩)
  (fun hx U ih v hv=>by obtain ⟨_,rfl⟩:=hv.inv; obtain ⟨e,q⟩:=r.rep hx; obtain ⟨as,h2,h3,h4⟩:=ih q; exact ⟨_,.list e rfl rfl h2,h3,Nat.succ_le_succ h4⟩)
  (fun hv=>by have e:=hv.inv; subst e; exact ⟨_,.nil,rfl,Nat.zero_le _⟩)
  (fun U U ih1 ih2 v hv=>by obtain ⟨a,r⟩:=hv.inv; obtain ⟨as,k1,k2,k3⟩:=ih1 a; obtain ⟨bs,l1,l2,l3⟩:=ih2 r; exact ⟨_,.cons k1 l1,by simp [PyData.canLayAll0,k2,l2],Nat.max_le.mpr ⟨k3,l3⟩⟩) e
inductive ParI {T:Type} (cv:T->Tok->Value) (ys:List T):List Value->Prop
 | mk (l:List (T×Tok)) (e:l.map (·.1)=ys):ParI cv ys (l.map fun p=>cv p.1 p.2)
theorem par_of {T:Type} {mk:T->AV} {cv:T->Tok->Value} (k:∀ y c,VRep g s.heap (mk y) c->∃ t,c=cv y t):∀ {ys:List T} {vs:List Value},VReps g s.heap (ys.map mk) vs->ParI cv ys vs
 | [],_,r=>by rw [show _=[] from r.inv]; exact ⟨[],rfl⟩
 | y::ys,_,r=>by
  obtain ⟨a,r2⟩:=r.inv
  obtain ⟨t,rfl⟩:=k _ _ a
  obtain ⟨l,rfl⟩:=par_of k r2
  exact ⟨(y,t)::l,rfl⟩
theorem par_str {ys:List Str} {vs:List Value} (r:VReps g s.heap (ys.map .str) vs):ParI .str ys vs:=par_of (mk:=.str) (cv:=.str) (fun U U r=>r.inv) r
theorem par_int {ys:List Int} {vs:List Value} (r:VReps g s.heap (ys.map .int) vs):ParI .int ys vs:=par_of (mk:=.int) (cv:=.int) (fun U U r=>r.inv) r
inductive EqsI (A:Around) (s:Shared) (vs:List Value) (cx:Value) (b:Bool):Prop
 | mk (f:Value->Bool) (k:∀ y,y∈vs->SeqAt.EqAt A.in1 s y cx (f y)) (e:vs.any f=b)
theorem eqs_str {x:Str} {ys:List Str} {vs:List Value} {c:Value} (hx:VRep g s.heap (.str x) c) (r:VReps g s.heap (ys.map .str) vs):EqsI A s vs c (ys.any (·==x)):=by
 obtain ⟨t,rfl⟩:=hx.inv
 obtain ⟨l,rfl⟩:=par_str r
 refine ⟨fun v=>v.isStr x,fun y hy=>?_,by rw [List.any_map,List.any_map]; rfl⟩
 obtain ⟨p,_,rfl⟩:=List.mem_map.mp hy
 exact SeqAt.EqAt.str_str _ _ _ _
theorem eqs_int {x:Int} {ys:List Int} {vs:List Value} {c:Value} (hx:VRep g s.heap (.int x) c) (r:VReps g s.heap (ys.map .int) vs):EqsI A s vs c (ys.any (·==x)):=by
 obtain ⟨t,rfl⟩:=hx.inv
 obtain ⟨l,rfl⟩:=par_int r
 refine ⟨fun v=>Value.isInt x v,fun y hy=>?_,by rw [List.any_map,List.any_map]; rfl⟩
 obtain ⟨p,_,rfl⟩:=List.mem_map.mp hy
 exact SeqAt.EqAt.int_int _ _ _ _
structure KindOf {T:Type} [DecidableEq T] (w:World) (knd:KeyKind prg w T) (mk:T->AV):Prop where
 is:∀ a b:T,keyIs (mk a) (mk b)=decide (a=b)
 inj:∀ {a b:T},mk a=mk b->a=b
 part:∀ {k:T} {v:Value},knd.is k v=true->(keyPart v).isSome=true
 vrep:∀ {k:T} {g:Gh} {h:Heap} {v:Value},VRep g h (mk k) v->knd.is k v=true
theorem kind_str (w:World):KindOf w (strKind prg w) AV.str where
 is:=fun a b=>by show (a==b)=_; rw [Bool.eq_iff_iff,beq_iff_eq,decide_eq_true_iff]
 inj:=fun h=>by injection h
 part:=fun h=>by obtain ⟨t,rfl⟩:=Value.isStrOf_shape h; rfl
 vrep:=fun h=>by obtain ⟨t,rfl⟩:=h.inv; exact strKind_is prg w _ _
theorem kind_int (w:World):KindOf w (intKind prg w) AV.int where
 is:=fun a b=>by show (a==b)=_; rw [Bool.eq_iff_iff,beq_iff_eq,decide_eq_true_iff]
 inj:=fun h=>by injection h
 part:=fun h=>by obtain ⟨t,rfl⟩:=Value.isInt_shape h; rfl
 vrep:=fun h=>by obtain ⟨t,rfl⟩:=h.inv; simp [intKind,Value.isInt]
inductive OptV (g:Gh) (h:Heap):Option AV->Option Value->Prop
 | no:OptV g h none none
 | so {a:AV} {cv:Value} (r:VRep g h a cv):OptV g h (some a) (some cv)
theorem OptV.inv {h:Heap} {v:AV} {o:Option Value} (r:OptV g h (some v) o):∃ c,o=some c∧VRep g h v c:=by cases r; exact ⟨_,rfl,by assumption⟩
theorem OptV.isSome {h:Heap} {v:Option AV} {o:Option Value} (r:OptV g h v o):o.isSome=v.isSome:=by induction r using OptV.casesOn <;> rfl
section
variable {T:Type} [DecidableEq T] {knd:KeyKind prg w T} {mk:T->AV} {h:Heap}
set_option tactic.hygienic true in
theorem LRep.value (M:KindOf w knd mk) (k:T) {kvs:List (AV×AV)} {l:List (T×Value)} (r:LRep mk g h kvs l):OptV g h ((kvs.find? fun e=>keyIs (mk k) e.1).map (·.2)) (valueAt l k):=by
 induction r with
 | nil=>exact .no
 | cons v r ih=>
  rename_i k' _ _ _ _
  unfold valueAt at ih ⊢
  rw [List.find?_cons,List.find?_cons,M.is]
  by_cases hk:k=k'
  ·subst hk; rw [decide_eq_true (rfl:k=k)]; exact .so v
  ·rw [decide_eq_false hk,decide_eq_false (fun z=>hk z.symm)]; exact ih
inductive KDict (knd:KeyKind prg w T) (mk:T->AV) (g:Gh) (h:Heap) (a:Addr) (kvs:List (AV×AV)):Prop
 | mk (l:List (T×Value)) (d:h.DictOf knd a l) (r:LRep mk g h kvs l)
theorem KDict.nodup {a:Addr} {l:List (T×Value)} (d:h.DictOf knd a l):(l.map (·.1)).Nodup:=by obtain ⟨_,_,_,_,_,_,_,_,n⟩:=d; exact n
end
theorem getD_all {kvs:List (AV×AV)} {k:AV} {r:Option AV} (e:getD kvs k=some r):kvs.all (fun e=>keyOk k e.1)=true∧r=(kvs.find? fun e=>keyIs k e.1).map (·.2):=by
 unfold getD at e
 induction h:kvs.all (fun e=>keyOk k e.1) using Bool.casesOn <;> rw [h] at e <;> (first | (injection e; done) | (injection e with e1; subst e1))
 exact ⟨rfl,rfl⟩
theorem dict_nil {T T':Type} [DecidableEq T] [DecidableEq T'] {knd:KeyKind prg w T} {knd':KeyKind prg w T'} {o:Obj} (d:o.IsDictOf knd []):o.IsDictOf knd' []:=by
 obtain ⟨es,ep,h1,h2,h3,h4,h5⟩:=d
 have e:es.toList=[]:=by
  generalize es.toList=l at h4
  cases h4; rfl
 exact ⟨es,ep,h1,h2,(fun x hx=>by rw [← Array.mem_toList_iff,e] at hx; cases hx),(by rw [e]; exact .nil),.nil⟩
theorem kdict_s {h:Heap} {a:Addr} {kvs:List (AV×AV)} {x:Str} (d:DictO w g h a kvs) (ha:kvs.all (fun e=>keyOk (.str x) e.1)=true):KDict (strKind prg w) AV.str g h a kvs:=by
 induction d using DictO.casesOn with
 | s e d r=>exact ⟨_,Heap.dictOf_iff.mpr ⟨_,e,d⟩,r⟩
 | i e d r=>
  induction r using LRep.casesOn with
  | nil=>exact ⟨[],Heap.dictOf_iff.mpr ⟨_,e,dict_nil d⟩,.nil⟩
  | cons=>injection ha
theorem kdict_i {h:Heap} {a:Addr} {kvs:List (AV×AV)} {x:Int} (d:DictO w g h a kvs) (ha:kvs.all (fun e=>keyOk (.int x) e.1)=true):KDict (intKind prg w) AV.int g h a kvs:=by
 induction d using DictO.casesOn with
 | i e d r=>exact ⟨_,Heap.dictOf_iff.mpr ⟨_,e,d⟩,r⟩
 | s e d r=>
  induction r using LRep.casesOn with
  | nil=>exact ⟨[],Heap.dictOf_iff.mpr ⟨_,e,dict_nil d⟩,.nil⟩
  | cons=>injection ha
theorem DictO.of_s {h:Heap} {a:Addr} {kvs:List (AV×AV)} {l:List (Str×Value)} (d:h.DictOf (strKind prg w) a l) (r:LRep AV.str g h kvs l):DictO w g h a kvs:=by obtain ⟨o,e,d⟩:=Heap.dictOf_iff.mp d; exact .s e d r
theorem DictO.of_i {h:Heap} {a:Addr} {kvs:List (AV×AV)} {l:List (Int×Value)} (d:h.DictOf (intKind prg w) a l) (r:LRep AV.int g h kvs l):DictO w g h a kvs:=by obtain ⟨o,e,d⟩:=Heap.dictOf_iff.mp d; exact .i e d r
theorem eq_w {a b:AV} {ca cb:Value} {b':Bool} (hu:A.units+20<cLine) (r:Rel w g σ s) (ha:VRep g s.heap a ca) (hb:VRep g s.heap b cb) (e:EqR σ a b b') (ne:Bool) {Q:Value->Shared->Prop} {E:Value->Shared->Prop} (h:Q (.bool (if ne then !b' else b')) s) :
  wpAny (model prg w) A (compareOp (if ne then .NotEq else .Eq) ca cb) Q E s:=by
 induction e using EqR.casesOn with
 | s=>
  obtain ⟨_,rfl⟩:=ha.inv; obtain ⟨_,rfl⟩:=hb.inv
  induction ne using Bool.casesOn
  ·refine eq_str ?_; simpa [Str.beq_eq_lists] using h
  ·refine ne_str ?_; simpa [Str.beq_eq_lists,bne] using h
 | i=>
  obtain ⟨_,rfl⟩:=ha.inv; obtain ⟨_,rfl⟩:=hb.inv
  induction ne using Bool.casesOn
  ·exact PyProof.Rows.eq_int h
  ·exact PyProof.Rows.ne_int h
 | d da db=>
  obtain ⟨as,h1,h2,h3⟩:=dat_reads r da ha
  obtain ⟨bs,h4,h5,h6⟩:=dat_reads r db hb
  have hm:=fun n=>Nat.lt_of_le_of_lt (Nat.add_le_add_left (Nat.le_trans (Nat.min_le_left _ n) (Nat.le_trans h3 (by decide:6<=20))) A.units) hu
  induction ne using Bool.casesOn
  ·exact SeqAt.compareEq_reads h1 h4 h2 h5 (hm _) h
  ·exact SeqAt.compareNe_reads h1 h4 h2 h5 (hm _) h
 | e hi hj=>
  obtain ⟨_,rfl⟩:=ha.inv; obtain ⟨_,rfl⟩:=hb.inv
  obtain ⟨l1,d1,r1⟩:=kdict_s (x:=(⟨#[]⟩:Str)) (r.rep hi) rfl
  obtain ⟨l2,d2,r2⟩:=kdict_s (x:=(⟨#[]⟩:Str)) (r.rep hj) rfl
  cases r1; cases r2
  have z:A.units+1<cLine:=Nat.lt_of_le_of_lt (Nat.add_le_add_left (by decide) _) hu
  induction ne using Bool.casesOn
  ·exact keq_eq (r.notSys hi rfl) (r.notSys hj rfl) d1 d2 (by lia) (fun U=>.nil) h
  ·exact keq_ne (r.notSys hi rfl) (r.notSys hj rfl) d1 d2 (by lia) (fun U=>.nil) h
theorem in_w {a b:AV} {ca cb:Value} {b':Bool} (r:Rel w g σ s) (ha:VRep g s.heap a ca) (hb:VRep g s.heap b cb) (e:InR σ a b b') (ne:Bool) {Q:Value->Shared->Prop} {E:Value->Shared->Prop} (h:∀ k,Q (.bool (if ne then !b' else b')) {s with toks:=k}) :
  wpAny (model prg w) A (compareOp (if ne then .NotIn else .In) ca cb) Q E s:=by
 have h0:Q (.bool (if ne then !b' else b')) s:=h s.toks
 have lst:∀ {xs:List AV},SeqO "list" g s.heap xs cb->(∀ {vs:List Value},VReps g s.heap xs vs->EqsI A s vs ca b')->wpAny (model prg w) A (compareOp (if ne then .NotIn else .In) ca cb) Q E s:=fun ⟨k,e,r⟩ z=>by
  obtain ⟨f,h1,h2⟩:=z r
  induction ne using Bool.casesOn
  ·exact SeqAt.in_listAt f ⟨_,e,rfl,_,rfl⟩ (fun y hy=>h1 y (Array.mem_toList_iff.mpr hy)) (by rw [← Array.any_toList,h2]; exact h0)
  ·exact SeqAt.notIn_listAt f ⟨_,e,rfl,_,rfl⟩ (fun y hy=>h1 y (Array.mem_toList_iff.mpr hy)) (by rw [← Array.any_toList,h2]; exact h0)
 induction e using InR.casesOn with
 | s=>
  obtain ⟨_,rfl⟩:=ha.inv; obtain ⟨_,rfl⟩:=hb.inv
  induction ne using Bool.casesOn
  ·exact in_str h0
  ·exact notIn_str h0
 | lt=>exact lst hb.inv (eqs_str ha)
 | li=>exact lst hb.inv (eqs_int ha)
 | tt=>
  obtain ⟨k,e,r⟩:=hb.inv
  obtain ⟨f,h1,h2⟩:=eqs_str (A:=A) ha r
  induction ne using Bool.casesOn
  ·exact SeqAt.in_tupleAt f ⟨_,e,rfl,_,rfl⟩ (fun y hy=>h1 y (Array.mem_toList_iff.mpr hy)) (by rw [← Array.any_toList,h2]; exact h0)
  ·exact SeqAt.notIn_tupleAt f ⟨_,e,rfl,_,rfl⟩ (fun y hy=>h1 y (Array.mem_toList_iff.mpr hy)) (by rw [← Array.any_toList,h2]; exact h0)
 | d hi e=>
  obtain ⟨_,rfl⟩:=ha.inv; obtain ⟨_,rfl⟩:=hb.inv
  obtain ⟨hall,rfl⟩:=getD_all e
  obtain ⟨l,d,lr⟩:=kdict_s (r.rep hi) hall
  have e2:=fun k=>(lr.value (kind_str w) k).isSome
  induction ne using Bool.casesOn
  ·exact wpAny_in_of (strKind_is prg w _ _) (r.notSys hi rfl) d.mapOf (by rw [e2]; exact h _)
  ·exact wpAny_notIn_of (strKind_is prg w _ _) (r.notSys hi rfl) d.mapOf (by rw [e2]; exact h _)
theorem isN_rep {h:Heap} {a:AV} {c:Value} (r:VRep g h a c):(c==Value.none)=isN a:=by induction r using VRep.casesOn <;> rfl
theorem cmp_w {op:CmpOp} {a b:AV} {ca cb:Value} {Q:Bool->AHeap->Prop} (hu:A.units+20<cLine) (r:Rel w g σ s) (ha:VRep g s.heap a ca) (hb:VRep g s.heap b cb) (q:CmpP op a b σ Q):WE w A g s (compareOp op ca cb) VRep (fun v σ=>∃ r,v=.bool r∧Q r σ) E:=by
 obtain ⟨h,q⟩:=q
 have fin:∀ {r':Bool},Q r' σ->OkE w g s VRep (fun v σ=>∃ r,v=.bool r∧Q r σ) (.bool r') s:=fun q=>okS r (.bool _) ⟨_,rfl,q⟩
 induction h using CmpR.casesOn with
 | eq h=>exact eq_w hu r ha hb h false (fin q)
 | ne h=>exact eq_w hu r ha hb h true (fin q)
 | inn h=>exact in_w r ha hb h false fun U=>okTP r (.bool _) ⟨_,rfl,q⟩
 | nin h=>exact in_w r ha hb h true fun U=>okTP r (.bool _) ⟨_,rfl,q⟩
 | lt=>obtain ⟨_,rfl⟩:=ha.inv; obtain ⟨_,rfl⟩:=hb.inv; exact PyProof.Rows.lt_int (fin q)
 | le=>obtain ⟨_,rfl⟩:=ha.inv; obtain ⟨_,rfl⟩:=hb.inv; exact PyProof.Rows.le_int (fin q)
 | gt=>obtain ⟨_,rfl⟩:=ha.inv; obtain ⟨_,rfl⟩:=hb.inv; exact PyProof.Rows.gt_int (fin q)
 | ge=>obtain ⟨_,rfl⟩:=ha.inv; obtain ⟨_,rfl⟩:=hb.inv; exact PyProof.Rows.ge_int (fin q)
 | is=>rw [show cb=.none from hb.inv]; exact is_none_gen (fin (by rw [isN_rep ha]; exact q))
 | nis=>rw [show cb=.none from hb.inv]; exact isnot_none_gen (fin (by rw [isN_rep ha]; exact q))
end
end Mine
namespace Mine
set_option linter.unusedSimpArgs false
open PySem PySem.W PyProof.Rows PySem.Calls Builtin Builtin.ObjectAttr
section
variable {w:World} {A:Around} {g g':Gh} {σ σ':AHeap} {s s':Shared} {Q:EQ} {E:EX} {K:Frag} {h:Heap} {P:Params}
theorem FsRep.len {fs:List (Str×AV)} {es:List DictEntry} (r:FsRep P g h fs es):es.length=fs.length:=by
 induction r with
 | nil=>rfl
 | cons _ _ ih=>exact congrArg Nat.succ ih
theorem FsRep.keys {fs:List (Str×AV)} {es:List DictEntry} (r:FsRep P g h fs es):es.any (·.refKey)=false:=by
 induction r with
 | nil=>rfl
 | cons _ _ ih=>exact ih
theorem beq_sym {x y:Str}:(x==y)=(y==x):=Bool.beq_comm
set_option tactic.hygienic true in
theorem FsRep.look (x:Str) {fs:List (Str×AV)} {es:List DictEntry} (r:FsRep P g h fs es):∃ o,getL x es=some o∧OptV g h (fs.lookup x) o:=by
 induction r with
 | nil=>exact ⟨none,rfl,.no⟩
 | cons v r ih=>
  rename_i y t _ cv _ es
  have e2:getL x (⟨PyData.keyHash P y,.str y t,cv⟩::es)=if y==x then some (some cv) else getL x es:=by
   have e1:Value.isStr (.str y t) x=(y==x):=rfl
   unfold getL
   simp only [List.find?_cons,e1,List.any_cons]
   induction y==x using Bool.casesOn
   ·simp [DictEntry.refKey]
   ·rfl
  rw [e2,List.lookup_cons,beq_sym (x:=x) (y:=y)]
  induction y==x using Bool.casesOn
  ·exact ih
  ·exact ⟨_,rfl,.so v⟩
set_option tactic.hygienic true in
theorem FsRep.put (x:Str) (t:Tok) {v:AV} {cv:Value} (hv:VRep g h v cv) {fs:List (Str×AV)} {es:List DictEntry} (r:FsRep P g h fs es):FsRep P g h (putF fs x v) (putL x (PyData.keyHash P x) (.str x t) cv es):=by
 induction r with
 | nil=>exact .cons hv .nil
 | cons v r ih=>
  rename_i y u _ cw _ es
  have e1:Value.isStr (.str y u) x=(y==x):=rfl
  unfold putF putL
  rw [e1]
  dsimp only
  induction y==x using Bool.casesOn
  ·exact .cons v ih
  ·exact .cons hv r
theorem putF_mem {fs:List (Str×AV)} {x:Str} {v:AV} {p:Str->Prop} (h1:p x) (h2:∀ e∈fs,p e.1):∀ e∈putF fs x v,p e.1:=by
 induction fs with
 | nil=>intro e he; rw [putF,List.mem_singleton] at he; rw [he]; exact h1
 | cons a r ih=>
  intro e he
  rw [putF] at he
  induction hq:a.1==x using Bool.casesOn <;> rw [hq] at he
  ·rcases List.mem_cons.mp he with rfl | he
   ·exact h2 _ (.head _)
   ·exact ih (fun e he=>h2 e (.tail _ he)) e he
  ·rcases List.mem_cons.mp he with rfl | he
   ·exact h2 a (.head _)
   ·exact h2 e (.tail _ he)
theorem lookup_mem {α:Type} {fs:List (Str×α)} {x:Str} {v:α} (h:fs.lookup x=some v):∃ e∈fs,e.1=x:=by
 induction fs with
 | nil=>injection h
 | cons a r ih=>
  rw [List.lookup_cons] at h
  induction hz:x==a.1 using Bool.casesOn <;> rw [hz] at h
  ·obtain ⟨e,h1,h2⟩:=ih h; exact ⟨e,.tail _ h1,h2⟩
  ·exact ⟨a,.head _,(beq_iff_eq.mp hz).symm⟩
theorem handed_of {v:AV} {cv:Value} (r:VRep g h v cv) (hb:notBi v=true):handedIn cv=true:=by induction r using VRep.casesOn <;> first | rfl | injection hb
theorem get_value_exc {C x:Addr} {ox:Obj} {od:Option Obj} {name:Str} {expr:Bool} {v:Value} {Q:Value->Shared->Prop} {E:Value->Shared->Prop} (X:K.In s.heap) (I:InstAt s.heap x ox C od)
  (hga:findIn K (.ref C) "__getattribute__"=some (some (.builtin "BaseException.__getattribute__"))) (hgt:findIn K (.ref C) "__getattr__"=some none)
  (hb:((clsIn K C).any fun cd=>cd.mro.contains (.type "BaseException"))=true) (hf:findObj K C od name=some (.value v)) (hh:handedIn v=true) (h:Q v {s with toks:=s.toks+1}) :
  wpAny (model prg w) A (getAttr (.ref x) name expr) Q E s:=by
 obtain ⟨hh',g,d,t,os⟩:=s
 have L0:=I.type (M:=model prg w)
 have L1:=looks_findIn (M:=model prg w) X hga
 have L2:=looks_findIn (M:=model prg w) X hgt
 have L3:=looks_find (M:=model prg w) X I hf
 have SF:=(PySem.F.attr_ValueError).ga
 obtain ⟨cd,hc,hcB⟩:=any_some hb
 have ne:cd.mro.isEmpty=false:=by induction q:cd.mro using List.casesOn with | nil=>rw [q] at hcB; injection hcB | cons _ _=>rfl
 have sub:Looks (model prg w) hh' (isInstance (.ref x) (.type "BaseException")) true:=L0.andThen (looks_mroIn X (by unfold mroIn; rw [hc,Option.bind_some,if_neg (by rw [ne]; decide),hcB]))
 unfold getAttr getAttrBy
 refine wpAny_bind (wpAny_mkText (wpAny_holding (wpAny_bind (L0.at (wpAny_bind (L1.at ?_))))))
 show wpAny _ _ (if _ then _ else getAttrByItsOwn _ _ _ _ _ _) _ _ _
 have hx2:(Value.builtin "BaseException.__getattribute__"==Value.builtin "object.__getattribute__")=false:=by decide +kernel
 rw [hx2,Bool.and_false,if_neg (by decide)]
 unfold getAttrByItsOwn hookBefore
 refine wpAny_bind (L2.at (wpAny_bind (wpAny_attempt (wpAny_holding ?_))))
 have hx0:(expr&&onTheHeap (Value.builtin "BaseException.__getattribute__"))=false:=by induction expr using Bool.casesOn <;> rfl
 unfold callGetattribute
 rw [hx0]
 show wpAny _ _ (boundAndCalled _ _ _) _ _ _
 unfold boundAndCalled
 rw [SF.bind]
 have hk:builtinKind "BaseException.__getattribute__"=some .slot:=by decide +kernel
 have hsplit:splitId "BaseException.__getattribute__"=some ("BaseException","__getattribute__"):=by decide +kernel
 refine wpAny_bind (wpAny_pure (wpAny_call ?_))
 refine codeAny_call_builtin SF.plain PySem.F.entry_bexc_ga (@check_slot (model prg w) _ _ _ "BaseException.__getattribute__" "BaseException" "__getattribute__" (.ref x) [.str name t] [] _ hk hsplit sub (PySem.F.args_bexc_ga _ _) ?_)
 unfold Builtin.«object.__getattribute__»
 have hv:(handedOut v:Sem Value)=pure v:=handedOut_of hh
 repeat lk
 show wpAny _ _ (handedOut v) _ _ _
 rw [hv]
 exact wpAny_pure h
theorem getL_eq (x:Str) (es:Array DictEntry) (n:Nat) (sl:Array (Option Value)) (d:Option Addr):lookIn x ⟨.type "dict",d,.dict es n,sl⟩=getL x es.toList:=rfl
structure BaseI (K:Frag) (c:Addr):Prop where
 d:hasDictIn K c=true
 m:((clsIn K c).any fun cd=>okMro cd.mro)=true
 s:findIn K (.ref c) "__setattr__"=some (some (.builtin "object.__setattr__"))
 g:findIn K (.ref c) "__getattr__"=some none
theorem clsBase_of {c:Addr} (h:clsBase K c=true):BaseI K c:=by
 unfold clsBase at h
 simp only [Bool.and_eq_true,beq_iff_eq] at h
 exact ⟨h.1.1.1,h.1.1.2,h.1.2,h.2⟩
structure InstI (K:Frag) (c:Addr):Prop where
 b:BaseI K c
 ga:findIn K (.ref c) "__getattribute__"=some (some (.builtin "object.__getattribute__"))
 mks:makesIn K c=true
theorem clsInst_of {c:Addr} (h:clsInst K c=true):InstI K c:=by
 unfold clsInst at h
 simp only [Bool.and_eq_true,beq_iff_eq] at h
 exact ⟨clsBase_of h.1.1,h.1.2,h.2⟩
structure ExcI (K:Frag) (c:Addr):Prop where
 b:BaseI K c
 ga:findIn K (.ref c) "__getattribute__"=some (some (.builtin "BaseException.__getattribute__"))
 e:((clsIn K c).any fun cd=>cd.mro.contains (.type "BaseException"))=true
theorem clsExc_of {c:Addr} (h:clsExc K c=true):ExcI K c:=by
 unfold clsExc at h
 simp only [Bool.and_eq_true,beq_iff_eq] at h
 exact ⟨clsBase_of h.1.1,h.1.2,h.2⟩
theorem fldOk_of {c:Addr} {x:Str} (h:fldOk K c x=true):findIn K (.ref c) x=some none:=beq_iff_eq.mp h
theorem FldsO.get {i:Nat} {d:Addr} {fs:List (Str×AV)} {x:Str} {v:AV} {od:Obj} (f:FldsO P g h i d fs) (hx:fs.lookup x=some v) (e:h.get? d=some od):∃ cv,lookIn x od=some (some cv)∧VRep g h v cv:=by
 obtain ⟨_,e',r⟩:=f
 rw [e'] at e; (injection e with e1; subst e1)
 obtain ⟨o,h1,h2⟩:=r.look x
 rw [hx] at h2
 obtain ⟨cv,rfl,hv⟩:=h2.inv
 exact ⟨cv,(getL_eq _ _ _ _ _).trans h1,hv⟩
theorem attr_w {v:AV} {cv:Value} {x:Str} {expr:Bool} (r:Rel w g σ s) (hv:VRep g s.heap v cv) (q:AttrP x σ Q v):WE w A g s (getAttr cv x expr) VRep Q E:=by
 obtain ⟨h,e,b,q⟩:=q
 obtain ⟨_,rfl⟩:=hv.inv
 obtain ⟨z,hz,rfl⟩:=lookup_mem e
 induction h using FldsP.casesOn with
 | inst hi=>
  obtain ⟨h1,f,c1,c2⟩:=r.rep hi
  obtain ⟨k,h3,fr⟩:=id f
  obtain ⟨cv,hl,hv⟩:=f.get e h3
  have I:=clsInst_of c1
  exact get_value r.sta.inK (od:=some _) ⟨h1,rfl,rfl,h3⟩ I.ga (findObj_own I.b.d (fldOk_of (c2 z hz)) rfl hl) (handed_of hv b) (okTP r hv q)
 | exc hi=>
  obtain ⟨h1,l,e2,t,f,c1,c2⟩:=r.rep hi
  induction f using ExcD.casesOn with
  | none e0=>rw [e0] at hz; cases hz
  | some f=>
   obtain ⟨k,h3,fr⟩:=id f
   obtain ⟨cv,hl,hv⟩:=f.get e h3
   have I:=clsExc_of c1
   exact get_value_exc r.sta.inK (od:=some _) ⟨h1,rfl,rfl,h3⟩ I.ga I.b.g I.e (findObj_own I.b.d (fldOk_of (c2 z hz)) rfl hl) (handed_of hv b) (okTP r hv q)
theorem okMro_inv {v:Value} {r:List Value} (h:okMro (v::r)=true):v::r=[.type "object"]∨v::r=[.type "Exception",.type "BaseException",.type "object"]∨(∃ a,v=.ref a)∧okMro r=true:=by
 rw [okMro,Bool.or_eq_true,Bool.or_eq_true,Bool.and_eq_true] at h
 rcases h with (h | h) | ⟨h,h2⟩
 ·exact .inl (beq_iff_eq.mp h)
 ·exact .inr (.inl (beq_iff_eq.mp h))
 ·exact .inr (.inr ⟨(by induction v using Value.casesOn <;> first | exact ⟨_,rfl⟩ | injection h),h2⟩)
theorem okMro_pass (self:Value):∀ {l:List Value},okMro l=true->refuseLoop self "__setattr__" l=pure ()
 | v::r,e=>by
  rcases okMro_inv e with h | h | ⟨⟨a,rfl⟩,h⟩
  ·rw [h]; exact PySem.F.store_object.passes self
  ·rw [h]; exact PySem.F.store_Exception.passes self
  ·rw [refuseLoop_ref]; exact okMro_pass self h
theorem okMro_has:∀ {l:List Value},okMro l=true->l.contains (.type "object")=true
 | v::r,e=>by
  rcases okMro_inv e with h | h | ⟨_,h⟩
  ·rw [h]; rfl
  ·rw [h]; rfl
  ·rw [List.contains_cons,okMro_has h,Bool.or_true]
theorem set_open {C x:Addr} {ox:Obj} {od:Option Obj} {name:Str} {v:Value} {Q:Unit->Shared->Prop} {E:Value->Shared->Prop} (X:K.In s.heap) (I:InstAt s.heap x ox C od) (hc:BaseI K C) (hf:findIn K (.ref C) name=some none)
  (h:wpAny (model prg w) A.in1 (storeInOwnDict (.ref x) (.ref C) (.str name s.toks) name v false) (fun fin s'=>match fin with | .done (.ret _)=>Q () s' | _=>False) (fun e s'=>E e s') {s with toks:=s.toks+1}) :
  wpAny (model prg w) A (setAttr (.ref x) name v) Q E s:=by
 obtain ⟨hd,hm,hs,_⟩:=hc
 obtain ⟨cd,hcd,ho⟩:=any_some hm
 have SF:=PySem.F.store_object
 have ne:cd.mro.isEmpty=false:=by induction q:cd.mro using List.casesOn with | nil=>rw [q] at ho; injection ho | cons _ _=>rfl
 refine set_plain X I hs ?_
 have X':K.In ({s with toks:=s.toks+1}:Shared).heap:=X
 have L0:Looks (model prg w) ({s with toks:=s.toks+1}:Shared).heap (typeOf (.ref x)) (.ref C):=I.type
 have sub:Looks (model prg w) ({s with toks:=s.toks+1}:Shared).heap (isInstance (.ref x) (.type "object")) true:=L0.andThen (looks_mroIn X (by unfold mroIn; rw [hcd,Option.bind_some,if_neg (by rw [ne]; decide),okMro_has ho]))
 refine codeAny_call_builtin SF.slot.plain SF.entry (@check_slot (model prg w) _ _ _ "object.__setattr__" "object" "__setattr__" (.ref x) [.str name s.toks,v] [] _ SF.kind SF.split sub (SF.args (.ref x) (.str name s.toks) v) ?_)
 have L1:Looks (model prg w) ({s with toks:=s.toks+1}:Shared).heap (mroOf (.ref C)) cd.mro:=(looks_clsIn X hcd).andThen .now
 have L2:Looks (model prg w) ({s with toks:=s.toks+1}:Shared).heap (typeLookup (.ref C) name) none:=looks_findIn X hf
 rw [osa_eq,refuse_eq]
 refine wpAny_bind (wpAny_bind (L0.here (wpAny_bind (L1.here ?_))))
 rw [okMro_pass _ ho]
 refine wpAny_pure (wpAny_bind (L0.here (wpAny_bind (L2.here (wpAny_bind (wpAny_pure ?_))))))
 refine wpAny_mono h (fun fin s' z=>?_) fun U U z=>z
 rcases fin with (_ | _ | _ | _) | _ <;> first | exact z | exact False.elim z
theorem putL_len (name:Str) (hs:Int) (k v:Value):∀ es:List DictEntry,(putL name hs k v es).length<=es.length+1
 | []=>by simp [putL]
 | e::r=>by
  simp only [putL]
  split
  ·simp
  ·have:=putL_len name hs k v r
   simp only [List.length_cons]; lia
theorem store_fs {dx:Addr} {fs:List (Str×AV)} {es:Array DictEntry} {n:Nat} {name:Str} {tk:Tok} {v:Value} {Q:Fin->Shared->Prop} {E:Value->Shared->Prop}
  (hd:s.heap.get? dx=some ⟨.type "dict",none,.dict es n,#[]⟩) (hk:FsRep w.params g s.heap fs es.toList) (hl:fs.length<=900)
  (h:∀ h' n',h'.get? dx=some ⟨.type "dict",none,.dict (putL name (PyData.keyHash w.params name) (.str name s.toks) v es.toList).toArray n',#[]⟩->(∀ b,b≠dx->h'.get? b=s.heap.get? b)->h'.objs.size=s.heap.objs.size->
   Q (.done (.ret .none)) {s with heap:=h',toks:=s.toks+1}):wpAny (model prg w) A (storeInDict dx (.str name tk) name v) Q E s:=by
 have k1:=hk.keys
 have k2:=hk.len
 have e1:Obj.putName name (PyData.keyHash w.params name) (.str name s.toks) v ⟨.type "dict",none,.dict es n,#[]⟩=dictOf (putL name (PyData.keyHash w.params name) (.str name s.toks) v es.toList) (putN name es.toList n):=putName_dict name _ _ _ es.toList n
 have D:(s.heap.update dx (Obj.putName name (PyData.keyHash w.params name) (.str name s.toks) v)).get? dx=some (dictOf (putL name (PyData.keyHash w.params name) (.str name s.toks) v es.toList) (putN name es.toList n)):=by
  rw [← e1]; exact Heap.get?_update_self _ hd (by rw [e1]; rfl)
 refine wpAny_bind (wpAny_pure (wpAny_bind ?_))
 unfold nsSet
 refine wpAny_bind (wpAny_bind (wpAny_askSetting (wpAny_pure (wpAny_bind (wpAny_mkText (wpAny_bind (wpAny_loadPart hd ?_)))))))
 dsimp only
 have c:(!es.any (·.key.isStr name)&&es.any (·.refKey))=false:=by
  rw [← Array.any_toList (p:=fun x:DictEntry=>x.refKey),k1,Bool.and_false]
 rw [aRefKeyMayBeTheName_at,c]
 refine wpAny_updatePart hd ?_
 refine wpAny_bind (wpAny_lookBehind D (pastItsLine_dict (by
  have:=putL_len name (PyData.keyHash w.params name) (.str name s.toks) v es.toList
  rw [List.size_toArray,sizeLine_eq]; lia)) ?_)
 exact wpAny_pure (h _ _ D (fun b hb=>Heap.get?_update_other _ _ (Ne.symm hb)) (by simp [Heap.update]))
theorem own_some {C x dx:Addr} {ox:Obj} {nameV v:Value} {name:Str} {Q:Fin->Shared->Prop} {E:Value->Shared->Prop} (X:K.In s.heap) (hx:s.heap.get? x=some ox) (hcl:ox.cls=.ref C) (hdx:ox.dict=some dx) (hd:hasDictIn K C=true)
  (h:wpAny (model prg w) A (storeInDict dx nameV name v) Q E s):wpAny (model prg w) A (storeInOwnDict (.ref x) (.ref C) nameV name v false) Q E s:=by
 obtain ⟨cd,hc,hd'⟩:=any_some hd
 obtain ⟨oc,odi,oda,osl⟩:=ox
 dsimp only at hcl hdx
 subst hcl hdx
 refine wpAny_bind (wpAny_pure (wpAny_bind (wpAny_bind (wpAny_loadPart hx (wpAny_bind ((looks_clsIn X hc).here ?_))))))
 rw [hd']
 exact wpAny_pure (a:=some dx) h
theorem own_none {C x:Addr} {vs:Array Value} {osl:Array (Option Value)} {nameV v:Value} {name:Str} {Q:Fin->Shared->Prop} {E:Value->Shared->Prop} (X:K.In s.heap) (hx:s.heap.get? x=some ⟨.ref C,none,.fields vs,osl⟩) (hd:hasDictIn K C=true)
  (h:∀ h',h'.get? s.heap.objs.size=some ⟨.type "dict",none,.dict #[] 0,#[]⟩->h'.get? x=some ⟨.ref C,some s.heap.objs.size,.fields vs,osl⟩->(∀ b o,b≠x->s.heap.get? b=some o->h'.get? b=some o)->h'.objs.size=s.heap.objs.size+1->
   wpAny (model prg w) A (storeInDict s.heap.objs.size nameV name v) Q E {s with heap:=h'}):wpAny (model prg w) A (storeInOwnDict (.ref x) (.ref C) nameV name v false) Q E s:=by
 obtain ⟨cd,hc,hd'⟩:=any_some hd
 have hxs:x≠s.heap.objs.size:=Nat.ne_of_lt (Heap.lt_size hx)
 refine wpAny_bind (wpAny_pure (wpAny_bind (wpAny_bind (wpAny_loadPart hx (wpAny_bind ((looks_clsIn X hc).here ?_))))))
 rw [hd']
 have hx₁:(s.heap.push {cls:=.type "dict",data:=.dict #[]}).get? x=some ⟨.ref C,none,.fields vs,osl⟩:=Heap.get?_push_of_some _ hx
 refine wpAny_bind (wpAny_alloc (wpAny_bind (wpAny_update hx₁ (wpAny_pure ?_))))
 refine h _ ?_ (Heap.get?_update_self _ hx₁ rfl) (fun b o hb e=>?_) (by simp [Heap.update,Heap.size_push])
 ·rw [Heap.get?_update_other _ _ hxs]; exact Heap.get?_push_size _ rfl
 ·rw [Heap.get?_update_other _ _ (Ne.symm hb)]; exact Heap.get?_push_of_some _ e
theorem Go.set {i:Nat} {o o':AObj} (r:Rel w g σ s) (hi:σ.get i=some o) (sz:∀ a b,s.heap.get? a=some b->∃ b',s'.heap.get? a=some b') (k:∀ a b,s.heap.get? a=some b->¬ (g.κ a).of i->s'.heap.get? a=some b) (hg:s'.gens=s.gens) (os:s'.os=s.os) (hk:kdOf i o'=kdOf i o) (ht:∀ c fs,o=.exc c fs->∃ c fs,o'=.exc c fs) (ho:ORep w g s'.heap i o'):Go w noX g s g (σ.set i o') s':=
 ⟨.refl g,r.set hi sz k hg hk ht ho,⟨fun a o e hv=>k a o e fun q=>q.noval hv,fun a o e hk U=>⟨o.slots,k a o e (by rintro (q | q) <;> rw [q] at hk <;> exact hk),fun U=>rfl⟩⟩,os⟩
inductive StoreI (w:World) (g:Gh) (s:Shared) (i:Nat) (d:Addr) (fs:List (Str×AV)) (h':Heap):Prop
 | mk (sz:∀ a b,s.heap.get? a=some b->∃ b',h'.get? a=some b') (k:∀ a b,s.heap.get? a=some b->a≠d->h'.get? a=some b) (st:Stays g s.heap h') (f:FldsO w.params g h' i d fs)
theorem store_w {i:Nat} {d x C:Addr} {dt:Data} {osl:Array (Option Value)} {fs:List (Str×AV)} {x':Str} {u:AV} {cu:Value} {Q:Unit->Shared->Prop} {E:Value->Shared->Prop} (r:Rel w g σ s) (hb:BaseI (KF w.params) C) (hf:fldOk (KF w.params) C x'=true) (f:FldsO w.params g s.heap i d fs) (hx:s.heap.get? x=some ⟨.ref C,some d,dt,osl⟩) (hn:notCls (⟨.ref C,some d,dt,osl⟩:Obj)=true) (hl:fs.length<=900) (hu:VRep g s.heap u cu)
  (h:∀ h' t,StoreI w g s i d (putF fs x' u) h'->Q () {s with heap:=h',toks:=t}):wpAny (model prg w) A (setAttr (.ref x) x' cu) Q E s:=by
 obtain ⟨kd,e,fr⟩:=f
 refine set_open r.sta.inK (od:=some _) ⟨hx,rfl,hn,e⟩ hb (fldOk_of hf) (own_some (s:={s with toks:=s.toks+1}) r.sta.inK hx rfl rfl hb.d (store_fs (s:={s with toks:=s.toks+1}) e fr hl fun h' n' e1 e2 e3=>?_))
 have st:Stays g s.heap h':=fun a b eb hk=>(e2 a fun q=>by rw [q,kd] at hk; exact hk).trans eb
 refine h h' _ ⟨fun a b eb=>?_,fun a b eb hn=>(e2 a hn).trans eb,st,kd,e1,?_⟩
 ·by_cases q:a=d
  ·exact ⟨_,q▸e1⟩
  ·exact ⟨b,(e2 a q).trans eb⟩
 ·simp only [List.toList_toArray]
  exact FsRep.put x' _ (hu.mono (.refl g) st) (fr.monoV .refl st)
theorem TraceO.keep {h h':Heap} {i:Nat} {d d':Option Addr} {vs:Array Value} (t:TraceO g h i d vs) (k:∀ T o,h.get? T=some o->g.κ T=.aux i->d≠some T->h'.get? T=some o∧d'≠some T):TraceO g h' i d' vs:=by
 induction t using TraceO.casesOn with
 | no t e=>exact .no t e
 | yes e kT ne eT dT l=>exact .yes e kT (k _ _ eT kT ne).2 (k _ _ eT kT ne).1 dT l
theorem setExc0_w {i:Nat} {c:Addr} {x:Str} {u:AV} {cu:Value} {P:AHeap->Prop} {vs:Array Value} {osl:Array (Option Value)} (r:Rel w g σ s) (hg:σ.get i=some (.exc c [])) (hu:VRep g s.heap u cu) (h1:s.heap.get? (g.ρ i)=some ⟨.ref c,none,.fields vs,osl⟩) (l:5<vs.size) (e2:vs[2]?=some .none) (t:TraceO g s.heap i none vs) (c1:clsExc (KF w.params) c=true) (hf:fldOk (KF w.params) c x=true) (q:P (σ.set i (.exc c [(x,u)]))) :
  WE w A g s (setAttr (.ref (g.ρ i)) x cu) (fun U U U U=>True) (fun (_:Unit)=>P) E:=by
 have I:=clsExc_of c1
 refine set_open r.sta.inK (od:=none) ⟨h1,rfl,rfl,trivial⟩ I.b (fldOk_of hf) (own_none (s:={s with toks:=s.toks+1}) r.sta.inK h1 I.b.d fun h₁ a1 a2 a3 a4=>?_)
 refine store_fs (s:={s with heap:=h₁,toks:=s.toks+1}) (g:=g) (fs:=[]) a1 .nil (by decide) fun h' n' e1 e2' e3=>?_
 have e2':∀ b,b≠s.heap.objs.size->h'.get? b=h₁.get? b:=e2'
 have hκ:=(r.objs _ _ hg).inj
 have fr:=r.free s.heap.objs.size (Nat.le_refl _)
 have hne:g.ρ i≠s.heap.objs.size:=Nat.ne_of_lt (Heap.lt_size h1)
 have kk:∀ a b,s.heap.get? a=some b->a≠g.ρ i->h'.get? a=some b:=fun a b e k1=>(e2' a (Nat.ne_of_lt (Heap.lt_size e))).trans (a3 a b k1 e)
 have r1:Rel w g σ {s with heap:=s.heap.push W.emptyDict}:=(Go.push (X:=noX) r W.emptyDict).rel
 have go1:=(Go.push (X:=noX) r W.emptyDict).mark (a:=s.heap.objs.size) (.aux i) ⟨_,Heap.get?_push_size _ rfl⟩ fr
 have k2:∀ a b,(s.heap.push W.emptyDict).get? a=some b->¬ ((g.mark s.heap.objs.size (.aux i)).κ a).of i->h'.get? a=some b:=fun a b e k=>by
  by_cases q:a=s.heap.objs.size
  ·exact (k (by rw [q,Gh.mark_self]; exact .inr rfl)).elim
  ·rw [Gh.mark_ne _ _ q] at k
   rw [Heap.get?_push_ne _ _ _ q] at e
   exact kk a b e fun z=>k (z▸.inl hκ)
 have st:Stays g s.heap h':=fun a b e hk=>kk a b e fun q=>by rw [q,hκ] at hk; exact hk
 refine ⟨(),_,_,go1.trans (Go.set (s':={s with heap:=h',toks:=s.toks+1+1}) (o':=.exc c (putF [] x u)) go1.rel hg (fun a b e=>?_) k2 rfl rfl rfl (fun U U U=>⟨_,_,rfl⟩) ?_),trivial,q⟩
 ·by_cases q:a=s.heap.objs.size
  ·exact ⟨_,q▸e1⟩
  ·rw [Heap.get?_push_ne _ _ _ q] at e
   by_cases q2:a=g.ρ i
   ·exact ⟨_,q2▸(e2' _ (q2▸q)).trans a2⟩
   ·exact ⟨_,kk a b e q2⟩
 ·refine ExcO.mk ((e2' _ hne).trans a2) l e2 ?_ (.some ⟨Gh.mark_self _ _ _,e1,FsRep.put x _ (hu.mono go1.ext st) .nil⟩) c1 (putF_mem (fs:=[]) (p:=fun y=>fldOk (KF w.params) c y=true) hf fun e he=>by cases he)
  induction t using TraceO.casesOn with
  | no t e=>exact .no t e
  | yes e kT ne eT dT l=>
   have hT:=Nat.ne_of_lt (Heap.lt_size eT)
   exact .yes e ((Gh.mark_ne _ _ hT).trans kT) (fun q=>hT (Option.some.inj q).symm) (kk _ _ eT fun q=>by rw [q,hκ] at kT; injection kT) dT l
theorem setAttr_w {v u:AV} {cv cu:Value} {x:Str} {P:AHeap->Prop} (r:Rel w g σ s) (hv:VRep g s.heap v cv) (hu:VRep g s.heap u cu) (q:SetP (KF w.params) x u σ P v):WE w A g s (setAttr cv x cu) (fun U U U U=>True) (fun (_:Unit)=>P) E:=by
 induction q using SetP.casesOn with
 | inst hg hq q=>
  obtain ⟨_,rfl⟩:=hv.inv
  rw [Bool.and_eq_true,decide_eq_true_eq] at hq
  obtain ⟨h1,f,c1,c2⟩:=r.rep hg
  obtain ⟨kd,e,fr⟩:=id f
  have hne:g.ρ _≠_:=fun z=>by have:=(r.objs _ _ hg).inj; rw [z,kd] at this; injection this
  refine store_w r (clsInst_of c1).b hq.1 f h1 rfl hq.2 hu fun h' t I=>?_
  obtain ⟨sz,k,st,f'⟩:=I
  exact ⟨(),g,_,Go.set (o':=.inst _ (putF _ x u)) r hg sz (fun a b eb hk=>k a b eb fun z=>hk (z▸.inr kd)) rfl rfl rfl (fun U U z=>by injection z) (InstO.mk (k _ _ h1 hne) f' c1 (putF_mem (p:=fun y=>fldOk (KF w.params) _ y=true) hq.1 c2)),trivial,q⟩
 | exc hg hq q=>
  obtain ⟨_,rfl⟩:=hv.inv
  rw [Bool.and_eq_true,decide_eq_true_eq] at hq
  obtain ⟨h1,l,e2,t,f,c1,c2⟩:=r.rep hg
  induction f using ExcD.casesOn with
  | none e0=>subst e0; exact setExc0_w r hg hu h1 l e2 t c1 hq.1 q
  | some f=>
   obtain ⟨kd,e,fr⟩:=id f
   have hne:g.ρ _≠_:=fun z=>by have:=(r.objs _ _ hg).inj; rw [z,kd] at this; injection this
   refine store_w r (clsExc_of c1).b hq.1 f h1 rfl hq.2 hu fun h' t' I=>?_
   obtain ⟨sz,k,st,f'⟩:=I
   exact ⟨(),g,_,Go.set (o':=.exc _ (putF _ x u)) r hg sz (fun a b eb hk=>k a b eb fun z=>hk (z▸.inr kd)) rfl rfl rfl (fun U U U=>⟨_,_,rfl⟩) (ExcO.mk (k _ _ h1 hne) l e2 (t.keep fun T o eT kT ne=>⟨k _ _ eT fun z=>ne (congrArg some z.symm),ne⟩) (.some f') c1 (putF_mem (p:=fun y=>fldOk (KF w.params) _ y=true) hq.1 c2)),trivial,q⟩
end
end Mine
namespace Mine
set_option linter.unusedSimpArgs false
open PySem PySem.W PyProof.Rows PySem.Calls
section
variable {w:World} {A:Around} {g g':Gh} {σ σ':AHeap} {s s':Shared} {Q:EQ} {E:EX}
section
variable {T:Type} [DecidableEq T] {knd:KeyKind prg w T} {mk:T->AV} {h:Heap}
theorem stored_cons (k' k:T) (v' v:Value) (l:List (T×Value)) (hn:k' ∉ l.map (·.1)):stored ((k',v')::l) k v=if k'=k then (k',v)::l else (k',v')::stored l k v:=by
 unfold stored
 by_cases hk:k'=k
 ·subst hk
  simp only [List.any_cons,decide_true,Bool.true_or,if_true,List.map_cons]
  rw [map_store_of_not_mem l _ v hn]
 ·simp only [List.any_cons,decide_eq_false hk,Bool.false_or,List.map_cons,hk,if_false]
  have e:(decide False||l.any fun kv=>decide (kv.1=k))=l.any fun kv=>decide (kv.1=k):=by simp
  rw [e]
  split <;> rfl
set_option tactic.hygienic true in
theorem LRep.stored (M:KindOf w knd mk) (k:T) {a:AV} {ca:Value} (ha:VRep g h a ca) {kvs:List (AV×AV)} {l:List (T×Value)} (r:LRep mk g h kvs l) (hn:(l.map (·.1)).Nodup):LRep mk g h (putD kvs (mk k) a) (stored l k ca):=by
 induction r with
 | nil=>exact .cons ha .nil
 | cons v r ih=>
  rename_i k' _ _ _ _
  rw [List.map_cons,List.nodup_cons] at hn
  rw [stored_cons _ _ _ _ _ hn.1,putD,M.is]
  by_cases hk:k=k'
  ·subst hk; rw [decide_eq_true (rfl:k=k),if_pos rfl,if_pos rfl]; exact .cons ha r
  ·rw [decide_eq_false hk,if_neg (Ne.symm hk),if_neg (by decide)]; exact .cons v (ih hn.2)
set_option tactic.hygienic true in
theorem LRep.without (M:KindOf w knd mk) (k:T) {kvs:List (AV×AV)} {l:List (T×Value)} (r:LRep mk g h kvs l) (hn:(l.map (·.1)).Nodup):LRep mk g h (delD kvs (mk k)) (without l k):=by
 induction r with
 | nil=>exact .nil
 | cons v r ih=>
  rename_i k' _ cv _ l
  rw [List.map_cons,List.nodup_cons] at hn
  rw [delD,M.is]
  by_cases hk:k=k'
  ·subst hk
   have e:PySem.without ((k,cv)::l) k=PySem.without l k:=by unfold PySem.without; simp
   rw [decide_eq_true (rfl:k=k),if_pos rfl,e,without_of_not_mem l k hn.1]; exact r
  ·have hk':¬ k'=k:=Ne.symm hk
   have e:PySem.without ((k',cv)::l) k=(k',cv)::PySem.without l k:=by unfold PySem.without; simp [hk']
   rw [e,decide_eq_false hk,if_neg (by decide)]; exact .cons v (ih hn.2)
theorem LRep.len {kvs:List (AV×AV)} {l:List (T×Value)} (r:LRep mk g h kvs l):kvs.length=l.length:=by
 induction r with
 | nil=>rfl
 | cons _ _ ih=>exact congrArg Nat.succ ih
structure KindD (w:World) (knd:KeyKind prg w T) (mk:T->AV):Prop extends KindOf w knd mk where
 back:∀ {g:Gh} {h:Heap} {a:Addr} {kvs:List (AV×AV)} {l:List (T×Value)},h.DictOf knd a l->LRep mk g h kvs l->DictO w g h a kvs
end
theorem kd_str:KindD w (strKind prg w) AV.str:=⟨kind_str w,fun d r=>.of_s d r⟩
theorem kd_int:KindD w (intKind prg w) AV.int:=⟨kind_int w,fun d r=>.of_i d r⟩
inductive KeyI (w:World) (g:Gh) (s:Shared) (a:Addr) (kvs:List (AV×AV)) (r:Option AV):AV->Prop
 | mk {T:Type} [DecidableEq T] (knd:KeyKind prg w T) (mk:T->AV) (M:KindD w knd mk) (k:T) (l:List (T×Value)) (d:s.heap.DictOf knd a l) (lr:LRep mk g s.heap kvs l) (o:OptV g s.heap r (valueAt l k)):KeyI w g s a kvs r (mk k)
theorem keyOk_self {k:AV} (h:keyOk k k=true):(∃ x,k=.str x)∨∃ x,k=.int x:=by
 induction k using AV.casesOn <;> first | exact .inl ⟨_,rfl⟩ | exact .inr ⟨_,rfl⟩ | injection h
theorem key_of {a:Addr} {kvs:List (AV×AV)} {k:AV} {r:Option AV} (d:DictO w g s.heap a kvs) (hk:keyOk k k=true) (e:getD kvs k=some r):KeyI w g s a kvs r k:=by
 obtain ⟨ha,rfl⟩:=getD_all e
 rcases keyOk_self hk with ⟨x,rfl⟩ | ⟨x,rfl⟩
 ·obtain ⟨l,d,lr⟩:=kdict_s d ha
  exact ⟨_,_,kd_str,x,l,d,lr,lr.value (kind_str w) x⟩
 ·obtain ⟨l,d,lr⟩:=kdict_i d ha
  exact ⟨_,_,kd_int,x,l,d,lr,lr.value (kind_int w) x⟩
theorem Rel.own {i:Nat} {o:AObj} (r:Rel w g σ s) (hi:σ.get i=some o) (hk:kdOf i o=.obj i):(g.κ (g.ρ i)).of i:=.inl ((r.objs _ _ hi).inj.trans hk)
theorem dict_back {T:Type} [DecidableEq T] {knd:KeyKind prg w T} {mk:T->AV} (M:KindD w knd mk) {i:Nat} {kvs kvs':List (AV×AV)} {l:List (T×Value)} {h':Heap} {t:Nat} (r:Rel w g σ s) (hi:σ.get i=some (.dict kvs)) (hd:h'.DictOf knd (g.ρ i) l) (hs:Heap.SameBut (g.ρ i) s.heap h') (hl:LRep mk g s.heap kvs' l) :
  Go w noX g s g (σ.set i (.dict kvs')) {s with heap:=h',toks:=t}:=by
 have k:∀ a b,s.heap.get? a=some b->¬ (g.κ a).of i->h'.get? a=some b:=fun a b e k1=>(hs.2 a fun q=>k1 (q▸r.own hi rfl)).trans e
 obtain ⟨o',_,_,ho,_⟩:=id hd
 refine Go.set r hi (fun a o e=>?_) k rfl rfl rfl (fun U U z=>by injection z) (M.back hd (hl.monoV .refl fun a o e hk=>k a o e fun q=>q.noval hk))
 by_cases q:a=g.ρ i
 ·exact ⟨_,q▸ho⟩
 ·exact ⟨o,(hs.2 a q).trans e⟩
theorem so0:∀ o i:Value,∃ ops,subscripted (.Name "" default) false o i=operate ops (getItem o i):=fun U U=>⟨_,rfl⟩
theorem so1 (st:Option Expr) (lo hi:Option Expr) (p:Pos):∀ o i:Value,∃ ops,subscripted (.Slice lo hi st p) false o i=operate ops (getItem o i):=fun U U=>by induction st using Option.casesOn <;> exact ⟨_,rfl⟩
theorem subscripted_ops (slice:Expr):∀ o i:Value,∃ ops,subscripted slice false o i=operate ops (getItem o i):=by
 induction slice using Expr.casesOn <;> first | exact so0 | exact so1 _ _ _ _
structure IdxI (k:Int) (n j:Nat):Prop where
 lo:-(n:Int)<=k
 hi:k<n
 len:n<=1000000
 lt:j<n
 seq:seqIndex? k n=some j
theorem IdxR.inv {k:Int} {n j:Nat} (h:IdxR k n j):IdxI k n j:=by
 cases h with
 | p h hl=>exact ⟨by lia,by lia,hl,h,by unfold seqIndex?; simp [Int.not_lt.mpr (Int.natCast_nonneg j),h]⟩
 | m h hl=>
  obtain ⟨h1,h2⟩:=h
  exact ⟨by lia,by lia,hl,by lia,by unfold seqIndex?; simp [h1]; lia⟩
theorem list_item {l:Addr} {d:Option Addr} {m:Nat} {sl:Array (Option Value)} {xs:List AV} {vs:Array Value} {n:Int} {t:Tok} {x:AV} {j:Nat} {value slice:Expr} {Q:Value->Shared->Prop} {E:Value->Shared->Prop} (hl:s.heap.get? l=some ⟨.type "list",d,.seq vs m,sl⟩) (hx:VReps g s.heap xs vs.toList)
  (hi:IdxR n xs.length j) (e:xs[j]?=some x) (h:∀ cx,VRep g s.heap x cx->Q cx s):wpAny (model prg w) A (subscriptTail value slice (.ref l) (.int n t)) Q E s:=by
 obtain ⟨cx,h1,h2⟩:=hx.getA e
 have el:=hx.size
 have hL:s.heap.IsList l vs:=⟨_,hl,rfl,_,rfl⟩
 obtain ⟨ops,hs⟩:=subscripted_ops slice (.ref l) (.int n t)
 refine tail_any hL.typeIs slot_list_getitem.lookup ?_ hs
 have I:=hi.inv.len
 cases hi with
 | p h'=>exact wpAny_getItem_list hL (Int.natCast_nonneg _) (by lia) h1 (h cx h2)
 | m h'=>exact wpAny_getItem_list_neg hL (by lia) (by lia) (by lia) (by rw [el,show ∀ k n:Nat,k<=n->(-(k:Int)+n).toNat=n - k from fun k n U=>by lia]; exact h1; exact h'.2) (h cx h2)
theorem sub_dict {i:Nat} {kvs:List (AV×AV)} {k v:AV} {ck:Value} {value slice:Expr} (r:Rel w g σ s) (d:DictO w g s.heap (g.ρ i) kvs) (hk:VRep g s.heap k ck) (h:keyOk k k=true) (e:getD kvs k=some (some v)) (q:Q v σ):WE w A g s (subscriptTail value slice (.ref (g.ρ i)) ck) VRep Q E:=by
 have K:=key_of d h e
 induction K using KeyI.casesOn with
 | mk knd mk M k l d lr o=>
 obtain ⟨c,hva,hv⟩:=o.inv
 obtain ⟨ops,hs⟩:=subscripted_ops slice (.ref (g.ρ i)) ck
 exact tail_any d.typeIs slot_dict_getitem.lookup (wpAny_getItem_of (M.vrep hk) d.mapOf hva (okTP r hv q)) hs
set_option tactic.hygienic true in
theorem sub_w {v k:AV} {cv ck:Value} {value slice:Expr} (r:Rel w g σ s) (hv:VRep g s.heap v cv) (hk:VRep g s.heap k ck) (q:SubP σ Q v k):WE w A g s (subscriptTail value slice cv ck) VRep Q E:=by
 induction q using SubP.casesOn with
 | str h q=>
  obtain ⟨u,rfl⟩:=hv.inv; obtain ⟨t,rfl⟩:=hk.inv
  obtain ⟨ops,hs⟩:=subscripted_ops slice (.str _ u) (.int _ t)
  obtain ⟨lo,hi,len,_,_⟩:=h.inv
  obtain ⟨T,id,h1,h2,h3⟩:=SB.item (prog:=prg) (w:=w) (A:=A) (E:=ErE w g s E) (s:=s) (t:=u) (u:=t) (Q:=OkE w g s VRep Q) (by unfold fitsSsize; simp; lia) (charAt_isSome lo hi) (okTP r (.str _ _) q)
  exact tail_any h2 h1 h3 hs
 | ref h hi e q=>
  obtain ⟨_,rfl⟩:=hv.inv; obtain ⟨t,rfl⟩:=hk.inv
  obtain ⟨h1,h2⟩:=r.rep h
  exact list_item h1 h2 hi e fun cx hx=>okS r hx q
 | lst hi e q=>
  obtain ⟨t,rfl⟩:=hk.inv
  obtain ⟨k,h1,h2⟩:=hv.inv
  exact list_item h1 h2 hi e fun cx hx=>okS r hx q
 | tup hi e q=>
  obtain ⟨t,rfl⟩:=hk.inv
  obtain ⟨k,h1,h2⟩:=hv.inv
  obtain ⟨lo,hi',len,lt,seq⟩:=hi.inv
  obtain ⟨cx,h3,h4⟩:=h2.getA e
  have el:=h2.size
  rename_i a _ vs _ _
  obtain ⟨ops,hs⟩:=subscripted_ops slice (.ref a) (.int _ t)
  have ht:IsTup s.heap a vs:=⟨_,h1,rfl,_,rfl⟩
  exact tail_any ht.typeIs slot_tuple_getitem.lookup (getItem_tuple ht (by lia) (by lia) (el.symm▸seq) h3 (okS r h4 q)) hs
 | ds h e q=>obtain ⟨_,rfl⟩:=hv.inv; exact sub_dict r (r.rep h) hk rfl e q
 | di h e q=>obtain ⟨_,rfl⟩:=hv.inv; exact sub_dict r (r.rep h) hk rfl e q
 | ks h e q=>obtain ⟨_,rfl⟩:=hv.inv; exact sub_dict r (r.rep h) hk rfl e q
inductive LstI (g:Gh) (h:Heap) (xs:List AV):Value->Prop
 | mk {a:Addr} {d:Option Addr} {vs:Array Value} {n:Nat} {sl:Array (Option Value)} (e:h.get? a=some ⟨.type "list",d,.seq vs n,sl⟩) (r:VReps g h xs vs.toList):LstI g h xs (.ref a)
theorem list_of {v:AV} {cv:Value} {xs:List AV} (r:Rel w g σ s) (hv:VRep g s.heap v cv) (e:ListR σ v xs):LstI g s.heap xs cv:=by
 induction e using ListR.casesOn with
 | lst=>obtain ⟨_,e,r⟩:=hv.inv; exact ⟨e,r⟩
 | ref h=>obtain ⟨_,rfl⟩:=hv.inv; obtain ⟨e,q⟩:=r.rep h; exact ⟨e,q⟩
set_option tactic.hygienic true in
theorem list_slice {frz:Bool} {xs ys:List AV} {cv cl ch:Value} {a b:Option Int} {value slice:Expr} (r:Rel w g σ s) (hl:LstI g s.heap xs cv) (hlo:IsPart cl a) (hhi:IsPart ch b) (hle:xs.length<=lim) (hy:∀ vs:Array Value,VReps g s.heap xs vs.toList->VReps g s.heap ys (slicePick vs a b none).toList) (q:NewL ys σ Q frz) :
  wpAny (model prg w) A (subscriptTail value slice cv (.ref s.heap.objs.size)) (OkE w g s VRep Q) (ErE w g s E) {s with heap:=s.heap.push {cls:=.type "slice",data:=.fields #[cl,ch,.none]}}:=by
 obtain ⟨e,hx⟩:=hl
 rename_i l d vs n sl
 have el:=hx.size
 have hL:s.heap.IsList l vs:=⟨_,e,rfl,_,rfl⟩
 obtain ⟨ops,hs⟩:=subscripted_ops slice (.ref l) (.ref s.heap.objs.size)
 have go1:Go w noX g s g σ _:=Go.push r {cls:=.type "slice",data:=.fields #[cl,ch,.none]}
 have go2:=go1.trans (Go.push go1.rel {cls:=.type "list",data:=.seq (slicePick vs a b none)})
 refine tail_any (Heap.IsList.typeIs (s:={s with heap:=s.heap.push {cls:=.type "slice",data:=.fields #[cl,ch,.none]}}) (hL.push _)) list_getitem_lookup
  (wpAny_getItem_list_slice (hL.push _) (Heap.IsSliceOf.new ..) hlo hhi .none (by simp) (okL go2 (n:=0) (Heap.get?_push_size _ rfl) ?_ ((hy vs hx).go go2) q) (by rw [el]; exact size_ok hle)) hs
 show g.κ (s.heap.push _).objs.size=.free
 rw [Heap.size_push]
 exact r.free _ (Nat.le_succ _)
theorem str_slice {x:Str} {t:Tok} {lo hi:AV} {cl ch:Value} {a b:Option Int} {value slice:Expr} (r:Rel w g σ s) (hlo:VRep g s.heap lo cl) (hhi:VRep g s.heap hi ch) (ha:PartR lo a) (hb:PartR hi b) (hl:x.length<=lim) (q:Q (.str (Txt.slice x a b)) σ) :
  wpAny (model prg w) A (subscriptTail value slice (.str x t) (.ref s.heap.objs.size)) (OkE w g s VRep Q) (ErE w g s E) {s with heap:=s.heap.push {cls:=.type "slice",data:=.fields #[cl,ch,.none]}}:=by
 obtain ⟨ops,hs⟩:=subscripted_ops slice (.str x t) (.ref s.heap.objs.size)
 have hk:KeptH (fun h=>∀ a o,s.heap.get? a=some o->h.get? a=some o):=fun h ob k1 a o e=>Heap.get?_push_of_some _ (k1 a o e)
 have fin:∀ h' t' k,(∀ a o,s.heap.get? a=some o->h'.get? a=some o)->OkE w g s VRep Q (.str (Txt.slice x a b) t') {s with heap:=h',toks:=k}:=fun h' t' k k1=>okK r (.str _ _) k1 q
 have key:ItemOn (model prg w) A (ErE w g s E) (.str x t) (.ref s.heap.objs.size) (OkE w g s VRep Q) {s with heap:=s.heap.push {cls:=.type "slice",data:=.fields #[cl,ch,.none]}}:=by
  induction ha using PartR.casesOn with
  | n=>
   rw [show cl=.none from hlo.inv]
   induction hb using PartR.casesOn with
   | n=>rw [show ch=.none from hhi.inv]; exact SBH.sliceItem_nn hk (fun U U e=>e) fin (size_ok hl)
   | i=>obtain ⟨u,rfl⟩:=hhi.inv; exact SBH.sliceItem_ns hk (fun U U e=>e) fin (size_ok hl)
  | i=>
   obtain ⟨u,rfl⟩:=hlo.inv
   induction hb using PartR.casesOn with
   | n=>rw [show ch=.none from hhi.inv]; exact SBH.sliceItem_sn hk (fun U U e=>e) fin (size_ok hl)
   | i=>obtain ⟨u,rfl⟩:=hhi.inv; exact SBH.sliceItem_ss hk (fun U U e=>e) fin (size_ok hl)
 obtain ⟨T,id,h1,h2,h3⟩:=key
 exact tail_any h2 h1 h3 hs
theorem slice_w0 {frz:Bool} {v lo hi:AV} {cv cl ch:Value} {value slice:Expr} (r:Rel w g σ s) (hv:VRep g s.heap v cv) (hlo:VRep g s.heap lo cl) (hhi:VRep g s.heap hi ch) (q:SliceP frz σ Q v lo hi) :
  wpAny (model prg w) A (subscriptTail value slice cv (.ref s.heap.objs.size)) (OkE w g s VRep Q) (ErE w g s E) {s with heap:=s.heap.push {cls:=.type "slice",data:=.fields #[cl,ch,.none]}}:=by
 induction q using SliceP.casesOn with
 | str ha hb hl q=>obtain ⟨t,rfl⟩:=hv.inv; exact str_slice r hlo hhi ha hb hl q
 | dr h hl q=>
  obtain ⟨t,rfl⟩:=hlo.inv
  rw [show ch=.none from hhi.inv]
  exact list_slice r (list_of r hv h) (.int _ _) .none hl (fun vs hx=>by rw [slicePick_from']; simpa using hx.drop _) q
 | tk h hl q=>
  obtain ⟨t,rfl⟩:=hhi.inv
  rw [show cl=.none from hlo.inv]
  exact list_slice r (list_of r hv h) .none (.int _ _) hl (fun vs hx=>by rw [slicePick_upto']; simpa using hx.take _) q
theorem list_back {i:Nat} {xs ys:List AV} {vs:Array Value} {f:Array Value->Array Value} {n t:Nat} (r:Rel w g σ s) (hi:σ.get i=some (.list xs)) (h1:s.heap.get? (g.ρ i)=some ⟨.type "list",none,.seq vs n,#[]⟩) (hy:VReps g s.heap ys (f vs).toList) :
  Go w noX g s g (σ.set i (.list ys)) {s with heap:=s.heap.update (g.ρ i) (Obj.mapSeq f),toks:=t}:=by
 have k:∀ a b,s.heap.get? a=some b->¬ (g.κ a).of i->(s.heap.update (g.ρ i) (Obj.mapSeq f)).get? a=some b:=fun a b e k1=>(Heap.get?_update_other _ _ (by rintro rfl; exact k1 (r.own hi rfl))).trans e
 refine Go.set (s':={s with heap:=s.heap.update (g.ρ i) (Obj.mapSeq f),toks:=t}) r hi (fun a o e=>?_) k rfl rfl rfl (fun U U z=>by injection z) (ListO.mk (vs:=f vs) (Heap.get?_update_self _ h1 rfl) (hy.mono (.refl g) fun a o e hk=>k a o e fun q=>q.noval hk))
 by_cases q:a=g.ρ i
 ·subst q; exact ⟨_,Heap.get?_update_self _ h1 rfl⟩
 ·exact ⟨o,(Heap.get?_update_other _ _ (Ne.symm q)).trans e⟩
theorem setItem_list {l:Addr} {items:Array Value} {n:Nat} {k:Int} {t:Tok} {v:Value} {Q:Unit->Shared->Prop} {E:Value->Shared->Prop} (hl:s.heap.get? l=some ⟨.type "list",none,.seq items n,#[]⟩)
  (h0:0<=k) (hfit:k<2 ^ 63) (hn:k<items.size) (hQ:Q () {s with heap:=s.heap.update l (Obj.mapSeq (·.setIfInBounds k.toNat v))}) :
  wpAny (model prg w) A (setItem (.ref l) (.int k t) v) Q E s:=by
 have hL:s.heap.IsList l items:=⟨_,hl,rfl,n,rfl⟩
 unfold setItem
 try with_reducible refine wpAny_holding ?_
 first | refine wpAny_bind (wpAny_pure ?_) | skip
 refine wpAny_bind (wpAny_sequenceKey hL.typeIs (by decide) ?_)
 refine wpAny_bind (wpAny_callSpecial?_slot (name:=Str.ofString "__setitem__") hL.typeIs slot_list_setitem
  (wpAny_call_entry slot_list_setitem hL.typeIs entry_list_setitem ?_ (args_list_setitem _ _ _)))
 show wpAny _ _ (Builtin.List.listSubscript? (.int k t) >>= _) _ _ s
 refine wpAny_bind (wpAny_listSubscript_int (fitsIndex_of h0 hfit) ?_)
 clear hfit
 obtain ⟨j,rfl⟩:=Int.eq_ofNat_of_zero_le h0
 have hj:j<items.size:=by lia
 have hx':items[j]?=some items[j]:=Array.getElem?_eq_getElem hj
 show wpAny _ _ ((seqItemAt l j >>= fun r=>pure (r.map (j,·))) >>= _) _ _ s
 refine wpAny_bind (wpAny_bind (wpAny_seqItemAt hl rfl (wpAny_pure ?_)))
 rw [hx']
 show wpAny _ _ (setSeqItemAt l j v >>= _) _ _ s
 refine wpAny_bind (wpAny_setSeqItemAt hl rfl ?_)
 first
  | exact wpAny_bind (wpAny_pure (wpAny_pure ⟨.none,rfl,wpAny_pure hQ⟩))
  | exact wpAny_pure ⟨.none,rfl,wpAny_pure hQ⟩
theorem list_append {l:Addr} {items:Array Value} {n:Nat} {x:Value} {Q:Value->Shared->Prop} {E:Value->Shared->Prop} (hl:s.heap.get? l=some ⟨.type "list",none,.seq items n,#[]⟩)
  (hQ:Q .none {s with heap:=s.heap.update l (Obj.mapSeq (·.push x))}) (hsz:items.size<=sizeLine):wpAny (model prg w) A (call (.builtin "list.append") [.ref l,x]) Q E s:=by
 have hL:s.heap.IsList l items:=⟨_,hl,rfl,n,rfl⟩
 refine wpAny_call_entry slot_list_append hL.typeIs entry_list_append ?_ (args_list_append _ _)
 show wpAny _ _ (updateSeq l (·.push x) >>= fun U=>(PySem.ret .none)) _ _ s
 refine wpAny_bind ?_
 exact wpAny_updateSeq hl rfl (wpAny_pure ⟨.none,rfl,hQ⟩)
theorem setItem_w {v k u:AV} {cv ck cu:Value} {P:AHeap->Prop} (r:Rel w g σ s) (hv:VRep g s.heap v cv) (hk:VRep g s.heap k ck) (hu:VRep g s.heap u cu) (q:SetItP u σ P v k):WE w A g s (setItem cv ck cu) (fun U U U U=>True) (fun (_:Unit)=>P) E:=by
 induction q using SetItP.casesOn with
 | lst h hn hl q=>
  obtain ⟨_,rfl⟩:=hv.inv
  obtain ⟨t,rfl⟩:=hk.inv
  obtain ⟨h1,h2⟩:=r.rep h
  have el:=h2.size
  have hl:_<=1000000:=hl
  refine setItem_list h1 (Int.natCast_nonneg _) (by lia) (by lia) ⟨(),g,_,list_back r h h1 ?_,trivial,q⟩
  rw [Array.toList_setIfInBounds]
  exact h2.set _ hu
 | d h hk' e hl q=>
  obtain ⟨_,rfl⟩:=hv.inv
  have K:=key_of (r.rep h) hk' e
  induction K using KeyI.casesOn with
  | mk knd mk M k l d lr o=>
  refine wpAny_setItem_pairs (M.vrep hk) d (fun h' hd hs=>⟨(),g,_,dict_back M r h hd hs (lr.stored M.toKindOf k hu (KDict.nodup d)),trivial,q⟩) (by rw [← lr.len]; exact Nat.le_trans hl (size_ok (n:=1000) (by decide)))
end
section
variable {w:World} {A:Around} {g g':Gh} {σ σ':AHeap} {s s':Shared} {Q:EQ} {E:EX}
theorem lim6 {n:Nat} (h:n<=lim):n<=1000000:=h
theorem len_w {v:AV} {cv:Value} {n:Nat} (r:Rel w g σ s) (hv:VRep g s.heap v cv) (h:LenR σ v n) (q:Q (.int n) σ):WE w A g s (call (.builtin "len") [cv]) VRep Q E:=by
 induction h using LenR.casesOn with
 | str hl=>obtain ⟨t,rfl⟩:=hv.inv; have:=lim6 hl; exact P.len_str (by lia) (okTP r (.int _ _) q)
 | lst h hl=>
  obtain ⟨e,hx⟩:=list_of r hv h
  have:=lim6 hl
  refine PyProof.Rows.len_list ⟨_,e,rfl,_,rfl⟩ (by rw [hx.size]; lia) ?_
  rw [hx.size]; exact okTP r (.int _ _) q
 | tup hl=>
  obtain ⟨_,e,hx⟩:=hv.inv
  have:=lim6 hl
  refine PyProof.Rows.len_tuple ⟨_,e,rfl,_,rfl⟩ (by rw [hx.size]; lia) ?_
  rw [hx.size]; exact okTP r (.int _ _) q
theorem ints_are:∀ {ys:List Int} {vs:List Value},VReps g s.heap (ys.map .int) vs->IntsAre vs ys
 | [],_,r=>by rw [show _=[] from r.inv]; exact .nil
 | y::ys,_,r=>by
  obtain ⟨a,r2⟩:=r.inv
  obtain ⟨t,rfl⟩:=a.inv
  exact .cons _ _ (ints_are r2)
set_option tactic.hygienic true in
theorem sum_w {ns:List Int} {cv:Value} (hh:A.handled=none) (r:Rel w g σ s) (hv:VRep g s.heap (.lst (ns.map .int)) cv) (q:Q (.int ns.sum) σ):WE w A g s (call (.builtin "sum") [cv]) VRep Q E:=by
 obtain ⟨_,e,hx⟩:=hv.inv
 have hi:=ints_are hx
 obtain ⟨ys,hys⟩:=hi.allInts.items
 rename_i vs n' sl' k'
 have hys:vs=intItems ys:=by simpa using hys
 subst hys
 refine sum_intListG hh ⟨_,e,rfl,_,rfl⟩ fun h' tk t' hk=>?_
 have hsum:preSum (numAt ys) ys.size=ns.sum:=by
  rw [preSum_eq,List.take_of_length_le (by simp),← nums_intItems,← hi.numsOf]
 rw [hsum]
 exact okK r (.int ns.sum t') hk q
theorem range_w {n:Nat} {cv:Value} (r:Rel w g σ s) (hv:VRep g s.heap (.int n) cv) (q:Q (.rng n) σ):WE w A g s (call (.type "range") [cv]) VRep Q E:=by
 obtain ⟨t,rfl⟩:=hv.inv
 refine call_range_1 ?_
 have go1:Go w noX g s g σ _:=Go.push r {cls:=.type "range",data:=.fields #[.int 0 s.toks,.int n t,.int 1 (s.toks+1)]}
 exact ⟨_,_,_,(go1.trans (Go.toks (t:=s.toks+1+1) go1.rel)).mark (a:=s.heap.objs.size) .fz ⟨_,Heap.get?_push_size _ rfl⟩ (r.free _ (Nat.le_refl _)),.rng (by rw [Gh.mark_self]; trivial) (IsRange.new ..),q⟩
set_option tactic.hygienic true in
theorem tuple_w {v:AV} {cv:Value} {xs:List AV} (r:Rel w g σ s) (hv:VRep g s.heap v cv) (h:ListR σ v xs) (hl:xs.length<=lim) (q:Q (.tup xs) σ):WE w A g s (call (.type "tuple") [cv]) VRep Q E:=by
 obtain ⟨e,hx⟩:=list_of r hv h
 rename_i a d vs n sl
 refine call_tuple_list ⟨_,e,rfl,_,rfl⟩ (fun h' hk=>?_) (by rw [hx.size]; exact size_ok hl)
 have go1:Go w noX g s g σ {s with heap:=h'}:=.keeps r hk rfl rfl
 have go2:=go1.trans (Go.push go1.rel {cls:=.type "tuple",data:=.seq vs})
 exact okTup go2 (n:=0) (Heap.get?_push_size _ rfl) (go1.rel.free _ (Nat.le_refl _)) (hx.go go2) q
theorem isTy_tuple:typeOf (.type "tuple")=pure (.type "type"):=by kernel_rfl
theorem sub_str_cls (c:Addr):isSubtype (.type "str") (.ref c)=pure false:=by rw [isSubtype_type]; kernel_rfl
set_option maxHeartbeats 1000000 in
theorem isi_nest {h:Heap} {gg:Array GenState} {d:Drawn} {t:Nat} {os:OsState} {x:Str} {u:Tok} {c:Addr} {od:Option Addr} {cd:ClassData} {sl:Array (Option Value)} {dep:Int} {tk:Tok} {Q:Fin->Shared->Prop} {E:Value->Shared->Prop} (hc:h.get? c=some ⟨.type "type",od,.cls cd,sl⟩) (hq:Q (.done (.ret (.bool false))) ⟨h,gg,d,t+1,os⟩) :
  wpAny (model prg w) A (Builtin.«isinstance.nested» ⟨[.str x u,.ref c,.int dep tk],[]⟩) Q E ⟨h,gg,d,t,os⟩:=by
 have hT:(⟨h,gg,d,t,os⟩:Shared).TypeIs (.str x u) "str":=rfl
 have hT2:(⟨h,gg,d,t,os⟩:Shared).TypeIs (.ref c) "type":=⟨_,hc,rfl⟩
 have hsub:=sub_str_cls c
 have hne:(Value.type "str"==Value.ref c)=false:=rfl
 repeat (any_goals (first | assumption | with_reducible apply class_attr_str | wp_step))
theorem isC_w {x:Str} {c:Addr} {cv ck:Value} (r:Rel w g σ s) (hv:VRep g s.heap (.str x) cv) (hk:VRep g s.heap (.fn c) ck) (h:(isClsIn (KF w.params) c&&typeIn (KF w.params) (.ref c)==some (.type "type"))=true) (q:Q (.bool false) σ):WE w A g s (call (.builtin "isinstance") [cv,ck]) VRep Q E:=by
 obtain ⟨t,rfl⟩:=hv.inv
 obtain ⟨rfl,_⟩:=hk.inv
 rw [Bool.and_eq_true,beq_iff_eq] at h
 obtain ⟨hc,ht⟩:=h
 obtain ⟨⟨oc,od,odt,osl⟩,ho,hcl⟩:=Option.map_eq_some_iff.mp (show ((KF w.params).lookup c).map _=_ from ht)
 dsimp only at hcl
 subst hcl
 have:∃ cd,odt=.cls cd:=by
  unfold isClsIn clsIn at hc
  rw [show (KF w.params).lookup c=some _ from ho] at hc
  induction odt using Data.casesOn <;> first | exact ⟨_,rfl⟩ | injection hc
 obtain ⟨cd,rfl⟩:=this
 refine call_isinstance_of ?_ (by intro e; injection e)
 obtain ⟨hh,gg,d,tk,os⟩:=s
 exact isi_nest (r.sta.inK _ _ ho) (okTP (s:=⟨hh,gg,d,tk,os⟩) r (.bool _) q)
theorem isT_w {xs:List AV} {cv:Value} (r:Rel w g σ s) (hv:VRep g s.heap (.tup xs) cv) (q:Q (.bool true) σ):WE w A g s (call (.builtin "isinstance") [cv,.type "tuple"]) VRep Q E:=by
 obtain ⟨_,e,_⟩:=hv.inv
 exact call_isinstance_yes (Tx:="tuple") (T:="tuple") ⟨_,e,rfl⟩ isTy_tuple sub_tuple_self (okS r (.bool _) q)
inductive OneI (g:Gh) (h:Heap) (x:AV):List Value->Prop
 | mk {v:Value} (a:VRep g h x v):OneI g h x [v]
theorem VReps.one {h:Heap} {x:AV} {l:List Value} (r:VReps g h [x] l):OneI g h x l:=by
 obtain ⟨a,r2⟩:=r.inv
 rw [show _=[] from r2.inv]; exact ⟨a⟩
inductive TwoI (g:Gh) (h:Heap) (x y:AV):List Value->Prop
 | mk {v u:Value} (a:VRep g h x v) (b:VRep g h y u):TwoI g h x y [v,u]
theorem VReps.two {h:Heap} {x y:AV} {l:List Value} (r:VReps g h [x,y] l):TwoI g h x y l:=by
 obtain ⟨a,r2⟩:=r.inv
 obtain ⟨b⟩:=r2.one
 exact ⟨a,b⟩
theorem par_strs {ys:List Str} {vs:List Value} (r:VReps g s.heap (ys.map .str) vs):∃ l:List (Str×Tok),vs=strValues l∧l.map (·.1)=ys:=by
 obtain ⟨l,e⟩:=par_str r
 exact ⟨l,rfl,e⟩
theorem bi_w {hd:Option Nat} {n:String} {args:List AV} {cargs:List Value} (hh:hd=none->A.handled=none) (r:Rel w g σ s) (ha:VReps g s.heap args cargs) (q:BiP hd (KF w.params) σ Q n args):WE w A g s (call (.builtin n) cargs) VRep Q E:=by
 induction q using BiP.casesOn with
 | len h q=>obtain ⟨a⟩:=ha.one; exact len_w r a h q
 | sum h q=>obtain ⟨a⟩:=ha.one; exact sum_w (hh h) r a q
 | isT q=>obtain ⟨a,b⟩:=ha.two; rw [show _=Value.type "tuple" from b.inv]; exact isT_w r a q
 | isC h q=>obtain ⟨a,b⟩:=ha.two; exact isC_w r a b h q
theorem ty_w {n:String} {args:List AV} {cargs:List Value} (r:Rel w g σ s) (ha:VReps g s.heap args cargs) (q:TyP σ Q n args):WE w A g s (call (.type n) cargs) VRep Q E:=by
 induction q using TyP.casesOn with
 | range h q=>obtain ⟨a⟩:=ha.one; exact range_w r a q
 | tuple h hl q=>obtain ⟨a⟩:=ha.one; exact tuple_w r a h hl q
noncomputable def mtV (co:Value):Mt->Value×List Value
 | .fn f=>(.ref f,[])
 | .self f=>(.ref f,[co])
 | .append=>(.builtin "list.append",[co])
 | .lpop=>(.builtin "list.pop",[co])
 | .get=>(.builtin "dict.get",[co])
 | .dpop=>(.builtin "dict.pop",[co])
 | .join=>(.builtin "str.join",[co])
 | .find=>(.builtin "str.find",[co])
 | .count=>(.builtin "str.count",[co])
 | .exc=>(.builtin "Exception.__init__",[])
theorem VReps.erase {h:Heap}:∀ {xs:List AV} {vs:List Value} (n:Nat),VReps g h xs vs->VReps g h (xs.eraseIdx n) (vs.eraseIdx n)
 | [],_,_,r=>by rw [show _=[] from r.inv]; exact .nil
 | _::_,_,0,r=>r.inv.casesOn fun U r=>r
 | _::_,_,n+1,r=>r.inv.casesOn fun a r=>.cons a (r.erase n)
theorem append_w {i:Nat} {xs:List AV} {v:AV} {cv:Value} (r:Rel w g σ s) (h:σ.get i=some (.list xs)) (hv:VRep g s.heap v cv) (hl:xs.length<lim) (q:Q .none (σ.set i (.list (xs++[v])))):WE w A g s (call (.builtin "list.append") [.ref (g.ρ i),cv]) VRep Q E:=by
 obtain ⟨e,hx⟩:=r.rep h
 refine list_append e ⟨_,g,_,list_back r h e ?_,.none,q⟩ (by rw [hx.size]; exact size_ok (Nat.le_of_lt hl))
 rw [Array.toList_push]
 exact hx.append (.cons hv .nil)
theorem lpop_w {i:Nat} {xs ys:List AV} {v:AV} {vs:Array Value} {n k:Nat} {cv:Value} (r:Rel w g σ s) (h:σ.get i=some (.list xs)) (e:s.heap.get? (g.ρ i)=some ⟨.type "list",none,.seq vs n,#[]⟩) (hx:VReps g s.heap xs vs.toList) (hv:VRep g s.heap v cv) (hy:ys=xs.eraseIdx k) (q:Q v (σ.set i (.list ys))):OkE w g s VRep Q cv {s with heap:=s.heap.update (g.ρ i) (Obj.mapSeq fun xs=>xs.eraseIdxIfInBounds k)}:=by
 have go:=list_back (t:=s.toks) (f:=fun xs=>xs.eraseIdxIfInBounds k) (ys:=ys) r h e (by rw [Array.toList_eraseIdxIfInBounds,hy]; exact hx.erase k)
 exact ⟨v,g,_,go,hv.go go,q⟩
set_option tactic.hygienic true in
theorem mt_w {m:Mt} {o:AV} {co:Value} {args:List AV} {cargs:List Value} (hE:∀ {i:Nat} {c:Addr} {fs:List (Str×AV)} {v:AV},σ.get i=some (.exc c fs)->m=.exc->args=[.ref i,v]->Q .none σ->VReps g s.heap args cargs->WE w A g s (call (.builtin "Exception.__init__") cargs) VRep Q E) (r:Rel w g σ s) (ho:VRep g s.heap o co) (ha:VReps g s.heap args cargs) (q:MtP σ Q m o args) :
  WE w A g s (call (mtV co m).1 ((mtV co m).2++cargs)) VRep Q E:=by
 induction q using MtP.casesOn with
 | append h hl q=>obtain ⟨_,rfl⟩:=ho.inv; obtain ⟨a⟩:=ha.one; exact append_w r h a hl q
 | lpop h hl q=>
  obtain ⟨hi,rfl⟩:=ho.inv
  rw [show cargs=[] from ha.inv]
  obtain ⟨e,hx⟩:=r.rep h
  rename_i i xs v vs n
  have el:=hx.size
  rw [List.length_append,List.length_singleton] at el
  obtain ⟨cy,q1,q2⟩:=hx.getA (i:=xs.length) (x:=v) List.getElem?_concat_length
  refine call_meets PySem.F.slot_list_pop ⟨_,e,rfl⟩ PySem.F.entry_list_pop (PySem.F.args_list_pop_1 _) (MeetsSeq.list_pop_last (g.ρ i) vs n cy (by rw [el]; exact q1) (by rw [el]; exact size_ok hl)) ⟨e,lpop_w r h e hx q2 ?_ q⟩
  rw [el,Nat.add_sub_cancel,List.eraseIdx_append_of_length_le (Nat.le_refl _),Nat.sub_self]; exact (List.append_nil _).symm
 | lpop0 h hl q=>
  obtain ⟨hi,rfl⟩:=ho.inv; obtain ⟨a⟩:=ha.one
  obtain ⟨t,rfl⟩:=a.inv
  obtain ⟨e,hx⟩:=r.rep h
  rename_i i xs v vs n
  have el:=hx.size
  rw [List.length_cons] at el
  obtain ⟨cy,q1,q2⟩:=hx.getA (i:=0) (x:=v) rfl
  exact call_meets PySem.F.slot_list_pop ⟨_,e,rfl⟩ PySem.F.entry_list_pop (PySem.F.args_list_pop_2 _ _) (MeetsSeq.list_pop_at (g.ρ i) vs n 0 t 0 cy (by decide) (by rw [el]; unfold seqIndex?; simp) q1 (by rw [el]; exact size_ok hl)) ⟨e,lpop_w r h e hx q2 rfl q⟩
 | get h hk e q=>
  obtain ⟨_,rfl⟩:=ho.inv; obtain ⟨a,b⟩:=ha.two
  have K:=key_of (r.rep h) hk e
  induction K using KeyI.casesOn with
  | mk knd mk M k l d lr o=>
  refine call_meetsIn PySem.F.slot_dict_get d.typeIs PySem.F.entry_dict_get (PySem.F.args_dict_get_3 _ _ _) (meets_dict_get_default knd _ (M.vrep a) (r.notSys h rfl) _) ⟨_,d.mapOf,?_⟩
  generalize valueAt l k=z at o
  induction o using OptV.casesOn with
  | no=>exact okTP r b q
  | so c=>exact okTP r c q
 | dpop h hk e hl q=>
  obtain ⟨_,rfl⟩:=ho.inv; obtain ⟨a⟩:=ha.one
  have K:=key_of (r.rep h) hk e
  induction K using KeyI.casesOn with
  | mk knd mk M k l d lr o=>
  obtain ⟨c,hva,hv⟩:=o.inv
  refine call_meetsIn PySem.F.slot_dict_pop d.typeIs PySem.F.entry_dict_pop (PySem.F.args_dict_pop_2 _ _) (meets_dict_pop_there knd _ (M.vrep a) [] (.inl rfl) (M.part (M.vrep a))) ⟨l,_,d,by rw [← lr.len]; exact Nat.le_trans hl (size_ok (n:=1000) (by decide)),hva,fun h' hd hs=>?_⟩
  have go:=dict_back (t:=s.toks+1) M r h hd hs (lr.without M.toKindOf k (KDict.nodup d))
  exact ⟨_,g,_,go,hv.go go,q⟩
 | dpopd h hk e q=>
  obtain ⟨_,rfl⟩:=ho.inv; obtain ⟨a,b⟩:=ha.two
  have K:=key_of (r.rep h) hk e
  induction K using KeyI.casesOn with
  | mk knd mk M k l d lr o=>
  generalize hz:valueAt l k=z at o
  cases o with
  | no=>exact call_meetsIn PySem.F.slot_dict_pop d.typeIs PySem.F.entry_dict_pop (PySem.F.args_dict_pop_3 _ _ _) (meets_dict_pop_default knd _ (M.vrep a) (r.notSys h rfl) (M.part (M.vrep a)) _) ⟨l,d,hz,okTP r b q⟩
 | join h hj q=>
  obtain ⟨t,rfl⟩:=ho.inv; obtain ⟨a⟩:=ha.one
  obtain ⟨e,hx⟩:=list_of r a h
  obtain ⟨l,hl,k2⟩:=par_strs hx
  exact SC.join (l:=l) ⟨_,e,rfl,_,by rw [← hl]⟩ k2 hj fun t' k=>okTP r (.str _ _) q
 | find q=>obtain ⟨t,rfl⟩:=ho.inv; obtain ⟨a⟩:=ha.one; obtain ⟨u,rfl⟩:=a.inv; exact SC.find (okTP r (.int _ _) q)
 | count q=>obtain ⟨t,rfl⟩:=ho.inv; obtain ⟨a⟩:=ha.one; obtain ⟨u,rfl⟩:=a.inv; exact SC.count (okTP r (.int _ _) q)
 | exc h q=>exact hE h rfl rfl q ha
theorem exc_typeOf:typeOf (.type "Exception")=pure (.type "type"):=by kernel_rfl
theorem exc_notStub:Manifest.isStub "Exception"=false:=by decide +kernel
theorem FsRep.none_of {P:Params} {K:Frag} {h:Heap} {fs:List (Str×AV)} {es:List DictEntry} {c:Addr} {x:Str} {f:Value} (hr:FsRep P g h fs es) (hf:∀ e∈fs,fldOk K c e.1=true) (hm:findIn K (.ref c) x=some (some f)):getL x es=some none:=by
 obtain ⟨o,h1,h2⟩:=hr.look x
 induction hl:fs.lookup x using Option.casesOn with
 | none=>rw [hl] at h2; cases h2; exact h1
 | some v=>
  obtain ⟨e,he,rfl⟩:=lookup_mem hl
  have:=fldOk_of (hf e he)
  rw [hm] at this
  cases this
theorem gm_str {y:Str} {t:Tok} {n:Str} {id:String} {pl:Sem Bool} {Q:Value×List Value->Shared->Prop} {E:Value->Shared->Prop} (slot:Slot "str" n id) (ty:typeOf (.builtin id)=pure (.type "method_descriptor")) (h:Q (.builtin id,[.str y t]) s):wpAny (model prg w) A (getMethod (.str y t) n pl) Q E s:=
 getMethod_builtin (typeIs_str s y t) PySem.F.plainAttrs_str slot ty (fun a e=>by injection e) h
theorem gm_list {a:Addr} {dt:Data} {sl:Array (Option Value)} {n:Str} {id:String} {pl:Sem Bool} {Q:Value×List Value->Shared->Prop} {E:Value->Shared->Prop} (slot:Slot "list" n id) (ty:typeOf (.builtin id)=pure (.type "method_descriptor")) (ho:s.heap.get? a=some ⟨.type "list",none,dt,sl⟩) (h:Q (.builtin id,[.ref a]) s):wpAny (model prg w) A (getMethod (.ref a) n pl) Q E s:=
 getMethod_builtin (T:="list") ⟨_,ho,rfl⟩ PySem.F.plainAttrs_list slot ty (fun b e=>by (injection e with e1; subst e1); exact ⟨_,ho,rfl⟩) h
theorem gm_dict {a:Addr} {n:Str} {id:String} {pl:Sem Bool} {Q:Value×List Value->Shared->Prop} {E:Value->Shared->Prop} {kvs:List (AV×AV)} (slot:Slot "dict" n id) (ty:typeOf (.builtin id)=pure (.type "method_descriptor")) (d:DictO w g s.heap a kvs) (h:Q (.builtin id,[.ref a]) s):wpAny (model prg w) A (getMethod (.ref a) n pl) Q E s:=by
 have:∃ o,s.heap.get? a=some o∧o.cls=.type "dict"∧o.dict=none:=by
  induction d using DictO.casesOn with
  | s e d r=>obtain ⟨_,_,c,_⟩:=d; exact ⟨_,e,c.1,c.2.1⟩
  | i e d r=>obtain ⟨_,_,c,_⟩:=d; exact ⟨_,e,c.1,c.2.1⟩
 obtain ⟨o,ho,hc,hd⟩:=this
 exact getMethod_builtin (T:="dict") ⟨_,ho,hc⟩ PySem.F.plainAttrs_dict slot ty (fun b e=>by (injection e with e1; subst e1); exact ⟨_,ho,hd⟩) h
theorem exc_init_found:findCls [] (.type "Exception") (.type "type") "__init__"=some (.val (.builtin "Exception.__init__")):=by kernel_rfl
theorem exc_init_handed:handedIn (.builtin "Exception.__init__")=true:=by decide +kernel
theorem gm_exc {pl:Sem Bool} {Q:Value×List Value->Shared->Prop} {E:Value->Shared->Prop} (h:Q (.builtin "Exception.__init__",[]) {s with toks:=s.toks+1}):wpAny (model prg w) A (getMethod (.type "Exception") "__init__" pl) Q E s:=by
 have X:Frag.In [] s.heap:=fun a o e=>by injection e
 have hstub:opaqueClassAbove (.type "Exception")=pure none:=by unfold opaqueClassAbove; dsimp only; rw [exc_notStub]; rfl
 have L0:Looks (model prg w) s.heap (typeOf (.type "Exception")) (.type "type"):=Looks.of_pure exc_typeOf
 unfold getMethod specialOf
 refine wpAny_bind (wpAny_bind (L0.here ((looks_findIn X type_tga).here ?_)))
 dsimp only
 rw [if_pos canon_tga]
 refine wpAny_bind (wpAny_mono (Q:=fun v=>Q (v,[])) (E:=E) ?_ (fun U U z=>wpAny_pure z) fun U U z=>z)
 have LO:Looks (model prg w) s.heap (opaqueClassAbove (.type "Exception")) none:=Looks.of_pure hstub
 refine cls_open X LO L0 type_tga (looks_hook X (r:=none) (by rfl)) (by show subIn [] _ _=_; rfl) exc_init_found
  (wpAny_pure (by show wpAny _ _ (handedOut _) _ _ _; rw [handedOut_of exc_init_handed]; exact wpAny_pure h))
theorem fnOf_inv {K:Frag} {o:Option Value} {f:Addr} (h:fnOf K o=some f):o=some (.ref f)∧fnIn K f=true∧isFn K (.ref f)=true:=by
 induction o using Option.casesOn with
 | none=>injection h
 | some v=>
  induction v using Value.casesOn with
  | ref f'=>
   have h:(if fnIn K f'&&isFn K (.ref f') then some f' else none)=some f:=h
   induction hq:fnIn K f'&&isFn K (.ref f') using Bool.casesOn <;> rw [hq] at h <;> (first | (injection h; done) | (injection h with e1; subst e1))
   rw [Bool.and_eq_true] at hq
   exact ⟨rfl,hq⟩
  | _=>injection h
theorem methA_of {K:Frag} {c f:Addr} {x:Str} (h:methA K c x=some f):findIn K (.ref c) x=some (some (.ref f))∧fnIn K f=true∧isFn K (.ref f)=true:=by
 obtain ⟨o,h1,h2⟩:=Option.bind_eq_some_iff.mp h
 obtain ⟨rfl,h3⟩:=fnOf_inv h2
 exact ⟨h1,h3⟩
set_option tactic.hygienic true in
theorem clsMeth_of {K:Frag} {c f:Addr} {x:Str} (h:clsMeth K c x=some f):readsIn K c (.type "type")=true∧specialIn K (.ref c) "__getattribute__"=some (some (.builtin "type.__getattribute__"))∧findCls K (.ref c) (.type "type") x=some (.val (.ref f))∧fnIn K f=true:=by
 unfold clsMeth at h
 split at h
 ·rename_i hq
  rw [Bool.and_eq_true,beq_iff_eq] at hq
  split at h
  ·rename_i f' hf
   induction hf':fnIn K f' using Bool.casesOn <;> rw [hf'] at h <;> (first | (injection h; done) | (injection h with e1; subst e1))
   exact ⟨hq.1,hq.2,hf,hf'⟩
  ·injection h
 ·injection h
set_option maxHeartbeats 1000000 in
theorem getM_w {o:AV} {co:Value} {x:Str} {pl:Sem Bool} {Q:Mt->AHeap->Prop} (r:Rel w g σ s) (ho:VRep g s.heap o co) (q:GetMP (KF w.params) σ Q o x):WE w A g s (getMethod co x pl) (fun U U mt cf=>cf=mtV co mt) Q E:=by
 have fin:∀ {m:Mt},Q m σ->OkE w g s (fun U U mt cf=>cf=mtV co mt) Q (mtV co m) s:=fun q=>⟨_,g,σ,.refl r,rfl,q⟩
 cases q with
 | append h q=>obtain ⟨_,rfl⟩:=ho.inv; obtain ⟨e,_⟩:=r.rep h; exact gm_list PySem.F.slot_list_append PySem.F.type_list_append e (fin q)
 | lpop h q=>obtain ⟨_,rfl⟩:=ho.inv; obtain ⟨e,_⟩:=r.rep h; exact gm_list PySem.F.slot_list_pop PySem.F.type_list_pop e (fin q)
 | get h q=>obtain ⟨_,rfl⟩:=ho.inv; exact gm_dict PySem.F.slot_dict_get PySem.F.type_dict_get (r.rep h) (fin q)
 | dpop h q=>obtain ⟨_,rfl⟩:=ho.inv; exact gm_dict PySem.F.slot_dict_pop PySem.F.type_dict_pop (r.rep h) (fin q)
 | inst h m q=>
  obtain ⟨_,rfl⟩:=ho.inv
  obtain ⟨hf,h2,h3⟩:=methA_of m
  obtain ⟨e,⟨k,e2,fr⟩,c1,c2⟩:=r.rep h
  have I:=clsInst_of c1
  exact method_fn r.sta.inK (od:=some _) ⟨e,rfl,rfl,e2⟩ I.ga I.b.g hf (beq_iff_eq.mp h3) (by show (lookIn x _).map _=_; rw [getL_eq,fr.none_of c2 hf]; rfl) (fin q)
 | cls m q=>
  obtain ⟨rfl,hc⟩:=ho.inv
  obtain ⟨h1,h2,h3,_⟩:=clsMeth_of m
  exact method_cls r.sta.inK h2 (cls_value r.sta.inK h1 h3 rfl ⟨_,g,σ,.toks r,rfl,q⟩)
 | join q=>obtain ⟨t,rfl⟩:=ho.inv; exact gm_str PySem.F.slot_str_join PySem.F.type_str_join (fin q)
 | find q=>obtain ⟨t,rfl⟩:=ho.inv; exact gm_str PySem.F.slot_str_find PySem.F.type_str_find (fin q)
 | count q=>obtain ⟨t,rfl⟩:=ho.inv; exact gm_str PySem.F.slot_str_count PySem.F.type_str_count (fin q)
 | exc q=>
  have e:co=.type "Exception":=ho.inv
  subst e
  refine gm_exc ?_
  exact OkE.mk .exc g σ (.toks r) rfl q
end
inductive FrameOk (g:Gh) (h:Heap) (env:Env):Prop
 | mk {L:Addr} {o:Obj} {es:Array DictEntry} {ep:Nat} (kind:env.scope.kind≠.module) (f:env.frame=some L) (k:g.κ L=.frm) (e:h.get? L=some o) (d:o.data=.dict es ep)
noncomputable def FramesOk (g:Gh) (h:Heap) (l:List Env):Prop:=∀ env∈l,FrameOk g h env
theorem FrameOk.go {g g':Gh} {X:Addr->Prop} {h h':Heap} {env:Env} (F:FrameOk g h env) (x:Ext g g') (k:TrP g X h h') (hX:∀ L,env.frame=some L->¬ X L):FrameOk g' h' env:=by
 obtain ⟨hk,h1,h2,h3,h4⟩:=F
 obtain ⟨sl,h5,_⟩:=k.priv _ _ h3 (by rw [h2]; trivial) (hX _ h1)
 exact .mk hk h1 ((x.κ _ (by rw [h2]; trivial)).trans h2) h5 h4
theorem FramesOk.go {g g':Gh} {X:Addr->Prop} {h h':Heap} {l:List Env} (F:FramesOk g h l) (x:Ext g g') (k:TrP g X h h') (hX:∀ env∈l,∀ L,env.frame=some L->¬ X L):FramesOk g' h' l:=
 fun env he=>(F env he).go x k (hX env he)
theorem AHeap.set_same {σ:AHeap} {i:Nat} {o:AObj} (h:σ.get i=some o):σ.set i o=σ:=
 congrArg (AHeap.mk σ.next) (funext fun j=>by
  by_cases q:j=i
  ·rw [q,if_pos rfl]; exact h.symm
  ·exact if_neg q)
section
variable {w:World} {A:Around} {g g':Gh} {σ:AHeap} {s s':Shared} {E:Value->Shared->Prop} {i:Nat} {c:Addr} {fs:List (Str×AV)} {d:Option Addr} {vs:Array Value} {osl:Array (Option Value)} {T:Addr}
theorem FramesOk.go0 {σ':AHeap} {l:List Env} (F:FramesOk g s.heap l) (x:Go w noX g s g' σ' s'):FramesOk g' s'.heap l:=FramesOk.go F x.ext x.tr fun U U U U=>id
theorem FramesOk.fun {h:Heap}:∀ {l:List Env},FramesOk g h l->h.FunFrames ({}:Heap) l
 | [],_=>trivial
 | env::r,F=>(F env (.head _)).casesOn fun hk f k e d=>⟨hk,⟨_,_,f,by simp [Heap.get?],e,fun vs q=>by rw [d] at q; injection q⟩,FramesOk.fun fun e he=>F e (.tail _ he)⟩
inductive FrmI (g:Gh) (h:Heap) (L:Addr):Prop
 | mk {o:Obj} {es:Array DictEntry} {ep:Nat} (k:g.κ L=.frm) (e:h.get? L=some o) (d:o.data=.dict es ep)
theorem FrmI.κ {h:Heap} {L:Addr} (x:FrmI g h L):g.κ L=.frm:=x.casesOn fun k U U=>k
theorem FramesOk.mem {h:Heap} {l:List Env} (F:FramesOk g h l) {b:Addr} (hb:b∈l.filterMap (·.frame)):FrmI g h b:=by
 obtain ⟨env,he,hf⟩:=List.mem_filterMap.mp hb
 obtain ⟨hk,h1,h2,h3,h4⟩:=F env he
 rw [h1] at hf
 (injection hf with e1; subst e1)
 exact ⟨h2,h3,h4⟩
theorem slots_go {h':Heap} {l:List Env} (r:Rel w g σ s) (F:FramesOk g s.heap l) (x:Heap.SlotsOnly (l.filterMap (·.frame)) s.heap h'):Go w noX g s g σ {s with heap:=h'}:=by
 have hn:∀ a,¬ (g.κ a).own->a ∉ l.filterMap (·.frame):=fun a ha hm=>ha (by rw [(F.mem hm).κ]; trivial)
 refine ⟨.refl g,r.privs (fun a b e h1=>(x.2.1 a (hn a h1)).trans e) (fun a o e=>(x.2.2 a o e).imp' _ fun U z=>z) rfl,⟨fun a o e hv=>(x.2.1 a (hn a fun z=>z.noval hv)).trans e,fun a o e hp U=>?_⟩,rfl⟩
 by_cases hm:a∈l.filterMap (·.frame)
 ·obtain ⟨sl,e2⟩:=x.2.2 a o e
  exact ⟨sl,e2,fun hd=>by rw [(F.mem hm).κ] at hd; injection hd⟩
 ·exact ⟨o.slots,(x.2.1 a hm).trans e,fun U=>rfl⟩
theorem frameOf_any {env e0:Env} {outer:List Env} {L:Addr} {Q:Value->Shared->Prop} (hfr:A.frames=some (e0::outer)) (he:e0.frame=env.frame) (hL:env.frame=some L) (F:FramesOk g s.heap (e0::outer))
  (h:∀ h',Heap.SlotsOnly ((e0::outer).filterMap (·.frame)) s.heap h'->Q (.ref L) {s with heap:=h'}):wpAny (model prg w) A (PySem.frameOf env) Q E s:=by
 unfold PySem.frameOf
 refine wpAny_bind (wpAny_frameEnvs hfr ?_)
 have hdw:((e0::outer).dropWhile fun x=>x.frame != env.frame)=e0::outer:=by simp [List.dropWhile,he]
 rw [hdw]
 unfold frameObject
 refine wpAny_bind (wpAny_bind (wpAny_readyFrames_fun F.fun fun h₁ hs₁=>wpAny_pure ?_))
 rw [he,hL]
 exact wpAny_pure (h h₁ hs₁)
theorem ExcD.keep {h h':Heap} (st:Stays g h h') (k:∀ a o,d=Option.some a->h.get? a=Option.some o->h'.get? a=Option.some o) (f:ExcD w g h i fs d):ExcD w g h' i fs d:=by
 induction f using ExcD.casesOn with
 | some f=>obtain ⟨kd,e,r⟩:=f; exact .some ⟨kd,k _ _ rfl e,r.monoV .refl st⟩
 | none e=>exact .none e
theorem upd_oth {h:Heap} {T:Addr} {f:Obj->Obj} {a:Addr} {o:Obj} (e:h.get? a=some o) (ha:a≠T):(h.update T f).get? a=some o:=(Heap.get?_update_other _ _ (Ne.symm ha)).trans e
theorem upd_sz {h:Heap} {T:Addr} {f:Obj->Obj} {o':Obj} (self:(h.update T f).get? T=some o') (a:Addr) (o:Obj) (e:h.get? a=some o):∃ b,(h.update T f).get? a=some b:=by
 by_cases q:a=T
 ·rw [q]; exact ⟨_,self⟩
 ·exact ⟨o,upd_oth e q⟩
theorem Go.same {o:AObj} (r:Rel w g σ s) (hi:σ.get i=some o) (sz:∀ a b,s.heap.get? a=some b->∃ b',s'.heap.get? a=some b') (k:∀ a b,s.heap.get? a=some b->¬ (g.κ a).of i->s'.heap.get? a=some b) (hg:s'.gens=s.gens) (os:s'.os=s.os) (ho:ORep w g s'.heap i o):Go w noX g s g σ s':=by
 have:=Go.set r hi sz k hg os rfl (fun c fs e=>⟨c,fs,e⟩) ho
 rwa [AHeap.set_same hi] at this
theorem exc_upd {vs':Array Value} {f:Obj->Obj} (r:Rel w g σ s) (hi:σ.get i=some (.exc c fs)) (e:s.heap.get? (g.ρ i)=some ⟨.ref c,d,.fields vs,osl⟩) (hf:f ⟨.ref c,d,.fields vs,osl⟩=⟨.ref c,d,.fields vs',osl⟩) (l:5<vs'.size) (e2:vs'[2]?=some .none) (t:TraceO g s.heap i d vs') (x:ExcD w g s.heap i fs d) (c1:clsExc (KF w.params) c=true) (c2:∀ e∈fs,fldOk (KF w.params) c e.1=true) :
  Go w noX g s g σ {s with heap:=s.heap.update (g.ρ i) f}:=by
 have hob:g.κ (g.ρ i)=.obj i:=(r.objs _ _ hi).inj
 have self:=Heap.get?_update_self f e (by rw [hf]; rfl)
 rw [hf] at self
 have k:∀ a b,s.heap.get? a=some b->g.κ a≠.obj i->(s.heap.update (g.ρ i) f).get? a=some b:=fun a b e k=>upd_oth e fun q=>k (q▸hob)
 refine .same (s':={s with heap:=s.heap.update (g.ρ i) f}) r hi (upd_sz self) (fun a b e z=>k a b e fun q=>z (.inl q)) rfl rfl ⟨self,l,e2,t.keep fun T o eT kT ne=>⟨k _ _ eT (by rw [kT]; intro z; injection z),ne⟩,x.keep (fun a o e hv=>k a o e fun q=>by rw [q] at hv; exact hv) fun a o q e'=>?_,c1,c2⟩
 induction x using ExcD.casesOn with
 | none _=>injection q
 | some f=>(injection q with e1; subst e1); obtain ⟨kd,_,_⟩:=f; exact k _ _ e' (by rw [kd]; intro z; injection z)
theorem trace_set {oT:Obj} {ts:Array Value} {f:Array Value->Array Value} (r:Rel w g σ s) (hi:σ.get i=some (.exc c fs)) (O:ExcO w g s.heap i c fs) (hv:s.heap.get? (g.ρ i)=some ⟨.ref c,d,.fields vs,osl⟩) (h3:vs[1]?=some (.ref T)) (hT:s.heap.get? T=some oT) (hd:oT.data=.fields ts) (hf:(f ts).size=ts.size) :
  Go w noX g s g σ {s with heap:=s.heap.update T (Obj.mapFields f)}:=by
 obtain ⟨e,l,e2,t,x,c1,c2⟩:=O
 cases hv.symm.trans e
 induction t using TraceO.casesOn with
 | no _ e1=>cases e1.symm.trans h3
 | yes e1 kT ne eT dT lT=>
  cases e1.symm.trans h3
  cases eT.symm.trans hT
  cases dT.symm.trans hd
  have hfd:=Obj.data_mapFields hd f
  have self:=Heap.get?_update_self (Obj.mapFields f) eT (Obj.isFreed_of_fields hfd)
  have st:Stays g s.heap (s.heap.update T (Obj.mapFields f)):=fun a o e hv=>upd_oth e fun q=>by rw [q,kT] at hv; exact hv
  refine .same (s':={s with heap:=s.heap.update T (Obj.mapFields f)}) r hi (upd_sz self) (fun a b e z=>upd_oth e fun q=>z (.inr (q▸kT))) rfl rfl
   ⟨upd_oth e fun q=>?_,l,e2,.yes e1 kT ne self hfd (hf▸lT),x.keep st fun a o q e=>upd_oth e fun z=>ne (q.trans (congrArg some z)),c1,c2⟩
  have:g.κ (g.ρ i)=.obj i:=(r.objs _ _ hi).inj
  rw [q,kT] at this; injection this
noncomputable def Gh.traced (g:Gh) (i:Nat):Gh:={g with τ:=fun j=>if j=i then true else g.τ j}
theorem Ext.traced (g:Gh) (i:Nat):Ext g (g.traced i):=⟨Nat.le_refl _,fun U U=>rfl,fun U U=>rfl,fun j h=>by
 by_cases q:j=i
 ·exact if_pos q
 ·exact (if_neg q).trans h⟩
theorem Rel.traced (r:Rel w g σ s) (hi:σ.get i=some (.exc c fs)) (hv:s.heap.get? (g.ρ i)=some ⟨.ref c,d,.fields vs,osl⟩) (h3:vs[1]?=some (.ref T)):Rel w (g.traced i) σ s:=by
 refine ⟨r.n,fun j hj=>?_,fun j b e=>?_,r.live,r.sta.go (fun U z=>z) (.refl _ _) rfl⟩
 ·by_cases q:j=i
  ·exact ⟨c,fs,q▸hi⟩
  ·exact r.trc j ((if_neg q).symm.trans hj)
 ·by_cases q:j=i
  ·subst q
   cases hi.symm.trans e
   obtain ⟨e,l,e2,t,x,c1,c2⟩:=r.rep hi
   cases hv.symm.trans e
   refine ⟨(r.objs _ _ hi).lt,(r.objs _ _ hi).inj,ExcO.mk e l e2 ?_ ?_ c1 c2⟩
   ·induction t using TraceO.casesOn with
    | no _ e1=>cases e1.symm.trans h3
    | yes e1 kT ne eT dT lT=>exact .yes e1 kT ne eT dT lT
   ·induction x using ExcD.casesOn with
    | none z=>exact .none z
    | some f=>obtain ⟨k,e,f⟩:=f; exact .some ⟨k,e,f.monoV (Ext.traced g j).v (.refl g _)⟩
  ·exact (r.objs _ _ e).ghost (Ext.traced g i).v rfl (if_neg q) fun U U=>rfl
theorem Go.traced {σ':AHeap} (go:Go w noX g s g' σ' s') (hi:σ'.get i=some (.exc c fs)) (hv:s'.heap.get? (g'.ρ i)=some ⟨.ref c,d,.fields vs,osl⟩) (h3:vs[1]?=some (.ref T)):Go w noX g s (g'.traced i) σ' s':=⟨go.ext.trans (.traced _ i),go.rel.traced hi hv h3,go.tr,go.os⟩
set_option tactic.hygienic true in
theorem trace_new {o:Obj} {ts:Array Value} (r:Rel w g σ s) (hi:σ.get i=some (.exc c fs)) (ho:o.data=.fields ts) (hsz:3<ts.size) :
  ∃ g',Go w noX g s g' σ {s with heap:=(s.heap.push o).update (g.ρ i) (Obj.mapFields (·.setIfInBounds 1 (.ref s.heap.objs.size)))}∧g'.τ i=true:=by
 have hf:=r.free s.heap.objs.size (Nat.le_refl _)
 have fr:o.isFreed=false:=Obj.isFreed_of_fields ho
 have eT:=Heap.get?_push_size s.heap fr
 have go1:=(Go.push (X:=noX) r o).mark (a:=s.heap.objs.size) (.aux i) ⟨_,eT⟩ hf
 obtain ⟨e,l,e2,t,x,c1,c2⟩:=go1.rel.rep hi
 rename_i vs d osl
 have k1v:(vs.setIfInBounds 1 (.ref s.heap.objs.size))[1]?=some (.ref s.heap.objs.size):=by simp [show 1<vs.size by lia]
 have ne:d≠some s.heap.objs.size:=fun q=>by
  induction x using ExcD.casesOn with
  | none e=>injection q
  | some f=>obtain ⟨_,e,_⟩:=f; (injection q with e1; subst e1); cases eT.symm.trans e; injection ho
 have go2:=exc_upd (f:=Obj.mapFields (·.setIfInBounds 1 (.ref s.heap.objs.size))) go1.rel hi e rfl (by rw [Array.size_setIfInBounds]; exact l) (by rw [Array.getElem?_setIfInBounds_ne (by decide)]; exact e2) (.yes k1v (Gh.mark_self _ _ _) ne eT ho hsz) x c1 c2
 exact ⟨_,(go1.trans go2).traced hi (Heap.get?_update_self _ e rfl) k1v,if_pos rfl⟩
set_option tactic.hygienic true in
theorem noteFrame_any {env e0:Env} {outer:List Env} {Q:Unit->Shared->Prop} (r:Rel w g σ s) (hi:σ.get i=some (.exc c fs)) (hfr:A.frames=some (e0::outer)) (he:e0.frame=env.frame)
  (F:FramesOk g s.heap (e0::outer)) (h:∀ g' s',Go w noX g s g' σ s'->g'.τ i=true->Q () s'):wpAny (model prg w) A (noteFrame (.ref (g.ρ i)) env) Q E s:=by
 obtain ⟨hk,f1,f2,f3,f4⟩:=F e0 (.head _)
 rename_i L oL es ep
 have hL:env.frame=some L:=he▸f1
 have entry:∀ (s₁:Shared) (head:Value) (b:Bool),Go w noX g s g σ s₁->
   wpAny (model prg w) A (do let a ← PySem.frameOf env; let pl ← entryPlaceOf L b; let n ← EntryCells.newEntry head a .none (rawInt L) .none pl; setField (.ref (g.ρ i)) 1 n) Q E s₁:=by
  intro s₁ head b go
  refine wpAny_bind (frameOf_any hfr he hL (F.go0 go) fun h₁ hs=>?_)
  have go2:=slots_go go.rel (F.go0 go) hs
  refine wpAny_bind (wpAny_entryPlaceOf fun pl hpl=>?_)
  unfold EntryCells.newEntry newFields
  refine wpAny_bind (wpAny_newObj_type ?_ (hpl.sizeOk5 _ _ _ _ _))
  obtain ⟨g',go3,ht⟩:=trace_new (o:={cls:=.type "traceback",data:=.fields ([head,.ref L,.none,rawInt L,.none]++(if pl.isEmpty then List.replicate 6 Value.none else pl)).toArray}) go2.rel hi rfl (by simp only [List.size_toArray,List.length_append,List.length_cons,List.length_nil]; lia)
  obtain ⟨e,l,_⟩:=go2.rel.rep hi
  exact wpAny_setField (s:={s₁ with heap:=h₁.push _}) (Heap.get?_push_of_some _ e) rfl (by lia) (h g' _ ((go.trans go2).trans go3) ht)
 unfold noteFrame
 simp only [hL]
 have O:ExcO w g s.heap i c fs:=r.rep hi
 obtain ⟨e,l,e2,t,x,c1,c2⟩:=id O
 induction t using TraceO.casesOn with
 | no _ e1=>
  refine wpAny_bind (wpAny_field e rfl e1 ?_)
  rw [if_neg (by decide)]
  exact entry s .none _ (.refl r)
 | yes e1 kT ne eT dT lT=>
  rename_i T oT ts
  refine wpAny_bind (wpAny_field e rfl e1 ?_)
  rw [if_pos (show (Value.ref T != Value.none)=true from by simp)]
  refine wpAny_bind (wpAny_field eT dT (x:=ts[3]) (by simp [lT]) ?_)
  by_cases hq:(ts[3]==rawInt L)=true
  ·rw [if_pos hq]
   exact wpAny_pure (h _ s ((Go.refl r).traced hi e e1) (if_pos rfl))
  ·rw [if_neg hq]
   exact wpAny_bind (wpAny_setField eT dT lT (entry _ (.ref T) _ (trace_set (f:=(·.setIfInBounds 3 .none)) r hi O e e1 eT dT (by simp))))
theorem setFlight_any {fr:Option Addr} {Q:Unit->Shared->Prop} (r:Rel w g σ s) (hi:σ.get i=some (.exc c fs))
  (h:∀ s',Go w noX g s g σ s'->Q () s'):wpAny (model prg w) A (setFlight (.ref (g.ρ i)) fr) Q E s:=by
 have O:ExcO w g s.heap i c fs:=r.rep hi
 obtain ⟨e,l,e2,t,x,c1,c2⟩:=id O
 unfold setFlight
 induction t using TraceO.casesOn with
 | no _ e1=>
  refine wpAny_bind (wpAny_field e rfl e1 ?_)
  rw [if_neg (by decide)]
  exact wpAny_pure (h s (.refl r))
 | yes e1 kT ne eT dT lT=>
  refine wpAny_bind (wpAny_field e rfl e1 ?_)
  rw [if_pos (show (Value.ref _ != Value.none)=true from by simp)]
  exact wpAny_setField eT dT lT (h _ (trace_set (f:=(·.setIfInBounds 3 _)) r hi O e e1 eT dT (by simp)))
theorem traced_field {Q:Value->Shared->Prop} (r:Rel w g σ s) (hi:σ.get i=some (.exc c fs)) (ht:g.τ i=true) (h:∀ T,Q (.ref T) s):wpAny (model prg w) A (field (.ref (g.ρ i)) 1) Q E s:=by
 obtain ⟨e,l,e2,t,x,c1,c2⟩:=r.rep hi
 induction t using TraceO.casesOn with
 | no z _=>rw [ht] at z; injection z
 | yes e1=>exact wpAny_field e rfl e1 (h _)
theorem passOn_any {α:Type} {what:String} {env:Env} {Q:α->Shared->Prop} (r:Rel w g σ s) (hi:σ.get i=some (.exc c fs)) (ht:g.τ i=true)
  (h:∀ s',Go w noX g s g σ s'->E (.ref (g.ρ i)) s'):wpAny (model prg w) A (PySem.passOn what (.ref (g.ρ i)) env:Sem α) Q E s:=by
 unfold PySem.passOn
 refine wpAny_bind (traced_field r hi ht fun T=>?_)
 rw [if_neg (show ¬ ((Value.ref T==Value.none)=true) from by simp)]
 exact wpAny_bind (setFlight_any r hi fun s' go=>wpAny_throw (h s' go))
theorem cameBack_any {env:Env} (r:Rel w g σ s) (hi:σ.get i=some (.exc c fs)) (ht:g.τ i=true)
  (h:∀ s',Go w noX g s g σ s'->E (.ref (g.ρ i)) s'):cameBackBy (model prg w) A env E (.ref (g.ρ i)) s:=by
 unfold cameBackBy
 refine wpAny_bind (traced_field r hi ht fun T=>?_)
 rw [if_neg (show ¬ ((Value.ref T==Value.none)=true) from by simp)]
 exact setFlight_any r hi h
theorem leaving_any {env e0:Env} {outer:List Env} {Q:Unit->Shared->Prop} (r:Rel w g σ s) (hi:σ.get i=some (.exc c fs)) (hfr:A.frames=some (e0::outer)) (he:e0.frame=env.frame)
  (F:FramesOk g s.heap (e0::outer)) (h:∀ g' s',Go w noX g s g' σ s'->g'.ρ i=g.ρ i->Q () s'):wpAny (model prg w) A (leaving env (.ref (g.ρ i))) Q E s:=by
 unfold leaving
 refine wpAny_bind (noteFrame_any r hi hfr he F fun g' s' go ht=>?_)
 have hρ:g'.ρ i=g.ρ i:=go.ext.ρ i (r.objs _ _ hi).lt
 rw [← hρ]
 exact setFlight_any go.rel hi fun s'' go'=>h g' s'' (go.trans go') hρ
end
theorem lookup_zip_none {α:Type} {x:Str}:∀ {ps:List Str} {vs:List α},x ∉ ps->(ps.zip vs).lookup x=none
 | [],vs,_=>by simp
 | p::ps,[],_=>by simp
 | p::ps,v::vs,h=>by
  rw [List.mem_cons,not_or] at h
  rw [List.zip_cons_cons,List.lookup_cons,beq_eq_false_iff_ne.mpr h.1]
  exact lookup_zip_none h.2
theorem lookup_zip_some {α:Type} {x:Str}:∀ {ps:List Str} {vs:List α},x∈ps.take vs.length->((ps.zip vs).lookup x).isSome=true
 | [],vs,h=>by simp at h
 | p::ps,[],h=>by simp at h
 | p::ps,v::vs,h=>by
  rw [List.length_cons,List.take_succ_cons,List.mem_cons] at h
  rw [List.zip_cons_cons,List.lookup_cons]
  induction q:x==p using Bool.casesOn
  ·exact lookup_zip_some (h.resolve_left (beq_eq_false_iff_ne.mp q))
  ·rfl
theorem fm_congr {α β:Type} {f g:α->Option β}:∀ {l:List α},(∀ n∈l,f n=g n)->l.filterMap f=l.filterMap g
 | [],_=>rfl
 | a::l,h=>by rw [List.filterMap_cons,List.filterMap_cons,h a (.head _),fm_congr fun n hn=>h n (.tail _ hn)]
theorem binds_back {α:Type}:∀ {ps:List Str} {vs:List α},ps.Nodup->ps.length=vs.length->ps.filterMap (fun n=>((ps.zip vs).lookup n).map (n,·))=ps.zip vs
 | [],[],_,_=>rfl
 | p::ps,v::vs,h,hl=>by
  rw [List.nodup_cons] at h
  rw [List.zip_cons_cons,List.filterMap_cons]
  have e1:(((p,v)::ps.zip vs).lookup p).map (p,·)=some (p,v):=by rw [List.lookup_cons,beq_self_eq_true]; rfl
  rw [e1]
  refine congrArg ((p,v)::·) ?_
  refine (fm_congr fun n hn=>?_).trans (binds_back h.2 (Nat.succ.inj hl))
  rw [List.lookup_cons,beq_eq_false_iff_ne.mpr (by rintro rfl; exact h.1 hn)]
noncomputable abbrev bindF (x:Str×Value) (r:List (Str×Value)):Sem (ForInStep (List (Str×Value))):=
 if (r.lookup x.1).isNone=true then pure (.yield (r++[(x.1,x.2)])) else pure (.yield r)
theorem bind1 {f:Str×Value->List (Str×Value)->Sem (ForInStep (List (Str×Value)))} (hf:∀ x r,f x r=bindF x r):∀ {L slots L2:List (Str×Value)},(∀ e∈L,(slots.lookup e.1).isSome=true)->forIn (L++L2) slots f=forIn L2 slots f
 | [],_,_,_=>rfl
 | e::L,slots,L2,h=>by
  have h1:=h e (.head _)
  rw [List.cons_append,List.forIn_cons,hf,bindF,if_neg (by rw [Option.isNone_iff_eq_none]; intro q; rw [q] at h1; injection h1),pure_bind]
  exact bind1 hf fun e he=>h e (.tail _ he)
theorem bind2 {f:Str×Value->List (Str×Value)->Sem (ForInStep (List (Str×Value)))} (hf:∀ x r,f x r=bindF x r):∀ {L slots:List (Str×Value)},(L.map (·.1)).Nodup->(∀ e∈L,slots.lookup e.1=none)->forIn L slots f=pure (slots++L)
 | [],slots,_,_=>by rw [List.append_nil]; rfl
 | e::L,slots,hn,h=>by
  rw [List.map_cons,List.nodup_cons] at hn
  rw [List.forIn_cons,hf,bindF,if_pos (by rw [Option.isNone_iff_eq_none]; exact h e (.head _)),pure_bind]
  show forIn L (slots++[e]) f=_
  rw [bind2 hf hn.2 fun e' he'=>?_]
  ·rw [List.append_assoc]; rfl
  ·rw [List.lookup_append,h e' (.tail _ he'),Option.none_or,List.lookup_cons]
   rw [beq_eq_false_iff_ne.mpr (by rintro q; exact hn.1 (q▸List.mem_map_of_mem he'))]
   rfl
theorem zip_take {α:Type}:∀ (ps:List Str) (cs:List α),(ps.take cs.length).zip cs=ps.zip cs
 | [],cs=>by rw [List.take_nil]
 | p::ps,[]=>rfl
 | p::ps,c::cs=>congrArg ((p,c)::·) (zip_take ps cs)
theorem bindLoop {f:Str×Value->List (Str×Value)->Sem (ForInStep (List (Str×Value)))} (hf:∀ x r,f x r=bindF x r) {ps:List Str} {cargs ds:List Value} (hn:ps.Nodup) (h1:cargs.length<=ps.length) (h2:ps.length<=cargs.length+ds.length) (h3:ds.length<=ps.length) :
  forIn ((ps.drop (ps.length - ds.length)).zip ds) (ps.zip cargs) f=pure (ps.zip (cargs++ds.drop (cargs.length+ds.length - ps.length))):=by
 have e0:(ps.drop (ps.length - ds.length)).zip ds=(((ps.drop (ps.length - ds.length)).zip ds).take (cargs.length+ds.length - ps.length))++((ps.drop cargs.length).zip (ds.drop (cargs.length+ds.length - ps.length))):=by
  conv=>lhs; rw [← List.take_append_drop (cargs.length+ds.length - ps.length) ((ps.drop (ps.length - ds.length)).zip ds)]
  congr 1
  rw [List.zip,List.drop_zipWith,List.drop_drop]
  congr 2
  lia
 have hT:(ps.take cargs.length).length=cargs.length:=by rw [List.length_take]; lia
 have e1:∀ D:List Value,ps.zip (cargs++D)=ps.zip cargs++(ps.drop cargs.length).zip D:=fun D=>by
  conv=>lhs; rw [← List.take_append_drop cargs.length ps]
  rw [List.zip_append hT,zip_take]
 rw [e0,bind1 hf,bind2 hf,e1]
 ·rw [List.map_fst_zip (by simp; lia)]
  exact hn.sublist (List.drop_sublist _ _)
 ·intro e he
  obtain ⟨h,-⟩:=List.of_mem_zip (show (e.1,e.2)∈_ from he)
  have hn':=hn
  rw [← List.take_append_drop cargs.length ps,List.nodup_append] at hn'
  rw [← zip_take]
  exact lookup_zip_none fun q=>hn'.2.2 _ q _ h rfl
 ·intro e he
  refine lookup_zip_some ?_
  rw [List.zip,List.take_zipWith,← List.zip] at he
  obtain ⟨h,-⟩:=List.of_mem_zip (show (e.1,e.2)∈_ from he)
  rw [List.take_drop] at h
  have h:=List.mem_of_mem_drop h
  rwa [show ps.length - ds.length+(cargs.length+ds.length - ps.length)=cargs.length by lia] at h
theorem bindArgs_eq {fd:FuncData} {cargs:List Value} (h1:fd.params.posonlyargs=[]) (h2:fd.params.vararg=none) (h3:fd.params.kwonlyargs=[]) (h4:fd.params.kwarg=none):∃ (B1 B2:Option (Array Value)->Sem (List (Str×Value))) (f:Str×Value->List (Str×Value)->Sem (ForInStep (List (Str×Value)))) (G:List (Str×Value)->List (Str×Value)),
  (∀ x r,f x r=bindF x r)∧(∀ l,G l=((fd.params.args.map Arg.arg)++[]).filterMap fun n=>(l.lookup n).map (n,·))∧bindArgs fd ⟨cargs,[]⟩=(seqItems? fd.defaults >>= fun o=>
   let ds:=(o.getD #[]).toList
   let ps:=fd.params.args.map Arg.arg
   let dr:=ds.drop (ds.length - ps.length)
   if (decide (cargs.length>ps.length)&&true)=true then B1 o else
   if (!((ps.take (ps.length - dr.length)).filter fun n=>((ps.zip cargs).lookup n).isNone).isEmpty)=true then B2 o else
   (forIn ((ps.drop (ps.length - dr.length)).zip dr) (ps.zip cargs) f >>= fun l=>pure (G l))):=by
 obtain ⟨nm,qn,⟨po,as,va,ko,kd,kw,df⟩,bd,sc,gl,cl,dfl,kdf,doc,pm,an,co,ct,bu⟩:=fd
 dsimp only at h1 h2 h3 h4
 subst h1 h2 h3 h4
 exact ⟨_,_,_,_,fun x r=>rfl,fun l=>rfl,rfl⟩
structure OkFn (K:Frag) (fd:FuncData):Prop where
 po:fd.params.posonlyargs=[]
 va:fd.params.vararg=none
 ko:fd.params.kwonlyargs=[]
 kw:fd.params.kwarg=none
 clo:fd.closure=[]
 gl:fd.globals=mainGlobals
 bu:fd.builtins=builtinsNs
 gen:fd.scope.isGenerator=false
 cor:fd.scope.isCoroutine=false
 kind:fd.scope.kind=.function
 dbg:fd.scope.names.lookup ("__debug__":Str)=none
 par:∀ a∈fd.params.args,fd.scope.names.lookup a.arg=some .local∨fd.scope.names.lookup a.arg=some .cell
 nd:(fd.params.args.map Arg.arg).Nodup
 code:codeIn K fd.code fd.qualname=true
theorem okFn_of {K:Frag} {fd:FuncData} (h:okFn K fd=true):OkFn K fd:=by
 unfold okFn at h
 simp only [Bool.and_eq_true,List.isEmpty_iff,Option.isNone_iff_eq_none,Bool.not_eq_true',beq_iff_eq,List.all_eq_true,Bool.or_eq_true,decide_eq_true_eq] at h
 obtain ⟨⟨⟨⟨⟨⟨⟨⟨⟨⟨⟨⟨⟨h1,h2⟩,h3⟩,h4⟩,h5⟩,h6⟩,h7⟩,h8⟩,h9⟩,h10⟩,h11⟩,h12⟩,h13⟩,h14⟩:=h
 exact ⟨h1,h2,h3,h4,h5,h6,h7,h8,h9,h10,h11,h12,h13,h14⟩
noncomputable def DefsP (w:World) (s:Shared) (v:Value) (ds:List Value):Prop:=∀ (B:Around) (E:Value->Shared->Prop) (R:Option (Array Value)->Shared->Prop),(∀ o,(o.getD #[]).toList=ds->R o s)->wpAny (model prg w) B (seqItems? v) R E s
structure LenI (ps:List Str) (a d:Nat):Prop where
 l1:a<=ps.length
 l2:ps.length<=a+d
 l3:d<=ps.length
theorem bindArgs_any {K:Frag} {w:World} {A:Around} {s:Shared} {Q:List (Str×Value)->Shared->Prop} {E:Value->Shared->Prop} {fd:FuncData} {cargs ds:List Value} (F:OkFn K fd) (l:LenI (fd.params.args.map Arg.arg) cargs.length ds.length) (hd:DefsP w s fd.defaults ds)
  (h:Q ((fd.params.args.map Arg.arg).zip (cargs++ds.drop (cargs.length+ds.length - (fd.params.args.map Arg.arg).length))) s):wpAny (model prg w) A (bindArgs fd ⟨cargs,[]⟩) Q E s:=by
 obtain ⟨B1,B2,f,G,hf,hG,e⟩:=bindArgs_eq (cargs:=cargs) F.po F.va F.ko F.kw
 have hn:=F.nd
 rw [e]
 generalize fd.params.args.map Arg.arg=ps at *
 obtain ⟨l1,l2,l3⟩:=l
 refine wpAny_bind (hd _ _ _ fun o ho=>?_)
 dsimp only
 rw [ho,if_neg (by rw [Bool.and_true,decide_eq_true_eq]; exact Nat.not_lt.mpr l1),Nat.sub_eq_zero_of_le l3,List.drop_zero,if_neg,bindLoop hf hn l1 l2 l3,pure_bind,hG,List.append_nil,binds_back hn (by rw [List.length_append,List.length_drop]; lia)]
 ·exact wpAny_pure h
 ·rw [Bool.not_eq_true',Bool.not_eq_false,List.isEmpty_iff,List.filter_eq_nil_iff]
  intro n hn' q
  rw [Option.isNone_iff_eq_none] at q
  have:=lookup_zip_some (vs:=cargs) ((List.take_sublist_take_left (by lia:ps.length - ds.length<=cargs.length)).subset hn')
  rw [q] at this; injection this
structure Amb (A:Around) (g:Gh) (h:Heap) (fl:List Env) (n k:Nat) (q:Option Nat):Prop where
 frames:A.frames=some fl
 ok:FramesOk g h fl
 hd:A.handled=q.map fun i=>Value.ref (g.ρ i)
 lt:∀ i,q=some i->i<g.n
 tr:∀ i,q=some i->g.τ i=true
 depth:A.depth+3*n+3+k<recursionLimit
 units:A.units+30*n+100+5*k<cLine
theorem Amb.stmt {A:Around} {g g':Gh} {h h':Heap} {fl:List Env} {n j:Nat} {hd:Option Nat} (a:Amb A g h fl n j hd) (x:Ext g g') (F:FramesOk g' h' fl):Amb A g' h' fl n j hd:=by
 refine ⟨a.frames,F,?_,fun i e=>Nat.lt_of_lt_of_le (a.lt i e) x.n,fun i e=>x.τ i (a.tr i e),a.depth,a.units⟩
 rw [a.hd]
 induction hd using Option.casesOn with
 | none=>rfl
 | some i=>exact congrArg (fun z=>some (Value.ref z)) (x.ρ i (a.lt i rfl)).symm
theorem Amb.go {w:World} {A:Around} {g g':Gh} {σ':AHeap} {s s':Shared} {fl:List Env} {n j:Nat} {hd:Option Nat} (a:Amb A g s.heap fl n j hd) (x:Go w noX g s g' σ' s'):Amb A g' s'.heap fl n j hd:=a.stmt x.ext (a.ok.go0 x)
theorem Amb.less {A:Around} {g:Gh} {h:Heap} {fl:List Env} {n k:Nat} (j:Nat) {hd:Option Nat} (a:Amb A g h fl n k hd) (hj:j<=k):Amb A g h fl n j hd:=
 ⟨a.frames,a.ok,a.hd,a.lt,a.tr,by have:=a.depth; lia,by have:=a.units; lia⟩
structure Fm where
 w:World
 sc:Scope
 env:Env
 fl:List Env
noncomputable abbrev Fm.cx (f:Fm) (hd:Option Nat) (call:CallT):Cx:=⟨f.w.params,f.sc,hd,call⟩
structure FSR (f:Fm) (g:Gh) (m:Loc) (h:Heap):Prop where
 fr:FRp g f.sc f.env m h
 fk:FramesOk g h f.fl
inductive FlR (g:Gh) (h:Heap):Fl->Flow->Prop
 | next:FlR g h .next .next
 | brk:FlR g h .brk .brk
 | cont:FlR g h .cont .cont
 | ret {v:AV} {cv:Value} (r:VRep g h v cv):FlR g h (.ret v) (.ret cv)
noncomputable def SameOff (V:List Str) (m m':Loc):Prop:=∀ y,y ∉ V->m' y=m y
theorem SameOff.refl {V:List Str} {m:Loc}:SameOff V m m:=fun U U=>rfl
theorem SameOff.trans {V:List Str} {m m' m'':Loc} (a:SameOff V m m') (b:SameOff V m' m''):SameOff V m m'':=fun y hy=>(b y hy).trans (a y hy)
theorem SameOff.more {V V':List Str} {m m':Loc} (a:SameOff V m m') (h:∀ y,y∈V->y∈V'):SameOff V' m m':=fun y hy=>a y fun q=>hy (h y q)
theorem SameOff.put {V:List Str} {x:Str} {v:Option AV} {m:Loc} (h:x∈V):SameOff V m (m.put x v):=fun y hy=>if_neg (by rintro rfl; exact hy h)
structure GoS (f:Fm) (X:Addr->Prop) (V:List Str) (m:Loc) (g:Gh) (s:Shared) (g':Gh) (σ':AHeap) (m':Loc) (s':Shared):Prop where
 go:Go f.w X g s g' σ' s'
 fs:FSR f g' m' s'.heap
 so:SameOff V m m'
inductive OkS (f:Fm) (X:Addr->Prop) (V:List Str) (m:Loc) (g:Gh) (s:Shared) (Q:SQ) (cf:Flow) (s':Shared):Prop
 | mk {fa:Fl} {g':Gh} {σ':AHeap} {m':Loc} (go:GoS f X V m g s g' σ' m' s') (r:FlR g' s'.heap fa cf) (q:Q fa σ' m')
inductive ErS (f:Fm) (X:Addr->Prop) (V:List Str) (m:Loc) (g:Gh) (s:Shared) (E:SX):Value->Shared->Prop
 | mk {s':Shared} {i:Nat} {g':Gh} {σ':AHeap} {m':Loc} {c:Addr} {fs:List (Str×AV)} (go:GoS f X V m g s g' σ' m' s') (hi:σ'.get i=some (.exc c fs)) (q:E i σ' m'):ErS f X V m g s E (.ref (g'.ρ i)) s'
noncomputable def WS (f:Fm) (V:List Str) (A:Around) (m:Loc) (g:Gh) (s:Shared) (c:Sem Flow) (Q:SQ) (E:SX):Prop:=wpAny (model prg f.w) A c (OkS f (ownX f.env) V m g s Q) (ErS f (ownX f.env) V m g s E) s
inductive CallO (w:World) (g:Gh) (s:Shared) (Q:EQ) (E:EX):Result->Shared->Prop
 | ret {cv:Value} {s':Shared} (q:OkE w g s VRep Q cv s'):CallO w g s Q E (.ok (.ret cv)) s'
 | err {e:Value} {s':Shared} (q:ErE w g s E e s'):CallO w g s Q E (.error e) s'
noncomputable def CallP (w:World) (n:Nat) (call:CallT):Prop:=
 ∀ (hd:Option Nat) (a:Addr) (args:List AV) (cargs:List Value) (A:Around) (fl:List Env) (g:Gh) (σ:AHeap) (s:Shared) (Q:EQ) (E:EX),Rel w g σ s->VReps g s.heap args cargs->Amb A g s.heap fl n 0 hd->
  call hd a args σ Q E->codeAny (model prg w) A (.call (.ref a) ⟨cargs,[]⟩) (CallO w g s Q E) s
noncomputable def frk (env:Env):Addr->KdP:=fun b=>if b=env.locals then .frm else .priv
section
variable {w:World} {A:Around} {g:Gh} {σ:AHeap} {s:Shared}
theorem zip_rep {h:Heap} {x:Str} {v:AV}:∀ {ps:List Str} {vals:List AV} {cvals:List Value},VReps g h vals cvals->(ps.zip vals).lookup x=some v->∃ cv,(ps.zip cvals).lookup x=some cv∧VRep g h v cv
 | [],_,_,_,e=>by simp at e
 | p::ps,[],_,_,e=>by simp at e
 | p::ps,a::as,_,r,e=>by
  obtain ⟨ra,rs⟩:=r.inv
  rw [List.zip_cons_cons,List.lookup_cons] at e ⊢
  induction q:x==p using Bool.casesOn <;> rw [q] at e
  ·exact zip_rep rs e
  ·(injection e with e1; subst e1); exact ⟨_,rfl,ra⟩
theorem fst_none {x:Str} {v:Value} {r:List (Str×Value)} (h:x ∉ r.map (·.1)):r.lookup x=none:=by
 rw [List.lookup_eq_none_iff]
 intro p hp
 exact bne_iff_ne.mpr fun e=>h (List.mem_map.mpr ⟨p,hp,e.symm⟩)
theorem bindL_look {kd:Str->Option NameKind} {x:Str} (hx:kd x=some .local):∀ {binds:List (Str×Value)} {m:Str->Option Value},(binds.map (·.1)).Nodup->bindL kd binds m x=(binds.lookup x).or (m x)
 | [],m,_=>rfl
 | (n,v)::r,m,h=>by
  rw [List.map_cons,List.nodup_cons] at h
  unfold bindL
  rw [bindL_look hx h.2,List.lookup_cons]
  induction q:x==n using Bool.casesOn
  ·by_cases hk:kd n=some .local
   ·rw [if_pos hk,if_neg (beq_eq_false_iff_ne.mp q)]
   ·rw [if_neg hk]
  ·cases beq_iff_eq.mp q
   rw [if_pos hx,if_pos rfl,fst_none (v:=v) h.1]; rfl
theorem bindC_look {kd:Str->Option NameKind} {x:Str} (hx:kd x≠some .local):∀ {binds:List (Str×Value)} {m:Str->Option Value},(binds.map (·.1)).Nodup->bindC kd binds m x=(binds.lookup x).or (m x)
 | [],m,_=>rfl
 | (n,v)::r,m,h=>by
  rw [List.map_cons,List.nodup_cons] at h
  unfold bindC
  rw [bindC_look hx h.2,List.lookup_cons]
  induction q:x==n using Bool.casesOn
  ·by_cases hk:kd n=some .local
   ·rw [if_pos hk]
   ·rw [if_neg hk,if_neg (beq_eq_false_iff_ne.mp q)]
  ·cases beq_iff_eq.mp q
   rw [if_neg hx,if_pos rfl,fst_none (v:=v) h.1]; rfl
theorem cellsFrom_has {x:Str}:∀ (names:List (Str×NameKind)) (n:Nat) (acc:List (Str×Addr)),(x,NameKind.cell)∈names∨(acc.lookup x).isSome=true->((cellsFrom n names acc).lookup x).isSome=true
 | [],n,acc,h=>h.elim (fun z=>by cases z) id
 | (y,k)::r,n,acc,h=>by
  have tl:k≠.cell->(x,NameKind.cell)∈r∨(acc.lookup x).isSome=true:=fun hk=>h.imp (fun h=>(List.mem_cons.mp h).resolve_left fun e=>hk (congrArg Prod.snd e).symm) id
  unfold cellsFrom
  by_cases hk:k=.cell
  ·subst hk
   refine cellsFrom_has r _ _ ?_
   rw [List.lookup_cons]
   induction q:x==y using Bool.casesOn
   ·exact h.imp (fun h=>(List.mem_cons.mp h).resolve_left fun e=>by (injection e with e1 e2; cases e1; cases e2); rw [beq_self_eq_true] at q; injection q) id
   ·exact .inr rfl
  ·induction k using NameKind.casesOn <;> first | exact (hk rfl).elim | exact cellsFrom_has r _ _ (tl hk)
theorem tupOf_inv {v:AV} {xs:List AV} (h:tupOf v=some xs):v=.tup xs:=by induction v using AV.casesOn <;> (first | (injection h; done) | (injection h with e1; subst e1)); rfl
inductive BindI (w:World) (g:Gh) (s:Shared) (fd:FuncData) (args:List AV):Loc->Prop
 | mk {ds:List AV} {cds:List Value} (hds:VReps g s.heap ds cds) (l:LenI (fd.params.args.map Arg.arg) args.length ds.length) (hc:DefsP w s fd.defaults cds):BindI w g s fd args fun x=>((fd.params.args.map Arg.arg).zip (args++ds.drop (args.length+ds.length - (fd.params.args.map Arg.arg).length))).lookup x
inductive DefsI (w:World) (g:Gh) (s:Shared) (v:Value) (ds:List AV):Prop
 | mk {cds:List Value} (hds:VReps g s.heap ds cds) (hc:DefsP w s v cds)
theorem defs_inv {v:Value} {ds:List AV} (r:Rel w g σ s) (h:defsA (KF w.params) v=some ds):DefsI w g s v ds:=by
 have T:(absV 3 (KF w.params) v).bind tupOf=some ds->DefsI w g s v ds:=fun h=>by
  obtain ⟨a,h1,h2⟩:=Option.bind_eq_some_iff.mp h
  have q:=absV_rep r 3 h1
  rw [tupOf_inv h2] at q
  obtain ⟨k,e,r⟩:=q.inv
  exact ⟨r,fun B E R h=>wpAny_seqItems e rfl (h _ rfl)⟩
 induction v using Value.casesOn with
 | none=>(injection h with e1; subst e1); exact ⟨.nil,fun B E R h=>wpAny_pure (h none rfl)⟩
 | _=>exact T h
theorem bindA_inv {fd:FuncData} {args:List AV} {m:Loc} (r:Rel w g σ s) (hm:bindA (KF w.params) fd args=some m):BindI w g s fd args m:=by
 obtain ⟨ds,h1,h2⟩:=Option.bind_eq_some_iff.mp hm
 obtain ⟨hds,hc⟩:=defs_inv r h1
 unfold bindP at h2
 by_cases q:args.length<=(fd.params.args.map Arg.arg).length∧(fd.params.args.map Arg.arg).length<=args.length+ds.length∧ds.length<=(fd.params.args.map Arg.arg).length
 ·rw [if_pos q] at h2
  (injection h2 with e1; subst e1)
  exact ⟨hds,⟨q.1,q.2.1,q.2.2⟩,hc⟩
 ·rw [if_neg q] at h2; injection h2
end
theorem zip_fst {α β:Type}:∀ (a:List α) (b:List β),((a.zip b).map (·.1)).Sublist a
 | [],_=>.slnil
 | _::_,[]=>List.nil_sublist _
 | _::a,_::b=>.cons_cons _ (zip_fst a b)
noncomputable def BodyP (w:World) (n:Nat) (fd:FuncData) (body:List Stmt) (V:List Str) (x:Option Nat->AHeap->Loc->SQ->SX->Prop):Prop:=
 ∀ (hd:Option Nat) (env:Env) (fl:List Env) (A:Around) (g:Gh) (σ:AHeap) (m:Loc) (s:Shared) (Q:SQ) (E:SX),Rel w g σ s->FSR ⟨w,fd.scope,env,env::fl⟩ g m s.heap->Amb A g s.heap (env::fl) n 2 hd->
  x hd σ m Q E->WS ⟨w,fd.scope,env,env::fl⟩ V A m g s (execs body env) Q E
section
variable {w:World} {A:Around} {g:Gh} {σ:AHeap} {s:Shared}
inductive FnInv (P:Params) (call:CallT) (hd:Option Nat) (a:Addr) (args:List AV) (σ:AHeap) (Q:EQ) (E:EX):Prop
 | mk {c:Value} {o:Option Addr} {fd:FuncData} {sl:Array (Option Value)} {body:List Stmt} {m:Loc} (h1:(KF P).lookup a=some ⟨c,o,.func fd,sl⟩) (h2:fd.body=.stmts body) (h3:okFn (KF P) fd=true) (h4:bindA (KF P) fd args=some m)
  (h5:vcBlk (vcN 12 ⟨P,fd.scope,hd,call⟩) body σ m (fun f σ U=>match f with | .ret v=>Q v σ | .next=>Q .none σ | _=>False) fun i σ U=>E i σ)
set_option tactic.hygienic true in
theorem vcFn_inv {P:Params} {call:CallT} {hd:Option Nat} {a:Addr} {args:List AV} {Q:EQ} {E:EX} (h:vcFn P call hd a args σ Q E):FnInv P call hd a args σ Q E:=by
 unfold vcFn at h
 split at h
 ·rename_i c o fd sl h1
  split at h
  ·rename_i body h2
   by_cases h3:okFn (KF P) fd=true
   ·rw [if_pos h3] at h
    obtain ⟨m,h4,h5⟩:=someP_inv h
    exact ⟨h1,h2,h3,h4,h5⟩
   ·rw [if_neg h3] at h; exact h.elim
  ·exact h.elim
 ·exact h.elim
structure FrameNew (w:World) (A:Around) (fd:FuncData) (fl:List Env) (n:Nat) (hd:Option Nat) (g:Gh) (σ:AHeap) (s:Shared) (env:Env) (m:Loc) (s1:Shared) (g1:Gh):Prop where
 r:Rel w g1 σ s1
 F:FSR ⟨w,fd.scope,env,env::fl⟩ g1 m s1.heap
 am:Amb (A.deeper env) g1 s1.heap (env::fl) n 2 hd
 back:∀ g' σ' s',Go w (ownX env) g1 s1 g' σ' s'->Go w noX g s g' σ' s'
structure EnvI (fd:FuncData) (s:Shared) (env:Env):Prop where
 fr:env.frame=some env.locals
 lo:env.locals=s.heap.objs.size
 sc:env.scope=fd.scope
 gl:env.globals=fd.globals
 bu:env.builtins=fd.builtins
 ce:env.cells=cellsFrom (s.heap.objs.size+1) fd.scope.names []
theorem frame_rep {vals:List AV} {cvals:List Value} {env:Env} {s1:Shared} {fd:FuncData} {g1:Gh} (F:OkFn (KF w.params) fd) (I:EnvI fd s env) (C:InCallC s env.locals (bindL env.kindOf ((fd.params.args.map Arg.arg).zip cvals) fun U=>none) env.cells (bindC env.kindOf ((fd.params.args.map Arg.arg).zip cvals) fun U=>none) s1)
  (hV:VReps g1 s1.heap vals cvals) (pL:g1.κ env.locals=.frm) (pc:∀ x c,ownX env c->env.cells.lookup x=some c->g1.κ c=.priv):FRp g1 fd.scope env (fun x=>((fd.params.args.map Arg.arg).zip vals).lookup x) s1.heap:=by
 have kd:∀ x,env.kindOf x=fd.scope.names.lookup x:=fun x=>by unfold Env.kindOf; rw [I.sc]
 have zf:(((fd.params.args.map Arg.arg).zip cvals).map (·.1)).Nodup:=F.nd.sublist (zip_fst _ _)
 refine ⟨by rw [I.sc],by rw [I.sc]; exact F.kind,F.kind,I.gl.trans F.gl,I.bu.trans F.bu,(by rw [pL]; trivial),⟨_,C.toInCall.ns,fun x v hl hv=>?_⟩,F.dbg,fun x hl=>?_,fun x y c hx hy=>name_of_addr C.apart (mem_of_lookup hx) (mem_of_lookup hy)⟩
 ·obtain ⟨cv,c1,c2⟩:=zip_rep hV hv
  exact ⟨cv,by rw [bindL_look ((kd x).trans hl) zf,c1]; rfl,c2⟩
 ·obtain ⟨c,hc⟩:=Option.isSome_iff_exists.mp (cellsFrom_has (x:=x) fd.scope.names (s.heap.objs.size+1) [] (.inl (mem_of_lookup hl)))
  rw [← I.ce] at hc
  refine ⟨c,_,hc,pc x c (.inr ⟨x,(kd x).trans hl,hc⟩) hc,C.cell x c hc,fun v hv=>?_⟩
  obtain ⟨cv,c1,c2⟩:=zip_rep hV hv
  exact ⟨cv,by rw [bindC_look (by rw [kd,hl]; intro z; cases z) zf,c1]; rfl,c2⟩
theorem frame_new {fd:FuncData} {fl:List Env} {n:Nat} {hd:Option Nat} {vals:List AV} {cvals:List Value} {env:Env} {s1:Shared} (r:Rel w g σ s) (am:Amb A g s.heap fl (n+1) 0 hd) (F:OkFn (KF w.params) fd) (hV:VReps g s.heap vals cvals) (I:EnvI fd s env)
  (C:InCallC s env.locals (bindL env.kindOf ((fd.params.args.map Arg.arg).zip cvals) fun U=>none) env.cells (bindC env.kindOf ((fd.params.args.map Arg.arg).zip cvals) fun U=>none) s1) :
  ∃ g1,FrameNew w A fd fl n hd g σ s env (fun x=>((fd.params.args.map Arg.arg).zip vals).lookup x) s1 g1:=by
 have keep:=C.toInCall.keep
 obtain ⟨h1,tk,hs1⟩:=C.toInCall.same
 have P1:∀ b,ownX env b->g.κ b=.free:=fun b hb=>r.free b (by
  rcases hb with rfl | ⟨n,_,hb⟩
  ·rw [I.lo]; exact Nat.le_refl _
  ·have:=C.above n b (mem_of_lookup hb); rw [I.lo] at this; exact Nat.le_of_lt this)
 have P2:∀ b,ownX env b->∃ o,s1.heap.get? b=some o:=fun b hb=>by
  rcases hb with rfl | ⟨n,_,hb⟩
  ·obtain ⟨o,_,_,q,_⟩:=C.toInCall.ns; exact ⟨o,q⟩
  ·obtain ⟨o,q,_⟩:=C.cell n b hb; exact ⟨o,q⟩
 have go0:Go w noX g s g σ s1:=.keeps r keep (by rw [hs1]) (by rw [hs1])
 have x1:Ext g (g.marks (ownX env) (frk env)):=.marks (frk env) P1
 have pk:∀ b,ownX env b->(g.marks (ownX env) (frk env)).κ b=frk env b:=fun b hb=>if_pos hb
 have pL:(g.marks (ownX env) (frk env)).κ env.locals=.frm:=(pk _ (.inl rfl)).trans (if_pos rfl)
 have r2:=go0.rel.marks (frk env) P2 P1
 have T1:TrP g noX s.heap s1.heap:=go0.tr
 have am1:=am.stmt x1 (FramesOk.go am.ok x1 T1 fun U U U U=>id)
 have os:s1.os=s.os:=go0.os
 clear hs1
 have F1:=frame_rep F I C (hV.mono x1 T1.val) pL fun x c hb hc=>(pk _ hb).trans (if_neg (Nat.ne_of_gt (C.above x c (mem_of_lookup hc))))
 have FO1:FramesOk (g.marks (ownX env) (frk env)) s1.heap (env::fl):=fun e he=>by
  rcases List.mem_cons.mp he with rfl | he
  ·obtain ⟨o,es,ep,q1,q2,_⟩:=C.toInCall.ns
   exact .mk (by rw [I.sc,F.kind]; intro z; injection z) I.fr pL q1 q2
  ·exact am1.ok e he
 refine ⟨_,r2,⟨F1,FO1⟩,⟨by show (A.frames.map (env::·))=_; rw [am.frames]; rfl,FO1,am1.hd,am1.lt,am1.tr,?_,?_⟩,fun g' σ' s' go=>⟨x1.trans go.ext,go.rel,⟨fun b o e hv=>go.tr.val b o (keep b o e) (by rw [x1.κ _ hv.firm]; exact hv),fun b o e hp U=>?_⟩,go.os.trans os⟩⟩
 ·have:=am.depth; show A.depth+1+3*n+3+2<recursionLimit; lia
 ·have:=am.units; show A.units+3+30*n+100+5*2<cLine; lia
 ·have ek:=x1.κ b hp.firm
  obtain ⟨sl,h1,h2⟩:=go.tr.priv b o (keep b o e) (by rw [ek]; exact hp) (fun q=>by rw [P1 b q] at hp; exact hp)
  exact ⟨sl,h1,fun q=>h2 (ek.trans q)⟩
theorem call_end {f:Fm} {V:List Str} {m:Loc} {g1:Gh} {s1:Shared} {Q:EQ} {E:EX} {cf:Flow} {s':Shared} (back:∀ g' σ' s',Go f.w (ownX f.env) g1 s1 g' σ' s'->Go f.w noX g s g' σ' s') (h:OkS f (ownX f.env) V m g1 s1 (fun f σ U=>match f with | .ret v=>Q v σ | .next=>Q .none σ | _=>False) cf s') :
  CallO f.w g s Q E (.ok (.ret (match cf with | .ret v=>v | _=>.none))) s':=by
 obtain ⟨go,r,q⟩:=h
 have go':=back _ _ _ go.go
 induction r using FlR.casesOn with
 | next=>exact .ret ⟨_,_,_,go',.none,q⟩
 | brk=>exact q.elim
 | cont=>exact q.elim
 | ret hv=>exact .ret ⟨_,_,_,go',hv,q⟩
set_option tactic.hygienic true in
theorem call_step {n:Nat} {call:CallT} (hb:∀ fd body,∃ V,BodyP w n fd body V fun hd=>vcBlk (vcN 12 ⟨w.params,fd.scope,hd,call⟩) body):CallP w (n+1) (vcFn w.params call):=by
 intro hd a args cargs A fl g σ s Q E r ha am q
 obtain ⟨h1,h2,h3,h4,h5⟩:=vcFn_inv q
 have F:=okFn_of h3
 have B:=bindA_inv r h4
 cases B with
 | mk hds l hcd=>
 rename_i c o fd sl body ds cds
 have lc:cargs.length=args.length:=ha.length
 have ld:cds.length=ds.length:=hds.length
 refine codeAny_call_function (by have:=am.depth; lia) (r.sta.inK _ _ h1) rfl F.cor F.gen h2 (codeRec_of r.sta.inK F.code) ?_
 refine bindArgs_any F (by rw [lc,ld]; exact l) hcd ?_
 rw [lc,ld,F.clo]
 have hV:=ha.append (hds.drop (args.length+ds.length - (fd.params.args.map Arg.arg).length))
 refine wpAny_newFunctionEnv_cells F.kind (fun x hx=>?_) fun env he s1 I=>?_
 ·obtain ⟨q,q1,q2⟩:=List.mem_map.mp (List.of_mem_zip (show (x.1,x.2)∈_ from hx)).1
  rw [← q2]
  exact (F.par q q1).imp id fun q=>⟨q,cellsFrom_has _ _ _ (.inl (mem_of_lookup q))⟩
 obtain ⟨g1,r2,FS,am2,back⟩:=frame_new r am F hV (by subst he; exact ⟨rfl,rfl,rfl,rfl,rfl,rfl⟩) I
 obtain ⟨V,hb⟩:=hb fd body
 refine ⟨r2.sta.lim,codeAny_func (wpAny_mono (hb hd env fl (A.deeper env) g1 σ _ s1 _ _ r2 FS am2 h5) (fun cf s' z=>?_) fun e s' h=>?_)⟩
 ·have z:=call_end (E:=E) back z
  induction cf using Flow.casesOn <;> exact z
 ·obtain ⟨go,hi,q⟩:=h
  refine leaving_any go.go.rel hi (by show (A.frames.map (env::·))=_; rw [am.frames]; rfl) rfl go.fs.fk fun g'' s'' go2 hρ=>.err ?_
  rw [← hρ]
  exact ⟨_,g'',_,_,_,(back _ _ _ go.go).trans go2,hi,q⟩
end
theorem okMro_exc:∀ {l:List Value},okMro l=true->l.contains (.type "BaseException")=true->l.contains (.type "Exception")=true
 | v::r,e,h=>by
  rcases okMro_inv e with e | e | ⟨⟨c,rfl⟩,e0⟩
  ·rw [e] at h; exact absurd h (by decide +kernel)
  ·rw [e]; rfl
  ·rw [List.contains_cons] at h ⊢
   rw [okMro_exc e0 h,Bool.or_true]
section
variable {w:World} {A:Around} {g:Gh} {σ:AHeap} {s:Shared} {K:Frag}
theorem exc_mro {C:Addr} (hb:((clsIn K C).any fun cd=>cd.mro.contains (.type "BaseException"))=true) {x:Value} (hx:∀ cd,clsIn K C=some cd->cd.mro.contains x=true) (X:K.In s.heap):Looks (model prg w) s.heap (isSubtype (.ref C) x) true:=by
 obtain ⟨cd,h1,h2⟩:=any_some hb
 have ne:cd.mro.isEmpty=false:=by induction q:cd.mro using List.casesOn with | nil=>rw [q] at h2; injection h2 | cons _ _=>rfl
 exact looks_mroIn X (by unfold mroIn; rw [h1,Option.bind_some,if_neg (by rw [ne]; decide),hx cd h1])
theorem clsExc_sub {C:Addr} (h:clsExc K C=true) (X:K.In s.heap):Looks (model prg w) s.heap (isSubtype (.ref C) (.type "Exception")) true:=by
 have I:=clsExc_of h
 refine exc_mro I.e (fun cd h1=>?_) X
 have hm:=I.b.m
 have he:=I.e
 rw [h1] at hm he
 exact okMro_exc hm he
theorem printed_cls {M:Model} {c:Addr} {whole:Bool} {sg:Manifest.Signature} {self:Value} {Q:String->Shared->Prop} {E:Value->Shared->Prop} (hs:sg.receiver=.self) (L:Looks M s.heap (typeOf self) (.ref c)) (X:K.In s.heap) (hc:isClsIn K c=true) (h:∀ x,Q x s) :
  wpAny M A (Bind.printed "*" whole sg (some self)) Q E s:=by
 obtain ⟨cd,hcd⟩:=Option.isSome_iff_exists.mp hc
 unfold Bind.printed Bind.receiverType
 rw [if_neg (by decide),hs]
 refine wpAny_bind (m:=(if (Manifest.Receiver.self==Manifest.Receiver.cls)=true then pure self else typeOf self)) ?_
 rw [if_neg (by decide)]
 refine L.here (wpAny_bind (m:=typeNameWhole _) ?_)
 unfold typeNameWhole
 exact wpAny_bind ((looks_clsIn X hcd).here (wpAny_pure (wpAny_pure (h _))))
theorem cbc_slot {id owner nm:String} {sg:Manifest.Signature} (hk:builtinKind id=some .slot) (hs:splitId id=some (owner,nm)) (hg:Manifest.signature? id=some sg):∃ B:Value->List Value->Sem Unit,∀ self rest,checkBuiltinCall id ⟨self::rest,[]⟩=(isInstance self (.type owner) >>= fun b=>if (!b)=true then B self rest else Bind.checkArgs id sg ⟨self::rest,[]⟩):=by
 unfold checkBuiltinCall
 rw [hk,hs,hg]
 exact ⟨_,fun self rest=>rfl⟩
theorem exc_check {c:Addr} {self:Value} {rest:List Value} {Q:Unit->Shared->Prop} {E:Value->Shared->Prop} (LI:Looks (model prg w) s.heap (isInstance self (.type "Exception")) true) (LT:Looks (model prg w) s.heap (typeOf self) (.ref c)) (X:K.In s.heap) (hc:isClsIn K c=true) (h:Q () s):wpAny (model prg w) A (checkBuiltinCall "Exception.__init__" ⟨self::rest,[]⟩) Q E s:=by
 obtain ⟨B,e⟩:=cbc_slot PySem.F.excCall_Exception.initKind PySem.F.excCall_Exception.initSplit PySem.F.excCall_Exception.initRow
 rw [e]
 refine wpAny_bind (LI.here ?_)
 rw [if_neg (by decide)]
 unfold Bind.checkArgs
 dsimp only
 refine wpAny_bind (m:=Bind.printed "*" true _ _) (printed_cls rfl LT X hc fun full=>wpAny_bind (m:=Bind.printed "Exception" false _ _) (printed_name (by decide) ?_))
 show wpAny _ _ (Sem.onRaise (Bind.check _ full "Exception" _ []) _) _ _ s
 rw [check_varPos]
 exact wpAny_pure h
theorem exc_put {oe:Obj} {vs:Array Value} {p:Addr} {a:Addr} {Q:Unit->Shared->Prop} {E:Value->Shared->Prop} (e:s.heap.get? p=some oe) (hd:oe.data=.fields vs) (l:0<vs.size) (h:Q () {s with heap:=s.heap.update p (Obj.mapFields (·.setIfInBounds 0 (.ref a)))}):wpAny (model prg w) A (Builtin.BaseException.bexcPut (.ref p) 0 (.ref a)) Q E s:=by
 unfold Builtin.BaseException.bexcPut
 refine wpAny_bind (wpAny_field e hd (Array.getElem?_eq_getElem l) (wpAny_bind (wpAny_setField e hd l ?_)))
 generalize vs[0]=a0
 induction a0 using Value.casesOn <;> first | exact wpAny_letGo h | exact wpAny_pure h
theorem TraceO.at {h:Heap} {i:Nat} {d:Option Addr} {vs vs':Array Value} (t:TraceO g h i d vs) (q:vs'[1]?=vs[1]?):TraceO g h i d vs':=by
 induction t using TraceO.casesOn with
 | no t e=>exact .no t (q.trans e)
 | yes e k ne eT dT l=>exact .yes (q.trans e) k ne eT dT l
set_option tactic.hygienic true in
theorem excM_w {i:Nat} {c:Addr} {fs:List (Str×AV)} {v:AV} {cargs:List Value} {Q:EQ} {E:EX} (r:Rel w g σ s) (ha:VReps g s.heap [.ref i,v] cargs) (hg:σ.get i=some (.exc c fs)) (q:Q .none σ):WE w A g s (call (.builtin "Exception.__init__") cargs) VRep Q E:=by
 obtain ⟨a,b⟩:=ha.two
 rename_i cw cv
 obtain ⟨_,rfl⟩:=a.inv
 have go1:=Go.push (X:=noX) r {cls:=.type "tuple",data:=.seq [cv].toArray}
 obtain ⟨e,l,e2,t,x,c1,c2⟩:=r.rep hg
 have LT:Looks (model prg w) s.heap (typeOf (.ref (g.ρ i))) (.ref c):=(Looks.ld e).andThen .now
 obtain ⟨cd,h1,_⟩:=any_some (clsExc_of c1).e
 refine wpAny_call (codeAny_call_builtin PySem.F.excCall_Exception.init.plain PySem.F.excCall_Exception.initEntry (exc_check (LT.andThen (clsExc_sub c1 r.sta.inK)) LT r.sta.inK (by unfold isClsIn; rw [h1]; rfl) ?_))
 unfold Builtin.«BaseException.__init__»
 dsimp only
 rw [if_neg (by decide)]
 unfold newTuple
 refine wpAny_bind (wpAny_newObj_type (wpAny_bind (exc_put (Heap.get?_push_of_some _ e) rfl (by lia) ?_)) (by show (1:Nat)<=sizeLine; decide))
 obtain ⟨e,l,e2,t,x,c1,c2⟩:=go1.rel.rep hg
 exact wpAny_pure ⟨.none,g,σ,go1.trans (exc_upd go1.rel hg e rfl (by rw [Array.size_setIfInBounds]; exact l) (by rw [Array.getElem?_setIfInBounds_ne (by decide)]; exact e2) (t.at (Array.getElem?_setIfInBounds_ne (by decide))) x c1 c2),.none,q⟩
theorem Amb.make {fl:List Env} {n k:Nat} {hd:Option Nat} {C:Addr} {vals:List Value} (a:Amb A g s.heap fl n (k+1) hd):Amb (A.under (.builtin "type.__call__" ⟨.ref C::vals,[]⟩)) g s.heap fl n 0 hd:=by
 refine ⟨a.frames,a.ok,a.hd,a.lt,a.tr,?_,?_⟩
 ·have:=a.depth; show A.depth+1+3*n+3+0<recursionLimit; lia
 ·have:=a.units; show A.units+1+30*n+100+5*0<cLine; lia
noncomputable abbrev noneQ (i:Nat) (Q:EQ):EQ:=fun r σ'=>match r with
  | .none=>Q (.ref i) σ'
  | _=>False
inductive InitO (w:World) (g:Gh) (s:Shared) (Q:EQ) (E:EX) (e:Addr):Result->Shared->Prop
 | ret {s':Shared} (q:OkE w g s VRep Q (.ref e) s'):InitO w g s Q E e (.ok (.ret .none)) s'
 | err {x:Value} {s':Shared} (q:ErE w g s E x s'):InitO w g s Q E e (.error x) s'
theorem init_ret {Q:EQ} {E:EX} {i:Nat} {g3:Gh} {σ3:AHeap} {s3 s':Shared} {e:Addr} {r:Result} (go:Go w noX g s g3 σ3 s3) (hs:VRep g3 s3.heap (.ref i) (.ref e)) (h:CallO w g3 s3 (noneQ i Q) E r s'):InitO w g s Q E e r s':=by
 induction h using CallO.casesOn with
 | err q=>exact .err (q.pre go)
 | ret q=>
  obtain ⟨v,g',σ',go',hv,q⟩:=q
  induction v using AV.casesOn <;> try exact q.elim
  rw [show _=Value.none from hv.inv]
  exact .ret ⟨_,g',σ',go.trans go',hs.go go',q⟩
theorem self_new {a:Addr} {h:Heap} (r:Rel w g σ s):VRep (g.grow a) h (.ref σ.next) (.ref a):=by
 rw [← r.n]
 exact .ref _ (Nat.lt_succ_self _) _ (Gh.grow_ρ _ _).symm
theorem init_go {cx:Cx} {n k:Nat} {fl:List Env} {C i e:Addr} {o:AObj} {args:List AV} {cargs:List Value} {Q:EQ} {E:EX} {g3:Gh} {s3:Shared} (hc:CallP w n cx.call) (ha:VReps g s.heap args cargs) (am:Amb A g s.heap fl n (k+1) cx.hd) (go:Go w noX g s g3 (σ.new o) s3) (hs:VRep g3 s3.heap (.ref σ.next) (.ref e)) (q:initP cx i args o σ Q E) :
  codeAny (model prg w) (A.under (.builtin "type.__call__" ⟨.ref C::cargs,[]⟩)) (.call (.ref i) ⟨.ref e::cargs,[]⟩) (InitO w g s Q E e) s3:=
 codeAny_mono (hc cx.hd i (.ref σ.next::args) (.ref e::cargs) _ fl _ _ s3 _ _ go.rel (.cons hs (ha.go go)) (Amb.make (am.go go)) q.r) fun rr s' z=>init_ret go hs z
theorem inst_made {C:Addr} (r:Rel w g σ s) (hi:clsInst (KF w.params) C=true):∃ g3,Go w noX g s g3 (σ.new (.inst C [])) {s with heap:=(s.heap.push W.emptyDict).push (instObj C s.heap.objs.size)}∧∀ h,VRep g3 h (.ref σ.next) (.ref (s.heap.objs.size+1)):=by
 have go1:=(Go.push (X:=noX) r W.emptyDict).mark (a:=s.heap.objs.size) (.aux g.n) ⟨_,Heap.get?_push_size _ rfl⟩ (r.free s.heap.objs.size (Nat.le_refl _))
 have hsz:(s.heap.push W.emptyDict).objs.size=s.heap.objs.size+1:=Heap.size_push _ _
 have hx:((s.heap.push W.emptyDict).push (instObj C s.heap.objs.size)).get? (s.heap.objs.size+1)=some (instObj C s.heap.objs.size):=by rw [← hsz]; exact Heap.get?_push_size _ rfl
 have hne:s.heap.objs.size+1≠s.heap.objs.size:=Nat.succ_ne_self _
 exact ⟨_,(go1.trans (Go.push go1.rel (instObj C s.heap.objs.size))).new ⟨_,hx⟩ ((Gh.mark_ne g _ hne).trans (r.free _ (Nat.le_succ _))) (InstO.mk (by rw [Gh.grow_ρ]; exact hx) ⟨(Gh.grow_ne (Ne.symm hne)).trans (Gh.mark_self _ _ _),Heap.get?_push_of_some _ (Heap.get?_push_size _ rfl),.nil⟩ hi fun e he=>by cases he) rfl,fun h=>self_new go1.rel⟩
theorem call_inst {cx:Cx} {n k:Nat} {fl:List Env} {C i:Addr} {args:List AV} {cargs:List Value} {Q:EQ} {E:EX} (hc:CallP w n cx.call) (r:Rel w g σ s) (ha:VReps g s.heap args cargs) (am:Amb A g s.heap fl n (k+1) cx.hd)
  (hm:methA (KF w.params) C "__init__"=some i) (hi:clsInst (KF w.params) C=true) (q:initP cx i args (.inst C []) σ Q E):WE w A g s (call (.ref C) cargs) VRep Q E:=by
 obtain ⟨hf,_,hq⟩:=methA_of hm
 obtain ⟨g3,go,hs⟩:=inst_made r hi
 have z:=init_go (C:=C) hc ha am go (hs _) q
 obtain ⟨hp,gg,dd,tt,os⟩:=s
 refine wpAny_call (make_core (makes_of r.sta.inK (clsInst_of hi).mks) (looks_findIn r.sta.inK hf) (fun self=>bind_fn r.sta.inK self (beq_iff_eq.mp hq)) (.inl rfl) (codeAny_mono z fun rr s' z=>?_))
 induction z using InitO.casesOn with
 | ret q=>exact ⟨rfl,q⟩
 | err q=>exact q
theorem slots6 {sl:Array (Option Value)} (h:newSlot sl=true):∃ x0 x1 x2 x3 x5,sl=⟨[x0,x1,x2,x3,some (.builtin "Exception.__new__"),x5]⟩:=by
 unfold newSlot at h
 rw [Bool.and_eq_true,beq_iff_eq,beq_iff_eq] at h
 obtain ⟨h1,h2⟩:=h
 obtain ⟨l⟩:=sl
 rcases l with _ | ⟨x0,_ | ⟨x1,_ | ⟨x2,_ | ⟨x3,_ | ⟨x4,_ | ⟨x5,_ | ⟨x6,r⟩⟩⟩⟩⟩⟩⟩ <;> first | (first | (injection h1; done) | cases h1) | skip
 (injection h2 with e1; subst e1)
 exact ⟨_,_,_,_,_,rfl⟩
inductive ExcCI (K:Frag) (c i:Addr):Prop
 | mk {od:Option Addr} {cd:ClassData} {x0 x1 x2 x3 x5:Option Value} (h:K.lookup c=some ⟨.type "type",od,.cls cd,⟨[x0,x1,x2,x3,some (.builtin "Exception.__new__"),x5]⟩⟩) (hdel:cd.hasDel=false) (mro:cd.mro=[.ref c,.type "Exception",.type "BaseException",.type "object"]) (ns:nsOkIn K cd.ns=true) (e:clsExc K c=true) (ini:nsIn K cd.ns "__init__"=some (some (.ref i))) (f:isFn K (.ref i)=true)
theorem excInit_of {c i:Addr} (h:excInit K c=some i):ExcCI K c i:=by
 obtain ⟨⟨oc,od,odt,osl⟩,h1,h⟩:=Option.bind_eq_some_iff.mp h
 induction odt using Data.casesOn with
 | cls cd=>
  have hh:(if oc==.type "type"&&newSlot osl&&!cd.hasDel&&cd.mro==[.ref c,.type "Exception",.type "BaseException",.type "object"]&&nsOkIn K cd.ns&&clsExc K c then (nsIn K cd.ns "__init__").bind (fnOf K) else none)=some i:=h
  induction q:oc==.type "type"&&newSlot osl&&!cd.hasDel&&cd.mro==[.ref c,.type "Exception",.type "BaseException",.type "object"]&&nsOkIn K cd.ns&&clsExc K c using Bool.casesOn <;> rw [q] at hh
  ·injection hh
  ·simp only [Bool.and_eq_true,Bool.not_eq_true',beq_iff_eq] at q
   obtain ⟨⟨⟨⟨⟨rfl,q1⟩,q2⟩,q3⟩,q4⟩,q5⟩:=q
   obtain ⟨x0,x1,x2,x3,x5,rfl⟩:=slots6 q1
   obtain ⟨o,h2,h3⟩:=Option.bind_eq_some_iff.mp hh
   obtain ⟨rfl,_,h5⟩:=fnOf_inv h3
   exact ⟨h1,q2,q3,q4,q5,h2,h5⟩
 | _=>injection h
theorem exc_made {C e:Addr} {h':Heap} {vs:List Value} (r:Rel w g σ s) (he:clsExc (KF w.params) C=true) (hm:Heap.MadeExcOf s.heap h' e (.ref C) vs):Go w noX g s (g.grow e) (σ.new (.exc C [])) {s with heap:=h'}:=by
 obtain ⟨t,h1,h2,h3⟩:=hm.there
 have hfr:g.κ e=.free:=by
  induction hq:g.κ e using KdP.casesOn with
  | free=>rfl
  | _=>
   obtain ⟨o,ho⟩:=r.live e (by rw [hq]; intro z; injection z)
   injection hm.new.symm.trans ho
 have ht:g.τ g.n=false:=by
  induction q:g.τ g.n using Bool.casesOn with
  | false=>rfl
  | true=>
   obtain ⟨c,fs,q⟩:=r.trc _ q
   exact absurd (r.objs _ _ q).lt (Nat.lt_irrefl _)
 have go:Go w noX g s g σ {s with heap:=h'}:=.keeps r hm.keeps rfl rfl
 exact go.new ⟨_,h1⟩ hfr (ExcO.mk (by rw [Gh.grow_ρ]; exact h1) (by show 5<6; decide) rfl (.no ht rfl) (.none rfl) he fun e he=>by cases he) rfl
set_option tactic.hygienic true in
theorem call_exc_cls {cx:Cx} {n k:Nat} {fl:List Env} {C i:Addr} {args:List AV} {cargs:List Value} {Q:EQ} {E:EX} (hc:CallP w n cx.call) (r:Rel w g σ s) (ha:VReps g s.heap args cargs) (hl:args.length<=lim) (am:Amb A g s.heap fl n (k+1) cx.hd)
  (hm:excInit (KF w.params) C=some i) (q:initP cx i args (.exc C []) σ Q E):WE w A g s (call (.ref C) cargs) VRep Q E:=by
 obtain ⟨hlk,hdel,hmro,hns,hexc,hini,hfn⟩:=excInit_of hm
 rename_i od cd x0 x1 x2 x3 x5
 have hC:=r.sta.inK _ _ hlk
 obtain ⟨nm,bs,mro,ns,qn,hdct,sn,sub,ab,col,hdl⟩:=cd
 dsimp only at hdel hmro hns hini
 subst hdel hmro
 have hN:=K_ns r hns
 have hinit:s.heap.nsMap ns "__init__"=some (.ref i):=ns_of r.sta.inK hN hini
 obtain ⟨oI,hoI,hcI⟩:=Option.map_eq_some_iff.mp (beq_iff_eq.mp hfn)
 have go:∀ h' e,Heap.MadeExcOf s.heap h' e (.ref C) cargs->codeAny (model prg w) (A.under (.builtin "type.__call__" ⟨.ref C::cargs,[]⟩)) (.call (.ref i) ⟨.ref e::cargs,[]⟩) (InitO w g s Q E e) {s with heap:=h'}:=fun h' e hm=>
  init_go hc ha am (exc_made r hexc hm) (self_new r) q
 have hi:=r.sta.inK _ _ hoI
 have hlc:=ha.length
 clear r ha am
 obtain ⟨hp,gg,dd,tt,os⟩:=s
 refine wpAny_call_exc_init (F:=PySem.F.excBase_Exception) (hrest:=by have:=lim_line; lia) hC hN hinit hi hcI fun h' e hmade=>?_
 refine wpAny_call (codeAny_mono (go h' e hmade) fun rr s' z=>?_)
 induction z using InitO.casesOn with
 | ret q=>exact ⟨rfl,q⟩
 | err q=>exact q
theorem call_w {cx:Cx} {n k:Nat} {fl:List Env} {a:Addr} {args:List AV} {cargs:List Value} {Q:EQ} {E:EX} (hc:CallP w n cx.call) (r:Rel w g σ s) (ha:VReps g s.heap args cargs) (am:Amb A g s.heap fl n (k+1) cx.hd) (q:cx.call cx.hd a args σ Q E):WE w A g s (call (.ref a) cargs) VRep Q E:=
 wpAny_call (codeAny_mono (hc cx.hd a args cargs A fl g σ s Q E r ha (am.less 0 (Nat.zero_le _)) q) fun rr s' z=>by induction z using CallO.casesOn with
  | ret q=>exact q
  | err q=>exact q)
inductive CallVI (cx:Cx) (args:List AV) (σ:AHeap) (Q:EQ) (E:EX):AV->Prop
 | fn {a:Addr} (h:fnIn (KF cx.P) a=true) (q:cx.call cx.hd a args σ Q E):CallVI cx args σ Q E (.fn a)
 | exc {a i:Addr} (h:excInit (KF cx.P) a=some i) (q:initP cx i args (.exc a []) σ Q E):CallVI cx args σ Q E (.fn a)
 | inst {a i:Addr} (h:methA (KF cx.P) a "__init__"=some i) (hi:clsInst (KF cx.P) a=true) (q:initP cx i args (.inst a []) σ Q E):CallVI cx args σ Q E (.fn a)
 | bi {n:String} (q:BiP cx.hd (KF cx.P) σ Q n args):CallVI cx args σ Q E (.bi n)
 | ty {n:String} (q:TyP σ Q n args):CallVI cx args σ Q E (.ty n)
theorem callV_inv {cx:Cx} {f:AV} {args:List AV} {Q:EQ} {E:EX} (q:callV cx f args σ Q E):CallVI cx args σ Q E f:=by
 induction f using AV.casesOn with
 | fn a=>
  unfold callV at q
  dsimp only at q
  by_cases h1:fnIn (KF cx.P) a=true
  ·rw [if_pos h1] at q; exact .fn h1 q
  rw [if_neg h1] at q
  by_cases h2:isExcIn (KF cx.P) a=true
  ·rw [if_pos h2] at q
   induction h:excInit (KF cx.P) a using Option.casesOn with
   | none=>rw [h] at q; exact q.elim
   | some i=>rw [h] at q; exact .exc h q
  rw [if_neg h2] at q
  induction h:methA (KF cx.P) a "__init__" using Option.casesOn with
  | none=>rw [h] at q; exact q.elim
  | some i=>
   rw [h] at q
   dsimp only at q
   by_cases h3:clsInst (KF cx.P) a=true
   ·rw [if_pos h3] at q; exact .inst h h3 q
   ·rw [if_neg h3] at q; exact q.elim
 | bi n=>exact .bi q
 | ty n=>exact .ty q
 | _=>exact q.elim
theorem callV_w {P:Params} {sc:Scope} {hd:Option Nat} {call:CallT} {n k:Nat} {fl:List Env} {f:AV} {cf:Value} {args:List AV} {cargs:List Value} {Q:EQ} {E:EX} (hc:CallP w n call) (r:Rel w g σ s) (hf:VRep g s.heap f cf) (ha:VReps g s.heap args cargs) (hl:args.length<=lim) (am:Amb A g s.heap fl n (k+1) hd)
  (q:CallVI ⟨w.params,sc,hd,call⟩ args σ Q E f):WE w A g s (PySem.call cf cargs) VRep Q E:=by
 induction q using CallVI.casesOn with
 | fn h q=>rw [hf.inv.1]; exact call_w (cx:=⟨w.params,sc,hd,call⟩) hc r ha am q
 | exc h q=>rw [hf.inv.1]; exact call_exc_cls (cx:=⟨w.params,sc,hd,call⟩) hc r ha hl am h q
 | inst h hi q=>rw [hf.inv.1]; exact call_inst (cx:=⟨w.params,sc,hd,call⟩) hc r ha am h hi q
 | bi q=>rw [show cf=_ from hf.inv]; exact bi_w (fun z=>by rw [am.hd,show hd=none from z]; rfl) r ha q
 | ty q=>rw [show cf=_ from hf.inv]; exact ty_w r ha q
theorem callMt_w {P:Params} {sc:Scope} {hd:Option Nat} {call:CallT} {n k:Nat} {fl:List Env} {mt:Mt} {o:AV} {co:Value} {args:List AV} {cargs:List Value} {Q:EQ} {E:EX} (hc:CallP w n call) (r:Rel w g σ s) (ho:VRep g s.heap o co) (ha:VReps g s.heap args cargs) (am:Amb A g s.heap fl n (k+1) hd)
  (q:callMtA ⟨w.params,sc,hd,call⟩ mt o args σ Q E):WE w A g s (PySem.call (mtV co mt).1 ((mtV co mt).2++cargs)) VRep Q E:=by
 have rest:MtP σ Q mt o args->WE w A g s (PySem.call (mtV co mt).1 ((mtV co mt).2++cargs)) VRep Q E:=fun q=>mt_w (fun {i c fs v} hg hm hx q' ha'=>by subst hx; exact excM_w r ha' hg q') r ho ha q
 induction mt using Mt.casesOn with
 | fn f=>exact call_w (cx:=⟨w.params,sc,hd,call⟩) hc r ha am q
 | self f=>exact call_w (cx:=⟨w.params,sc,hd,call⟩) hc r (.cons ho ha) am q
 | _=>exact rest q
end
theorem entry_unchain:entryFor table "proto.unchain"=some Builtin.«proto.unchain»:=entryFor_of_tree (by kernel_rfl)
inductive HOk (H:Option Value) (h:Heap):Prop
 | no (e:H=none)
 | ex {x:Addr} {o:Obj} {vs:Array Value} (e:H=some (.ref x)) (hx:h.get? x=some o) (d:o.data=.fields vs) (h2:vs[2]?=some .none)
theorem HOk.keep {H:Option Value} {h h':Heap} (k:∀ x o,H=some (.ref x)->h.get? x=some o->h'.get? x=some o):HOk H h->HOk H h'
 | .no e=>.no e
 | .ex e hx d h2=>.ex e (k _ _ e hx) d h2
section
variable {w:World} {A:Around} {g:Gh} {σ:AHeap} {s:Shared} {E:Value->Shared->Prop}
theorem hok_of {fl:List Env} {n k:Nat} {hd:Option Nat} (r:Rel w g σ s) (am:Amb A g s.heap fl n k hd):HOk A.handled s.heap:=by
 induction hd using Option.casesOn with
 | none=>exact .no am.hd
 | some i=>
  obtain ⟨c,fs,hi⟩:=r.trc i (am.tr i rfl)
  obtain ⟨e,l,e2,_⟩:=r.rep hi
  exact .ex am.hd e rfl e2
theorem raise_stop {α:Type} {Q:α->Shared->Prop} (hA:HOk A.handled s.heap)
  (hE:∀ h' e o,(∀ b o,s.heap.get? b=some o->h'.get? b=some o)->h'.get? e=some o->o.cls=.type "StopIteration"->E (.ref e) {s with heap:=h'}) :
  wpAny (model prg w) A ((newExc (.type "StopIteration") []:Sem Value) >>= fun e=>(raiseNew e:Sem α)) Q E s:=by
 refine wpAny_bind ?_
 unfold newExc newTuple
 refine wpAny_bind (wpAny_newObj_type ?_ (by size_fits))
 refine wpAny_bind (m:=firstArgMember _ _) (wpAny_of_eq (a:=Value.none) (by first | rfl | (simp only [firstArgMember]; rfl)) ?_)
 refine wpAny_newObj_type ?_ (by size_fits)
 generalize hs2:(s.heap.push {cls:=.type "tuple",data:=.seq [].toArray})=H1
 have k1:∀ b o,s.heap.get? b=some o->H1.get? b=some o:=fun b o e=>by rw [← hs2]; exact Heap.get?_push_of_some _ e
 have hsz:s.heap.objs.size<H1.objs.size:=by rw [← hs2,Heap.size_push]; exact Nat.lt_succ_self _
 unfold raiseNew
 refine wpAny_bind (wpAny_handled ?_)
 induction hA using HOk.casesOn with
 | no hA=>
  rw [hA]
  refine wpAny_bind (wpAny_pure (wpAny_throw ?_))
  exact hE _ _ _ (fun b o e=>Heap.get?_push_of_some _ (k1 b o e)) (Heap.get?_push_size _ rfl) rfl
 | @ex x o vs hA hx hd h2=>
  rw [hA]
  dsimp only
  have hlt:=Heap.lt_size hx
  have hne:H1.objs.size≠x:=Nat.ne_of_gt (Nat.lt_trans hlt hsz)
  rw [if_pos (show (Value.ref x != Value.ref H1.objs.size)=true by simp [Ne.symm hne])]
  refine wpAny_bind (wpAny_holding (wpAny_runValue (codeAny_builtin entry_unchain ?_)))
  unfold Builtin.«proto.unchain»
  dsimp only
  refine wpAny_bind (wpAny_field (Heap.get?_push_of_some _ (k1 _ _ hx)) hd h2 ?_)
  rw [if_pos (by decide)]
  refine wpAny_pure ?_
  unfold updateField
  have hself:=Heap.get?_push_size H1 (o:={cls:=.type "StopIteration",data:=.fields (#[.ref s.heap.objs.size,.none,.none,.none,.bool false,Value.none]++ownMembersOf (.type "StopIteration") [])}) rfl
  refine wpAny_bind (wpAny_bind (wpAny_load hself ?_))
  dsimp only
  rw [if_pos (by show 2<6; decide)]
  refine wpAny_update hself (wpAny_throw ?_)
  refine hE _ _ _ (fun b o e=>?_) (Heap.get?_update_self _ hself rfl) rfl
  have hb:=Heap.lt_size (k1 b o e)
  rw [Heap.get?_update_other _ _ (Nat.ne_of_gt hb)]
  exact Heap.get?_push_of_some _ (k1 b o e)
theorem stop_caught {e:Addr} {o:Obj} {Q:Option Value->Shared->Prop} (ho:s.heap.get? e=some o) (hc:o.cls=.type "StopIteration") (h:Q none s) :
  wpAny (model prg w) A (do if ← isInstance (.ref e) (.type "StopIteration") then pure none else throw (.ref e)) Q E s:=by
 refine wpAny_bind (wpAny_isInstance (T:="StopIteration") (b:=true) ⟨_,ho,hc⟩ isSubtype_stop ?_)
 exact wpAny_pure h
theorem next_list_end {it l:Addr} {i:Nat} {items:Array Value} {Q:Option Value->Shared->Prop} (hh:HOk A.handled s.heap)
  (hit:s.heap.IsListIter it l i) (hl:s.heap.IsList l items) (hx:items[i]?=none) (hne:∀ x,A.handled=some (.ref x)->x≠it)
  (hQ:∀ h',Heap.ExtBut it s.heap h'->(∃ o,h'.get? it=some o)->Q none {s with heap:=h'}):wpAny (model prg w) A (pyNext (.ref it)) Q E s:=by
 obtain ⟨o,ho,hc,hd⟩:=id hit
 obtain ⟨ol,hol,_,nl,hdl⟩:=hl
 unfold pyNext
 refine wpAny_bind (wpAny_attempt (wpAny_callSpecial?_slot (name:=Str.ofString "__next__") hit.typeIs slot_listiter_next
  (wpAny_call_entry slot_listiter_next hit.typeIs entry_listiter_next ?_ (args_listiter_next _))))
 show wpAny _ _ (field (.ref it) 0 >>= _) _ _ s
 refine wpAny_bind (wpAny_field ho hd (x:=.ref l) rfl ?_)
 show wpAny _ _ (if (Value.ref l==Value.none)=true then _ else _) _ _ s
 rw [if_neg (show ¬ ((Value.ref l==Value.none)=true) from Bool.false_ne_true)]
 show wpAny _ _ (field (.ref it) 1 >>= _) _ _ s
 refine wpAny_bind (wpAny_field ho hd (x:=.int i 0) rfl ?_)
 show wpAny _ _ (seqItems? (.ref l) >>= _) _ _ s
 refine wpAny_bind (wpAny_seqItems hol hdl ?_)
 simp only [Int.toNat_natCast,hx]
 refine wpAny_bind (wpAny_rule (wpAny_bind (wpAny_setField ho hd (by simp) ?_)))
 have oth:∀ b,b≠it->∀ f,(s.heap.update it f).get? b=s.heap.get? b:=fun b hb f=>Heap.get?_update_other _ _ (Ne.symm hb)
 refine raise_stop (hh.keep fun x o a b=>(oth x (hne x a) _).trans b) fun h' e oe k he hce=>?_
 exact stop_caught he hce (hQ _ (fun b ob hb e=>k b ob ((oth b hb _).trans e)) ⟨_,k it _ (Heap.get?_update_self _ ho (Obj.isFreed_of_fields (Obj.data_mapFields hd _)))⟩)
theorem next_tuple_end' {it t:Addr} {i:Nat} {items:Array Value} {Q:Option Value->Shared->Prop} (hh:HOk A.handled s.heap)
  (hit:s.heap.IsTupleIter it t i) (ht:s.heap.IsTuple t items) (hx:items[i]?=none) (hne:∀ x,A.handled=some (.ref x)->x≠it)
  (hQ:∀ h',Heap.ExtBut it s.heap h'->(∃ o,h'.get? it=some o)->Q none {s with heap:=h'}):wpAny (model prg w) A (pyNext (.ref it)) Q E s:=by
 obtain ⟨o,ho,hc,hd⟩:=id hit
 obtain ⟨ol,hol,_,nl,hdl⟩:=ht
 unfold pyNext
 refine wpAny_bind (wpAny_attempt (wpAny_callSpecial?_slot (name:=Str.ofString "__next__") hit.typeIs F.slot_tuple_iterator_next
  (wpAny_call_entry F.slot_tuple_iterator_next hit.typeIs F.entry_tuple_iterator_next ?_ (F.args_tuple_iterator_next_1 _))))
 show wpAny _ _ (field (.ref it) 0 >>= _) _ _ s
 refine wpAny_bind (wpAny_field ho hd (x:=.ref t) rfl ?_)
 show wpAny _ _ (if (Value.ref t==Value.none)=true then _ else _) _ _ s
 rw [if_neg (show ¬ ((Value.ref t==Value.none)=true) from Bool.false_ne_true)]
 show wpAny _ _ (field (.ref it) 1 >>= _) _ _ s
 refine wpAny_bind (wpAny_field ho hd (x:=.int i 0) rfl ?_)
 show wpAny _ _ (seqItems? (.ref t) >>= _) _ _ s
 refine wpAny_bind (wpAny_seqItems hol hdl ?_)
 simp only [Int.toNat_natCast,hx]
 refine wpAny_bind (wpAny_rule (wpAny_bind (wpAny_setField ho hd (by simp) ?_)))
 have oth:∀ b,b≠it->∀ f,(s.heap.update it f).get? b=s.heap.get? b:=fun b hb f=>Heap.get?_update_other _ _ (Ne.symm hb)
 refine raise_stop (hh.keep fun x o a b=>(oth x (hne x a) _).trans b) fun h' e oe k he hce=>?_
 exact stop_caught he hce (hQ _ (fun b ob hb e=>k b ob ((oth b hb _).trans e)) ⟨_,k it _ (Heap.get?_update_self _ ho (Obj.isFreed_of_fields (Obj.data_mapFields hd _)))⟩)
theorem next_range_end {it:Addr} {x left step:Int} {Q:Option Value->Shared->Prop} (hh:HOk A.handled s.heap) (hit:IsRangeIter s.heap it x left step) (hleft:left<=0)
  (hQ:∀ h',Heap.ExtBut it s.heap h'->(∃ o,h'.get? it=some o)->Q none {s with heap:=h'}):wpAny (model prg w) A (pyNext (.ref it)) Q E s:=by
 have hT:s.TypeIs (.ref it) "range_iterator":=⟨_,hit,rfl⟩
 unfold pyNext
 refine wpAny_bind (wpAny_attempt (wpAny_callSpecial?_slot (name:=Str.ofString "__next__") hT F.slot_range_iterator_next
  (wpAny_call_entry F.slot_range_iterator_next hT F.entry_range_iterator_next ?_ (F.args_range_iterator_next_1 _))))
 show wpAny _ _ (field (.ref it) 0 >>= _) _ _ s
 refine wpAny_bind (wpAny_field hit rfl (x:=rawInt x) rfl ?_)
 show wpAny _ _ (field (.ref it) 1 >>= _) _ _ s
 refine wpAny_bind (wpAny_field hit rfl (x:=rawInt left) rfl ?_)
 show wpAny _ _ (field (.ref it) 2 >>= _) _ _ s
 refine wpAny_bind (wpAny_field hit rfl (x:=rawInt step) rfl ?_)
 show wpAny _ _ (if left<=0 then _ else _) _ _ s
 rw [if_pos hleft]
 refine wpAny_bind (wpAny_rule ?_)
 refine wpAny_bind ?_
 refine raise_stop hh fun h' e oe k he hce=>?_
 exact stop_caught he hce (hQ _ (fun b ob hb e=>k b ob e) ⟨_,k it _ hit⟩)
theorem next_dict_end {T:Type} [DecidableEq T] {knd:KeyKind prg w T} {it d:Addr} {i ep:Nat} {kvs:List (T×Value)} {Q:Option Value->Shared->Prop} (hh:HOk A.handled s.heap) (hit:s.heap.IsKeyIter it d i kvs.length ep)
  (hm:s.heap.DictAt knd d kvs ep) (hx:kvs[i]?=none) (hne:∀ x,A.handled=some (.ref x)->x≠it)
  (hQ:∀ h',Heap.ExtBut it s.heap h'->(∃ o,h'.get? it=some o)->Q none {s with heap:=h'}):wpAny (model prg w) A (pyNext (.ref it)) Q E s:=by
 obtain ⟨o,ho,hc,hd⟩:=id hit
 obtain ⟨od,es,hod,hcd,hdd,hk,hp,hn⟩:=id hm
 unfold pyNext
 refine wpAny_bind (wpAny_attempt (wpAny_callSpecial?_slot (name:=Str.ofString "__next__") hit.typeIs F.slot_dict_keyiterator_next
  (wpAny_call_entry F.slot_dict_keyiterator_next hit.typeIs F.entry_dict_keyiterator_next ?_ (F.args_dict_keyiterator_next_1 _))))
 refine wpAny_bind (wpAny_pure ?_)
 refine wpAny_bind ?_
 refine wpAny_bind ?_
 first | refine wpAny_bind (wpAny_typeNameOfWhole_keyiter hit.typeIs (wpAny_pure ?_)) | refine wpAny_bind (wpAny_typeNameOf_keyiter hit.typeIs (wpAny_pure ?_))
 refine wpAny_bind (wpAny_fieldsOf ho hd ?_)
 have hown:Builtin.Dict_items.ownsTuple "dict_keyiterator"=false:=by decide
 have hl:∀ l:List Value,List.take 4 (List.drop (if Builtin.Dict_items.ownsTuple "dict_keyiterator"=true then 2 else 0) l)=List.take 4 l:=fun l=>by rw [hown]; rfl
 rw [hl]
 show wpAny _ _ (if (Value.ref d==Value.none)=true then _ else _) _ _ s
 rw [if_neg (show ¬ ((Value.ref d==Value.none)=true) from Bool.false_ne_true)]
 refine wpAny_bind (wpAny_pure ?_)
 refine wpAny_bind (wpAny_dictEntries hod hdd ?_)
 have hsz:es.size=kvs.length:=by rw [← hp.length]; simp
 rw [if_neg (by rw [hsz]; simp)]
 refine wpAny_bind (wpAny_pure ?_)
 refine wpAny_bind (wpAny_dictEpoch hod hdd ?_)
 rw [if_neg (by simp)]
 refine wpAny_pure ?_
 have hge:es.size<=i:=by rw [hsz]; simpa using hx
 have hn':(if (i:Int)<0 then none else es[(i:Int).toNat]?)=none:=by rw [if_neg (by lia),Int.toNat_natCast,Array.getElem?_eq_none hge]
 dsimp only
 rw [hn']
 refine wpAny_bind ?_
 first | refine wpAny_bind (wpAny_typeNameOfWhole_keyiter hit.typeIs (wpAny_pure ?_)) | refine wpAny_bind (wpAny_typeNameOf_keyiter hit.typeIs (wpAny_pure ?_))
 show wpAny _ _ (setField (.ref it) 0 .none >>= _) _ _ s
 refine wpAny_bind (wpAny_setField ho hd (by simp) ?_)
 have oth:∀ b,b≠it->∀ f,(s.heap.update it f).get? b=s.heap.get? b:=fun b hb f=>Heap.get?_update_other _ _ (Ne.symm hb)
 refine raise_stop (hh.keep fun x o a b=>(oth x (hne x a) _).trans b) fun h' e oe k he hce=>?_
 exact stop_caught he hce (hQ _ (fun b ob hb e=>k b ob ((oth b hb _).trans e)) ⟨_,k it _ (Heap.get?_update_self _ ho (Obj.isFreed_of_fields (Obj.data_mapFields hd _)))⟩)
end
section
variable {w:World} {A:Around} {f:Fm} {g:Gh} {σ:AHeap} {m:Loc} {s s':Shared} {E:Value->Shared->Prop} {sc sc':Scope} {env:Env} {fl:List Env} {X:Addr->Prop} {x:Str}
theorem locNm_of (h:locNm sc x=true):sc.names.lookup x=some .local∨sc.names.lookup x=some .cell:=by
 unfold locNm at h
 rwa [Bool.or_eq_true,beq_iff_eq,beq_iff_eq] at h
theorem FRp.notLoc {h:Heap} (F:FRp g sc env m h) {c:Addr} (hl:sc.names.lookup x=some .cell) (hc:env.cells.lookup x=some c):c≠env.locals:=by
 obtain ⟨mc,⟨o,es,ep,ho,hd,_⟩,_⟩:=F.loc
 obtain ⟨c',ov,h1,h2,⟨o',h3,h4⟩,_⟩:=F.cell x hl
 cases hc.symm.trans h1
 rintro rfl
 cases ho.symm.trans h3
 injection hd.symm.trans h4
inductive OwnD (h h':Heap) (b:Addr):Prop
 | loc {o:Obj} {es:Array DictEntry} {ep:Nat} (e:h'.get? b=some o) (d:o.data=.dict es ep)
 | cell {o:Obj} {v:Option Value} (e:h.get? b=some o) (d:o.data=.cell v)
set_option tactic.hygienic true in
theorem own_frames {h h':Heap} {b:Addr} (F:FramesOk g h fl) (hs:Heap.SameBut b h h') (hd:OwnD h h' b):FramesOk g h' fl:=fun e he=>by
 obtain ⟨hk,h1,h2,h3,h4⟩:=F e he
 rename_i L o es ep
 by_cases q:L=b
 ·subst q
  induction hd using OwnD.casesOn with
  | loc d1 d2=>exact .mk hk h1 h2 d1 d2
  | cell d1 d2=>
   cases d1.symm.trans h3
   injection h4.symm.trans d2
 ·exact .mk hk h1 h2 ((hs.2 L q).trans h3) h4
theorem own_go {b:Addr} (r:Rel w g σ s) (hb:(g.κ b).own) (hX:X b) (k:∀ a o,a≠b->s.heap.get? a=some o->s'.heap.get? a=some o) (hbb:∃ o,s'.heap.get? b=some o) (hg:s'.gens=s.gens) (ho:s'.os=s.os):Go w X g s g σ s':=by
 have ne:∀ a,¬ (g.κ a).own->a≠b:=fun a ha e=>ha (e▸hb)
 refine ⟨.refl g,r.privs (fun a o e h1=>k a o (ne a h1) e) (fun a o e=>?_) hg,⟨fun a o e hv=>k a o (ne a fun z=>z.noval hv) e,fun a o e U hx=>⟨o.slots,k a o (by rintro rfl; exact hx hX) e,fun U=>rfl⟩⟩,ho⟩
 by_cases z:a=b
 ·subst z; exact hbb
 ·exact ⟨o,k a o z e⟩
theorem own_st {h h':Heap} {b:Addr} (hs:Heap.SameBut b h h') (hb:(g.κ b).own):Stays g h h':=fun a o e hk=>(hs.2 a (by rintro rfl; exact hb.noval hk)).trans e
noncomputable def NmOk (g:Gh) (h:Heap) (ov:Option AV) (co:Option Value):Prop:=∀ v,ov=some v->∃ cv,co=some cv∧VRep g h v cv
theorem NmOk.go {h h':Heap} {ov:Option AV} {co:Option Value} (k:NmOk g h ov co) (st:Stays g h h'):NmOk g h' ov co:=fun v e=>(k v e).imp fun U z=>⟨z.1,z.2.mono (.refl g) st⟩
theorem put_ne {y:Str} {v:Option AV} (h:y≠x):m.put x v y=m y:=if_neg h
theorem put_eq {v:Option AV}:m.put x v x=v:=if_pos rfl
theorem frp_loc {h h':Heap} {mc:Str->Option Value} {ov:Option AV} {co:Option Value} (F:FRp g sc env m h) (hm:∀ y,sc.names.lookup y=some .local->NmOk g h (m y) (mc y)) (hl:sc.names.lookup x=some .local) (hn:h'.Ns env.locals (fun y=>if y=x then co else mc y)) (hs:Heap.SameBut env.locals h h') (ho:NmOk g h ov co):FRp g sc env (m.put x ov) h':=by
 have st:=own_st hs F.priv
 refine ⟨F.names,F.kind,F.skind,F.glob,F.blt,F.priv,⟨_,hn,fun y u hly hy=>?_⟩,F.nodebug,fun y hy=>?_,F.apart⟩
 ·by_cases q:y=x
  ·subst q; rw [put_eq] at hy; rw [if_pos rfl]; exact ho.go st u hy
  ·rw [put_ne q] at hy; rw [if_neg q]; exact (hm y hly).go st u hy
 ·obtain ⟨c,cv,h1,h2,h3,h4⟩:=F.cell y hy
  rw [put_ne (by rintro rfl; cases hl.symm.trans hy)]
  exact ⟨c,cv,h1,h2,h3.sameBut hs (F.notLoc hy h1),NmOk.go h4 st⟩
theorem frp_cell {h h':Heap} {c:Addr} {ov:Option AV} {co:Option Value} (F:FRp g sc env m h) (hl:sc.names.lookup x=some .cell) (hc:env.cells.lookup x=some c) (k:g.κ c=.priv) (hc':h'.IsCell c co) (hs:Heap.SameBut c h h') (ho:NmOk g h ov co):FRp g sc env (m.put x ov) h':=by
 have st:=own_st (g:=g) hs (by rw [k]; trivial)
 obtain ⟨mc,hns,hm⟩:=F.loc
 refine ⟨F.names,F.kind,F.skind,F.glob,F.blt,F.priv,⟨mc,hns.sameBut hs (Ne.symm (F.notLoc hl hc)),fun y u hly hy=>?_⟩,F.nodebug,fun y hy=>?_,F.apart⟩
 ·rw [put_ne (by rintro rfl; cases hl.symm.trans hly)] at hy
  exact NmOk.go (hm y · hly) st u hy
 ·by_cases q:y=x
  ·subst q; rw [put_eq]; exact ⟨c,co,hc,k,hc',ho.go st⟩
  ·obtain ⟨c2,ov2,k1,k2,k3,k4⟩:=F.cell y hy
   rw [put_ne q]
   exact ⟨c2,ov2,k1,k2,k3.sameBut hs (fun e=>q (F.apart _ _ _ k1 (e▸hc))),NmOk.go k4 st⟩
inductive OwnN (sc:Scope) (env:Env) (X:Addr->Prop) (x:Str):Prop
 | loc (l:sc.names.lookup x=some .local) (k:X env.locals)
 | cell (l:sc.names.lookup x=some .cell) (k:∀ c,env.cells.lookup x=some c->X c)
noncomputable def OwnS (sc':Scope) (f:Fm) (X:Addr->Prop):Prop:=∀ x,locNm sc' x=true->OwnN f.sc f.env X x
theorem OwnS.self {h:Heap} (F:FRp g f.sc f.env m h):OwnS f.sc f (ownX f.env):=fun x hx=>(locNm_of hx).elim (fun q=>.loc q (.inl rfl)) fun q=>.cell q fun c hc=>.inr ⟨x,(kindOf_eq F x).trans q,hc⟩
theorem FRp.notMod {h:Heap} (F:FRp g sc env m h):(env.scope.kind==.class||(env.scope.kind==.module&&env.locals != env.globals))=false:=by rw [F.kind]; rfl
theorem store_any {v:AV} {cv:Value} {Q:Unit->Shared->Prop} (hs:OwnN f.sc f.env X x) (r:Rel f.w g σ s) (F:FSR f g m s.heap) (hv:VRep g s.heap v cv) (hQ:∀ s',Go f.w X g s g σ s'->FSR f g (m.put x (some v)) s'.heap->Q () s'):wpAny (model prg f.w) A (storeName f.env x cv) Q E s:=by
 obtain ⟨F,FO⟩:=F
 have ho:NmOk g s.heap (some v) (some cv):=fun u e=>by (injection e with e1; subst e1); exact ⟨cv,rfl,hv⟩
 induction hs using OwnN.casesOn with
 | loc hl hX=>
  obtain ⟨mc,hns,hm⟩:=F.loc
  refine wpAny_storeName_local ((kindOf_eq F x).trans hl) hns (fun h' hn' hs=>?_) F.notMod
  obtain ⟨o,es,ep,a,b,_⟩:=id hn'
  exact hQ {s with heap:=h',toks:=s.toks+1} (own_go r F.priv hX (fun a o ha e=>(hs.2 a ha).trans e) ⟨o,a⟩ rfl rfl) ⟨frp_loc F (fun y hly u=>hm y u hly) hl hn' hs ho,own_frames FO hs (.loc a b)⟩
 | cell hl hX=>
  obtain ⟨c,ov,h1,h2,h3,h4⟩:=F.cell x hl
  refine wpAny_storeName_cell F.kind ((kindOf_eq F x).trans hl) h1 h3 fun h' hc' hs=>?_
  obtain ⟨o,a,b⟩:=id hc'
  obtain ⟨o2,a2,b2⟩:=h3
  exact hQ {s with heap:=h'} (own_go r (by rw [h2]; trivial) (hX c h1) (fun a o ha e=>(hs.2 a ha).trans e) ⟨o,a⟩ rfl rfl) ⟨frp_cell F hl h1 h2 hc' hs ho,own_frames FO hs (.cell a2 b2)⟩
theorem goes_any {pos:Pos} {Q:Unit->Shared->Prop} (r:Rel f.w g σ s) (F:FSR f g m s.heap) (hl:f.sc.names.lookup x=some .local)
  (hQ:∀ s',Go f.w (ownX f.env) g s g σ s'->FSR f g (m.put x none) s'.heap->Q () s'):wpAny (model prg f.w) A (do bindName f.env x .none; unbindBehindTheSuite f.env x pos) Q E s:=by
 obtain ⟨F,FO⟩:=F
 obtain ⟨mc,hns,hm⟩:=F.loc
 refine wpAny_nameGoes_keeps ((kindOf_eq F x).trans hl) hns F.notMod fun h' v hn' hs=>?_
 obtain ⟨o,es,ep,a,b,_⟩:=id hn'
 exact hQ {s with heap:=h',toks:=s.toks+1} (own_go r F.priv (.inl rfl) (fun a o ha e=>(hs.2 a ha).trans e) ⟨o,a⟩ rfl rfl) ⟨frp_loc F (fun y hly u=>hm y u hly) hl hn' hs (fun u e=>by injection e),own_frames FO hs (.loc a b)⟩
theorem unpack_any {t:Addr} {items:Array Value} {Q:List Value->Shared->Prop} (r:Rel w g σ s) (hh:HOk A.handled s.heap) (ht:IsTup s.heap t items)
  (hQ:∀ s',Go w noX g s g σ s'->Q items.toList s'):wpAny (model prg w) A (unpackItems (.ref t) items.size none) Q E s:=by
 have hlt:t≠s.heap.objs.size:=by obtain ⟨o,ho,_⟩:=ht; exact Nat.ne_of_lt (Heap.lt_size ho)
 unfold unpackItems
 refine wpAny_bind ?_
 unfold notIterableAtAll
 refine wpAny_bind (wpAny_specialOf ht.typeIs slot_tuple_iter.lookup (wpAny_pure ?_))
 rw [if_neg (by decide)]
 refine wpAny_bind (wpAny_holding (iter_tuple ht ?_))
 refine wpAny_bind (wpAny_holding (draw_tuple hlt items.size 0 _ _ ⟨_,Heap.get?_push_size _ rfl,rfl,rfl⟩ (ht.push _) (by lia) fun h₁ hit₁ hs₁=>?_))
 rw [show List.take items.size (List.drop 0 items.toList)=items.toList by rw [List.drop_zero]; exact List.take_of_length_le (Nat.le_of_eq Array.length_toList),if_neg (by simp)]
 have k1:∀ b o,s.heap.get? b=some o->h₁.get? b=some o:=fun b o e=>hs₁.extBut b o (Nat.ne_of_lt (Heap.lt_size e)) (Heap.get?_push_of_some _ e)
 refine wpAny_bind (wpAny_holding (next_tuple_end' (hh.keep fun x o U=>k1 x o) hit₁ (ht.keeps k1) (by simp) (fun x hx=>?_) fun h₂ he₂ U=>?_))
 ·induction hh using HOk.casesOn with
  | no e=>injection e.symm.trans hx
  | ex e hb _ _=>cases e.symm.trans hx; exact Nat.ne_of_lt (Heap.lt_size hb)
 ·rw [if_neg (by decide)]
  exact wpAny_pure (hQ _ (.keeps r (fun b o e=>he₂ b o (Nat.ne_of_lt (Heap.lt_size e)) (k1 b o e)) rfl rfl))
inductive Acts (f:Fm):List (Value->Sem Unit)->List Str->Prop
 | nil:Acts f [] []
 | cons {a:Value->Sem Unit} {x:Str} {l:List (Value->Sem Unit)} {ns:List Str} (h:∀ {A:Around} {Q:Unit->Shared->Prop} {E:Value->Shared->Prop} {s:Shared} {cv:Value},wpAny (model prg f.w) A (storeName f.env x cv) Q E s->wpAny (model prg f.w) A (a cv) Q E s) (r:Acts f l ns):Acts f (a::l) (x::ns)
theorem Loc.puts_off:∀ {ns:List Str} {vs:List AV} {m:Loc},SameOff ns m (m.puts ns vs)
 | [],_,_=>.refl
 | _::_,[],_=>.refl
 | x::ns,v::vs,m=>(SameOff.put (V:=x::ns) (.head _)).trans (Loc.puts_off.more fun y hy=>.tail _ hy)
theorem Acts.run {as:List (Value->Sem Unit)} {ns:List Str} (a:Acts f as ns):∀ {vs:List AV} {cvs:List Value} {m:Loc} {s:Shared} {Q:Unit->Shared->Prop},(∀ x∈ns,OwnN f.sc f.env X x)->ns.length=vs.length->Rel f.w g σ s->FSR f g m s.heap->VReps g s.heap vs cvs->
  (∀ s',Go f.w X g s g σ s'->FSR f g (m.puts ns vs) s'.heap->Q () s')->wpAny (model prg f.w) A (assignInOrder as cvs) Q E s:=by
 induction a with
 | nil=>
  intro vs cvs m s Q hs hl r F hv hQ
  induction vs using List.casesOn with
  | nil=>rw [show cvs=[] from hv.inv]; exact wpAny_pure (hQ s (.refl r) F)
  | cons v vs=>injection hl
 | cons h a ih=>
  intro vs cvs m s Q hs hl r F hv hQ
  induction vs using List.casesOn with
  | nil=>injection hl
  | cons v vs=>
   obtain ⟨hv0,hvs⟩:=hv.inv
   unfold assignInOrder
   exact wpAny_bind (wpAny_holding (h (store_any (hs _ (.head _)) r F hv0 fun s1 go F1=>ih (fun y hy=>hs y (.tail _ hy)) (Nat.succ.inj hl) go.rel F1 (hvs.mono go.ext go.tr.val) fun s' go' F'=>hQ s' (go.trans go') F')))
theorem findIdx_none {es:List (Bool×(Value->Sem Unit))} (h:∀ e∈es,e.1=false):es.findIdx? (·.1)=none:=by
 rw [List.findIdx?_eq_none_iff]
 exact h
inductive NamesI (f:Fm) (ts:List Expr) (ns:List Str):Prop
 | mk {as:List (Value->Sem Unit)} (e:assignEach ts f.env=as.map (false,·)) (a:Acts f as ns) (n:namesOf ts=ns) (l:as.length=ns.length)
theorem nameOf_inv {t:Expr} {x:Str} (h:nameOf? t=some x):∃ p,t=.Name x p:=GuO.use (o:=nameOf? t) (C:=fun x=>∃ p,t=.Name x p) (by induction t using Expr.casesOn <;> first | exact trivial | exact ⟨_,rfl⟩) h
set_option tactic.hygienic true in
theorem names_inv:∀ {ts:List Expr} {ns:List Str},names? ts=some ns->NamesI f ts ns
 | [],ns,h=>by (injection h with e1; subst e1); exact .mk (as:=[]) rfl .nil rfl rfl
 | t::ts,ns,h=>by
  obtain ⟨x,h0,h⟩:=Option.bind_eq_some_iff.mp h
  obtain ⟨p,rfl⟩:=nameOf_inv h0
  obtain ⟨r,h1,rfl⟩:=Option.map_eq_some_iff.mp h
  obtain ⟨e,a,n,l⟩:=names_inv h1
  rename_i as
  exact .mk (as:=(fun v=>assign (.Name x p) f.env v)::as) (congrArg ((false,fun v=>assign (.Name x p) f.env v)::·) e) (.cons PyProof.Rows.assign_Name a) (congrArg (x::·) n) (congrArg Nat.succ l)
inductive TgtI (f:Fm) (sc':Scope) (m:Loc) (k:Loc->Prop):Expr->AV->Prop
 | name {x:Str} {p:Pos} {v:AV} (h:locNm sc' x=true) (q:k (m.put x (some v))):TgtI f sc' m k (.Name x p) v
 | tup {ts:List Expr} {cc:Nat} {p:Pos} {ns:List Str} {xs:List AV} (h:NamesI f ts ns) (hl:∀ x∈ns,locNm sc' x=true) (l:ns.length=xs.length) (q:k (m.puts ns xs)):TgtI f sc' m k (.Tuple ts cc p) (.tup xs)
inductive NsI (ns:List Str) (m:Loc) (k:Loc->Prop):AV->Prop
 | mk {xs:List AV} (l:ns.length=xs.length) (q:k (m.puts ns xs)):NsI ns m k (.tup xs)
theorem vcNs_inv {v:AV} {k:Loc->Prop} {ns:List Str} (h:vcNs v m k ns):NsI ns m k v:=by
 unfold vcNs at h
 by_cases h2:(ns.length==2)=true
 ·rw [if_pos h2] at h; obtain ⟨a,b,rfl,q⟩:=h; exact ⟨beq_iff_eq.mp h2,q⟩
 rw [if_neg h2] at h
 by_cases h3:(ns.length==3)=true
 ·rw [if_pos h3] at h; obtain ⟨a,b,c,rfl,q⟩:=h; exact ⟨beq_iff_eq.mp h3,q⟩
 rw [if_neg h3] at h
 by_cases h4:(ns.length==4)=true
 ·rw [if_pos h4] at h; obtain ⟨a,b,c,d,rfl,q⟩:=h; exact ⟨beq_iff_eq.mp h4,q⟩
 rw [if_neg h4] at h
 by_cases h6:(ns.length==6)=true
 ·rw [if_pos h6] at h; obtain ⟨a,b,c,d,e,f,rfl,q⟩:=h; exact ⟨beq_iff_eq.mp h6,q⟩
 ·rw [if_neg h6] at h; exact h.elim
theorem ifF {c:Bool} {P:Prop} (h:if c then False else P):c=false∧P:=by
 induction c using Bool.casesOn
 ·exact ⟨rfl,h⟩
 ·exact h.elim
theorem ifT {c:Bool} {P:Prop} (h:if c then P else False):c=true∧P:=by
 induction c using Bool.casesOn
 ·exact h.elim
 ·exact ⟨rfl,h⟩
theorem vb0:∀ (sc:Scope) (v:AV) (m:Loc) (k:Loc->Prop),False->False:=fun U U U U=>id
theorem vcBind_inv {t:Expr} {v:AV} {k:Loc->Prop} (h:vcBind sc' t v m k):TgtI f sc' m k t v:=by
 induction h1:tagE t==13 using Bool.casesOn with
 | true=>
  obtain ⟨x,p,rfl⟩:=nameE_inv h1
  obtain ⟨h1,h2⟩:=ifT h
  exact .name h1 h2
 | false=>
 induction h2:tagE t==15 using Bool.casesOn with
 | false=>exact (Gu.use (b:=!(tagE t==13)&&!(tagE t==15)) (C:=∀ sc v m k,vcBind sc t v m k->False) (by induction t using Expr.casesOn <;> first | exact trivial | exact vb0) (by rw [h1,h2]; rfl) sc' v m k h).elim
 | true=>
  obtain ⟨ts,cc,p,rfl⟩:=tupE_inv h2
  unfold vcBind at h
  dsimp only at h
  induction hn:names? ts using Option.casesOn with
  | none=>rw [hn] at h; exact h.elim
  | some ns=>
   rw [hn] at h
   obtain ⟨h1,h2⟩:=ifT h
   obtain ⟨l,q⟩:=vcNs_inv h2
   exact .tup (names_inv hn) (List.all_eq_true.mp h1) l q
set_option tactic.hygienic true in
theorem assign_any {t:Expr} {v:AV} {cv:Value} {k:Loc->Prop} {Q:Unit->Shared->Prop} (hs:OwnS sc' f X) (r:Rel f.w g σ s) (F:FSR f g m s.heap) (hv:VRep g s.heap v cv) (hh:HOk A.handled s.heap) (q:TgtI f sc' m k t v)
  (hQ:∀ s' m',Go f.w X g s g σ s'->FSR f g m' s'.heap->SameOff (modT t) m m'->(∀ x∈modT t,locNm sc' x=true)->k m'->Q () s'):wpAny (model prg f.w) A (assign t f.env cv) Q E s:=by
 induction q using TgtI.casesOn with
 | name h q=>exact PyProof.Rows.assign_Name (store_any (hs _ h) r F hv fun s' go F'=>hQ s' _ go F' (.put (.head _)) (fun y hy=>by rw [List.mem_singleton.mp hy]; exact h) q)
 | tup h hl l q=>
  obtain ⟨kv,e,hx⟩:=hv.inv
  obtain ⟨ha,a,hn,la⟩:=h
  rename_i ts cc p ns xs p2 d vs n2 sl as
  have hz:as.length=vs.size:=by rw [la,l,← hx.length,Array.length_toList]
  rw [PyProof.Rows.assign_Tuple]
  refine wpAny_bind (wpAny_standAt ?_)
  unfold unpack
  rw [ha,findIdx_none (fun e he=>by obtain ⟨_,_,rfl⟩:=List.mem_map.mp he; rfl),List.length_map,hz]
  refine wpAny_bind (wpAny_holding (unpack_any r hh ⟨_,e,rfl,_,rfl⟩ fun s1 go=>?_))
  rw [List.map_map,show as.map ((fun x:Bool×(Value->Sem Unit)=>x.2) ∘ (false,·))=as from List.map_id as]
  have go1:Go f.w X g s g σ s1:=go.moreX fun U z=>z.elim
  refine a.run (fun x hx=>hs x (hl x hx)) l go.rel ⟨F.fr.go go,F.fk.go0 go⟩ (hx.mono go.ext go.tr.val) fun s' go' F'=>hQ s' _ (go1.trans go') F' ?_ ?_ q
  ·show SameOff (namesOf ts) _ _
   rw [hn]; exact Loc.puts_off
  ·show ∀ x∈namesOf ts,_
   rw [hn]; exact hl
end
inductive ItK (w:World) (g:Gh) (h:Heap) (σ₀:AHeap) (i:Nat) (o:Obj):AV->List AV->Prop
 | list {v:AV} {xs:List AV} {a:Addr} (c:o.cls=.type "list_iterator") (d:o.data=.fields #[.ref a,.int i 0]) (hv:VRep g h v (.ref a)) (l:ListR σ₀ v xs):ItK w g h σ₀ i o v xs
 | tup {xs:List AV} {a:Addr} (c:o.cls=.type "tuple_iterator") (d:o.data=.fields #[.ref a,.int i 0]) (hv:VRep g h (.tup xs) (.ref a)):ItK w g h σ₀ i o (.tup xs) xs
 | rng {n:Nat} (e:o={cls:=.type "range_iterator",data:=.fields #[rawInt i,rawInt ((n:Int) - i),rawInt 1]}):ItK w g h σ₀ i o (.rng n) ((List.range n).map fun (k:Nat)=>AV.int k)
 | dict {j a ep:Nat} {l:List (Str×Value)} (c:o.cls=.type "dict_keyiterator") (d:o.data=.fields #[.ref a,.int i 0,.int l.length 0,.int ep 0]) (hk:(g.κ a).val) (hd:h.DictAt (strKind prg w) a l ep):ItK w g h σ₀ i o (.ref j) (l.map fun p=>.str p.1)
inductive ItR (w:World) (g:Gh) (h:Heap) (it:Addr) (σ₀:AHeap) (v:AV) (xs:List AV) (i:Nat):Prop
 | mk {o:Obj} (e:h.get? it=some o) (k:ItK w g h σ₀ i o v xs)
noncomputable abbrev itX (it:Addr):Addr->Prop:=fun a=>a=it
inductive ItF (o:Obj):Prop
 | mk {T:String} {vs:Array Value} (c:o.cls=.type T) (d:o.data=.fields vs) (n:(["enumerate","zip","dict_itemiterator","dict_reverseitemiterator","odict_iterator","itertools.zip_longest","itertools.pairwise"].contains T)=false)
section
variable {w:World} {A:Around} {g g':Gh} {h h':Heap} {σ σ₀:AHeap} {s s':Shared} {E:Value->Shared->Prop} {it:Addr} {v:AV} {xs:List AV} {i:Nat} {X:Addr->Prop} {fl:List Env}
theorem ItK.form {o:Obj} (I:ItK w g h σ₀ i o v xs):ItF o:=by
 induction I using ItK.casesOn with
 | list c d _ _=>exact ⟨c,d,by decide⟩
 | tup c d _=>exact ⟨c,d,by decide⟩
 | rng e=>subst e; exact ⟨rfl,rfl,by decide⟩
 | dict c d _ _=>exact ⟨c,d,by decide⟩
theorem ItK.go {o:Obj} (I:ItK w g h σ₀ i o v xs) (x:Ext g g') (st:Stays g h h'):ItK w g' h' σ₀ i o v xs:=by
 induction I using ItK.casesOn with
 | list c d hv l=>exact .list c d (hv.mono x st) l
 | tup c d hv=>exact .tup c d (hv.mono x st)
 | rng e=>exact .rng e
 | dict c d hk hd=>
  obtain ⟨od,es,hod,r⟩:=hd
  exact .dict c d (by rw [x.κ _ hk.firm]; exact hk) ⟨od,es,st _ _ hod hk,r⟩
theorem ItR.go (I:ItR w g h it σ₀ v xs i) (hp:g.κ it=.priv) (hX:¬ X it) (x:Ext g g') (k:TrP g X h h'):ItR w g' h' it σ₀ v xs i:=by
 obtain ⟨e,I⟩:=I
 obtain ⟨sl,h1,h2⟩:=k.priv it _ e (by rw [hp]; trivial) hX
 rw [h2 hp] at h1
 exact ⟨h1,I.go x k.val⟩
theorem ListR.stands (l:ListR σ₀ v xs) (hst:standsA σ₀ v σ):ListR σ v xs:=by
 induction l using ListR.casesOn with
 | lst=>exact .lst
 | ref h=>unfold standsA at hst; dsimp only at hst; rw [h] at hst; exact .ref hst
theorem it_go {t:Nat} (r:Rel w g σ s) (hp:g.κ it=.priv) (hs:∀ b o,b≠it->s.heap.get? b=some o->h'.get? b=some o) (hb:∃ o,h'.get? it=some o):Go w (itX it) g s g σ {s with heap:=h',toks:=t}:=
 own_go (b:=it) (s':={s with heap:=h',toks:=t}) r (by rw [hp]; trivial) rfl hs hb rfl rfl
theorem it_next {x:AV} {Q:Option Value->Shared->Prop} (r:Rel w g σ s) (hp:g.κ it=.priv) (I:ItR w g s.heap it σ₀ v xs i) (hst:standsA σ₀ v σ) (hx:xs[i]?=some x)
  (hQ:∀ cx s',VRep g s'.heap x cx->ItR w g s'.heap it σ₀ v xs (i+1)->Go w (itX it) g s g σ s'->Q (some cx) s'):wpAny (model prg w) A (pyNext (.ref it)) Q E s:=by
 obtain ⟨e,I⟩:=I
 have fin:∀ {cx:Value} {h':Heap} {o:Obj} {t:Nat},VRep g s.heap x cx->h'.get? it=some o->Heap.SameBut it s.heap h'->(Stays g s.heap h'->ItK w g h' σ₀ (i+1) o v xs)->Q (some cx) {s with heap:=h',toks:=t}:=fun {cx h' o t} hv ho hs k=>by
  have hs':∀ b o,b≠it->s.heap.get? b=some o->h'.get? b=some o:=fun b o hb e=>(hs.2 b hb).trans e
  have st:Stays g s.heap h':=fun b o e hk=>hs' b o (by rintro rfl; rw [hp] at hk; exact hk) e
  exact hQ cx {s with heap:=h',toks:=t} (hv.mono (.refl g) st) ⟨ho,k st⟩ (it_go r hp hs' ⟨_,ho⟩)
 induction I using ItK.casesOn with
 | list c d hv l=>
  obtain ⟨e1,hxs⟩:=list_of r hv (l.stands hst)
  obtain ⟨cx,c1,c2⟩:=hxs.getA hx
  refine wpAny_pyNext_list_item ⟨_,e,c,d⟩ ⟨_,e1,rfl,_,rfl⟩ c1 fun h' hit hs=>?_
  obtain ⟨o',ho,hc,hd⟩:=hit
  exact fin c2 ho hs fun st=>.list hc hd (hv.mono (.refl g) st) l
 | tup c d hv=>
  obtain ⟨_,e1,hxs⟩:=hv.inv
  obtain ⟨cx,c1,c2⟩:=hxs.getA hx
  refine wpAny_pyNext_tuple_item ⟨_,e,c,d⟩ ⟨_,e1,rfl,_,rfl⟩ c1 fun h' hit hs=>?_
  obtain ⟨o',ho,hc,hd⟩:=hit
  exact fin c2 ho hs fun st=>.tup hc hd (hv.mono (.refl g) st)
 | @rng n eo=>
  subst eo
  obtain ⟨k,hk,rfl⟩:=Option.map_eq_some_iff.mp ((List.getElem?_map (l:=List.range n) (i:=i)).symm.trans hx)
  obtain ⟨hlt,rfl⟩:=List.getElem?_eq_some_iff.mp hk
  rw [List.length_range] at hlt
  rw [List.getElem_range] at fin
  refine wpAny_pyNext_range_item (x:=(i:Int)) (left:=(n:Int) - i) (step:=1) e (by lia) fun h' hit hs=>fin (.int _ _) hit hs fun st=>.rng ?_
  rw [Int.natCast_add,← Int.sub_sub]; rfl
 | dict c d hk hd=>
  obtain ⟨⟨k,cv⟩,hl,rfl⟩:=Option.map_eq_some_iff.mp (List.getElem?_map.symm.trans hx)
  refine wpAny_pyNext_dict_item ⟨_,e,c,d⟩ hd hl fun key h' hk' hit hs=>?_
  obtain ⟨t,rfl⟩:=Value.isStrOf_shape hk'
  obtain ⟨o',ho,hc,hdd⟩:=hit
  obtain ⟨od,es,hod,rr⟩:=hd
  exact fin (.str _ _) ho hs fun st=>.dict hc hdd hk ⟨od,es,st _ _ hod hk,rr⟩
theorem it_end {Q:Option Value->Shared->Prop} (r:Rel w g σ s) (hp:g.κ it=.priv) (hh:HOk A.handled s.heap) (hne:∀ x,A.handled=some (.ref x)->x≠it) (I:ItR w g s.heap it σ₀ v xs i) (hst:standsA σ₀ v σ) (hx:xs[i]?=none)
  (hQ:∀ s',Go w (itX it) g s g σ s'->Q none s'):wpAny (model prg w) A (pyNext (.ref it)) Q E s:=by
 obtain ⟨e,I⟩:=I
 have fin:∀ h',Heap.ExtBut it s.heap h'->(∃ o,h'.get? it=some o)->Q none {s with heap:=h'}:=fun h' hs hb=>hQ _ (it_go (t:=s.toks) r hp hs hb)
 have hx:=List.getElem?_eq_none_iff.mp hx
 induction I using ItK.casesOn with
 | list c d hv l=>
  obtain ⟨e1,hxs⟩:=list_of r hv (l.stands hst)
  exact next_list_end hh ⟨_,e,c,d⟩ ⟨_,e1,rfl,_,rfl⟩ (Array.getElem?_eq_none (by rw [hxs.size]; exact hx)) hne fin
 | tup c d hv=>
  obtain ⟨_,e1,hxs⟩:=hv.inv
  exact next_tuple_end' hh ⟨_,e,c,d⟩ ⟨_,e1,rfl,_,rfl⟩ (Array.getElem?_eq_none (by rw [hxs.size]; exact hx)) hne fin
 | rng eo=>
  subst eo
  rw [List.length_map,List.length_range] at hx
  exact next_range_end hh e (by lia) fin
 | dict c d hk hd=>
  rw [List.length_map] at hx
  exact next_dict_end hh ⟨_,e,c,d⟩ hd (List.getElem?_eq_none hx) hne fin
theorem it_self {Q:Value->Shared->Prop} (I:ItR w g s.heap it σ₀ v xs i) (hq:Q (.ref it) s):wpAny (model prg w) A (pyIter (.ref it)) Q E s:=by
 obtain ⟨e,I⟩:=I
 induction I using ItK.casesOn with
 | list c d _ _=>exact wpAny_pyIter_listiter ⟨_,e,c,d⟩ hq
 | tup c d _=>exact wpAny_pyIter_tupleiter ⟨_,e,c,d⟩ hq
 | rng eo=>subst eo; exact wpAny_pyIter_rangeiter e hq
 | dict c d _ _=>exact wpAny_pyIter_keyiter ⟨_,e,c,d⟩ hq
theorem rangeSize_to (n:Nat):Builtin.Range.rangeSize 0 n 1=n:=by
 unfold Builtin.Range.rangeSize
 rw [if_pos (by decide)]
 split
 ·rw [Int.ediv_one]; lia
 ·lia
inductive MadeI (w:World) (P:List AV->AHeap->Prop) (g:Gh) (s:Shared) (v:AV):Value->Shared->Prop
 | mk {it:Addr} {g':Gh} {σ':AHeap} {xs:List AV} {s':Shared} (go:Go w noX g s g' σ' s') (hp:g'.κ it=.priv) (hf:g.κ it=.free) (I:ItR w g' s'.heap it σ' v xs 0) (hl:xs.length<=lim) (q:P xs σ'):MadeI w P g s v (.ref it) s'
theorem it_fresh {P:List AV->AHeap->Prop} {g1:Gh} {σ1:AHeap} {o:Obj} (r:Rel w g σ s) (go:Go w noX g s g1 σ1 s) (hf:g1.κ s.heap.objs.size=.free) (ho:o.isFreed=false) (hl:xs.length<=lim) (q:P xs σ1) (k:Ext g g1->Stays g s.heap (s.heap.push o)->ItK w g1 (s.heap.push o) σ1 0 o v xs):MadeI w P g s v (.ref s.heap.objs.size) {s with heap:=s.heap.push o}:=
 have x:Ext g1 (g1.mark s.heap.objs.size .priv):=.mark _ (by rw [hf]; exact id)
 .mk ((go.trans (Go.push go.rel o)).mark .priv ⟨_,Heap.get?_push_size _ ho⟩ hf) (Gh.mark_self _ _ _) (r.free _ (Nat.le_refl _)) ⟨Heap.get?_push_size _ ho,(k go.ext fun a o e U=>Heap.get?_push_of_some _ e).go x (.refl _ _)⟩ hl q
theorem keyOk_str {x:Str}:keyOk (.str x)=isStrA:=funext fun v=>by induction v using AV.casesOn <;> rfl
theorem LRep.strs {kvs:List (AV×AV)} {l:List (Str×Value)} (r:LRep AV.str g h kvs l):kvs.map (·.1)=l.map fun p=>AV.str p.1:=by
 induction r with
 | nil=>rfl
 | cons _ _ ih=>exact congrArg (_::·) ih
theorem range_small {n:Nat} (h:n<=lim):Builtin.Range.small 0 n 1=true:=by
 have h:n<=1000000:=h
 unfold Builtin.Range.small
 rw [rangeSize_to]
 unfold Builtin.Range.rangeFitsLong
 simp only [Bool.and_eq_true,decide_eq_true_eq,Bool.or_eq_true]
 have b:(-2 ^ 63:Int)<=n∧(n:Int)<2 ^ 63:=by omega
 refine ⟨⟨⟨⟨by decide,b⟩,by decide⟩,b⟩,.inr ?_⟩
 rw [if_pos (by decide),Int.sub_self,Int.add_zero,decide_eq_true b.1,decide_eq_true b.2]; rfl
theorem it_make {cv:Value} {P:List AV->AHeap->Prop} (r:Rel w g σ s) (hv:VRep g s.heap v cv) (hm:LoopP σ P v):wpAny (model prg w) A (pyIter cv) (MadeI w P g s v) E s:=by
 have hfr:=r.free s.heap.objs.size (Nat.le_refl _)
 induction hm using LoopP.casesOn with
 | lst l hl q=>
  obtain ⟨e,hxs⟩:=list_of r hv l
  exact wpAny_pyIter_list ⟨_,e,rfl,_,rfl⟩ (it_fresh r (.refl r) hfr rfl hl q fun x st=>.list rfl rfl (hv.mono x st) l)
 | tup hl q=>
  obtain ⟨_,e,hxs⟩:=id hv.inv
  exact wpAny_pyIter_tuple ⟨_,e,rfl,_,rfl⟩ (it_fresh r (.refl r) hfr rfl hl q fun x st=>.tup rfl rfl (hv.mono x st))
 | rng hl q=>
  obtain ⟨_,hr⟩:=hv.inv
  refine wpAny_pyIter_range hr (range_small hl) (it_fresh r (.refl r) hfr rfl (by rw [List.length_map,List.length_range]; exact hl) q fun x st=>.rng ?_)
  rw [rangeSize_to]; rfl
 | @dict j kvs hg hs hl q=>
  obtain ⟨_,rfl⟩:=hv.inv
  obtain ⟨l,d,lr⟩:=kdict_s (x:=⟨#[]⟩) (r.rep hg) (by rw [keyOk_str]; exact hs)
  obtain ⟨o,es,ep,d⟩:=d
  have D:s.heap.DictAt (strKind prg w) (g.ρ j) l ep:=⟨o,es,d⟩
  have lt:g.ρ j<s.heap.objs.size:=Heap.lt_size d.1
  obtain ⟨r2,x2⟩:=r.lock hg
  refine wpAny_pyIter_dict (r.notSys hg rfl) D (it_fresh r ⟨x2,r2,.refl g _ _,rfl⟩ ((Gh.mark_ne g _ (Nat.ne_of_gt lt)).trans hfr) rfl (by rw [List.length_map]; exact hl) q fun x st=>?_)
  rw [lr.strs]
  exact .dict rfl rfl (by rw [Gh.mark_self]; trivial) (D.push _)
theorem frames_notIt (F:FramesOk g h fl) (I:ItR w g h it σ₀ v xs i):∀ e∈fl,∀ L,e.frame=some L->¬ itX it L:=fun e he L hL q=>by
 obtain ⟨_,h1,h2,h3,h4⟩:=F e he
 cases hL.symm.trans h1
 obtain ⟨ho,k⟩:=I
 obtain ⟨_,d,_⟩:=k.form
 rw [show L=it from q] at h3
 cases ho.symm.trans h3
 injection d.symm.trans h4
theorem lt0:∀ it v:Value,(pure ():Sem Unit)=pure ():=fun U U=>rfl
theorem letOwned_go {it a:Addr} {s:Shared} {Q:Unit->Shared->Prop} (I:ItR w g s.heap it σ₀ v xs i) (hq:Q () s):wpAny (model prg w) A (letOwnedTupleGo (.Tuple [] 0 default) (.ref it) (.ref a)) Q E s:=by
 obtain ⟨ho,k⟩:=I
 obtain ⟨c,d,n⟩:=k.form
 unfold letOwnedTupleGo
 dsimp only
 refine wpAny_bind (wpAny_load ho ?_)
 rw [c,d]
 dsimp only
 rw [n,Bool.false_and,if_neg (by decide)]
 exact wpAny_pure hq
theorem letOwned_any {target:Expr} {cv:Value} {Q:Unit->Shared->Prop} (I:ItR w g s.heap it σ₀ v xs i) (hq:Q () s):wpAny (model prg w) A (letOwnedTupleGo target (.ref it) cv) Q E s:=by
 induction h:tagE target==15||tagE target==14 using Bool.casesOn with
 | false=>exact (Gu.use (b:=!(tagE target==15||tagE target==14)) (C:=∀ it v,letOwnedTupleGo target it v=pure ()) (by induction target using Expr.casesOn <;> first | exact trivial | exact lt0) (by rw [h]; rfl) (.ref it) cv).symm▸wpAny_pure hq
 | true=>
  have e:letOwnedTupleGo target (.ref it) cv=letOwnedTupleGo (.Tuple [] 0 default) (.ref it) cv:=Gu.use (C:=∀ it v,letOwnedTupleGo target it v=letOwnedTupleGo (.Tuple [] 0 default) it v) (by induction target using Expr.casesOn <;> first | exact trivial | exact fun U U=>rfl) h (.ref it) cv
  rw [e]
  induction cv using Value.casesOn with
  | ref a=>exact letOwned_go I hq
  | _=>exact wpAny_pure hq
end
inductive HeadOk (env:Env):List Env->Prop
 | mk {e0:Env} {outer:List Env} (e:e0.frame=env.frame):HeadOk env (e0::outer)
section
variable {w:World} {A:Around} {f:Fm} {n k:Nat} {hd:Option Nat} {g0 g g':Gh} {m0 m m':Loc} {σ σ':AHeap} {s0 s s':Shared} {X Y:Addr->Prop} {V V':List Str} {i:Nat} {c:Addr} {fs:List (Str×AV)}
theorem Ext.notfirm {a:Addr} (x:Ext g0 g) (h:¬ (g.κ a).firm):¬ (g0.κ a).firm:=fun hf=>h (by rw [x.κ a hf]; exact hf)
theorem Go.thenN (go0:Go w X g0 s0 g σ s) (hY:∀ a,Y a->X a∨¬ (g0.κ a).firm) (go:Go w Y g s g' σ' s'):Go w X g0 s0 g' σ' s':=
 ⟨go0.ext.trans go.ext,go.rel,⟨fun a o e hv=>go.tr.val a o (go0.tr.val a o e hv) (by rw [go0.ext.κ _ hv.firm]; exact hv),fun a o e hp hX=>by
  obtain ⟨sl,h1,h2⟩:=go0.tr.priv a o e hp hX
  have ek:=go0.ext.κ a hp.firm
  obtain ⟨sl',h3,h4⟩:=go.tr.priv a _ h1 (by rw [ek]; exact hp) fun q=>(hY a q).elim hX fun z=>z hp.firm
  exact ⟨sl',h3,fun q=>(h4 (ek.trans q)).trans (h2 q)⟩⟩,go.os.trans go0.os⟩
theorem FSR.go (F:FSR f g m s.heap) (go:Go f.w noX g s g' σ' s'):FSR f g' m s'.heap:=⟨F.fr.go go,F.fk.go0 go⟩
theorem GoS.refl (r:Rel f.w g σ s) (F:FSR f g m s.heap):GoS f X V m g s g σ m s:=⟨.refl r,F,.refl⟩
theorem GoS.trans {g2:Gh} {σ2:AHeap} {m2:Loc} {s2:Shared} (a:GoS f X V m0 g0 s0 g σ m s) (b:GoS f X V m g s g2 σ2 m2 s2):GoS f X V m0 g0 s0 g2 σ2 m2 s2:=⟨a.go.trans b.go,b.fs,a.so.trans b.so⟩
theorem GoS.more (a:GoS f X V m0 g0 s0 g σ m s) (h:∀ y,y∈V->y∈V'):GoS f X V' m0 g0 s0 g σ m s:=⟨a.go,a.fs,a.so.more h⟩
theorem GoS.ex (a:GoS f X V m0 g0 s0 g σ m s) (go:Go f.w noX g s g' σ' s'):GoS f X V m0 g0 s0 g' σ' m s':=⟨a.go.trans (go.moreX fun U z=>z.elim),a.fs.go go,a.so⟩
theorem GoS.ex0 (F:FSR f g m s.heap) (go:Go f.w noX g s g' σ' s'):GoS f X V m g s g' σ' m s':=⟨go.moreX fun U z=>z.elim,F.go go,.refl⟩
theorem OkS.pre {Q:SQ} {cf:Flow} (a:GoS f X V m0 g0 s0 g σ m s):OkS f X V m g s Q cf s'->OkS f X V m0 g0 s0 Q cf s'
 | ⟨go,r,q⟩=>⟨a.trans go,r,q⟩
theorem ErS.pre {E:SX} {e:Value} (a:GoS f X V m0 g0 s0 g σ m s) (h:ErS f X V m g s E e s'):ErS f X V m0 g0 s0 E e s':=by
 obtain ⟨go,hi,q⟩:=h
 exact ⟨a.trans go,hi,q⟩
theorem note_any {E:Value->Shared->Prop} {Q:Unit->Shared->Prop} (r:Rel f.w g σ s) (F:FSR f g m s.heap) (hi:σ.get i=some (.exc c fs)) (hf:A.frames=some f.fl) (hfl:HeadOk f.env f.fl)
  (h:∀ g' s',Go f.w noX g s g' σ s'->g'.τ i=true->g'.ρ i=g.ρ i->Q () s'):wpAny (model prg f.w) A (noteFrame (.ref (g.ρ i)) f.env) Q E s:=by
 obtain ⟨fw,fsc,fe,fl⟩:=f
 dsimp only at hfl
 induction hfl using HeadOk.casesOn with
 | mk he=>exact noteFrame_any r hi hf he F.fk fun g' s' go ht=>h g' s' go ht (go.ext.ρ i (r.objs _ _ hi).lt)
theorem ErS.noted {A':Around} {E:SX} (a:GoS f X V m0 g0 s0 g σ m s) (hi:σ.get i=some (.exc c fs)) (q:E i σ m) (hf:A'.frames=some f.fl) (hfl:HeadOk f.env f.fl) :
  notedBy (model prg f.w) A' f.env (fun e s'=>cameBackBy (model prg f.w) A f.env (ErS f X V m0 g0 s0 E) e s') (.ref (g.ρ i)) s:=by
 unfold notedBy
 refine note_any a.go.rel a.fs hi hf hfl fun g' s' go ht hρ=>?_
 rw [← hρ]
 exact cameBack_any go.rel hi ht fun s'' go'=>⟨(a.ex go).ex go',hi,q⟩
theorem execs_nil {Q:Flow->Shared->Prop} {E:Value->Shared->Prop} {env:Env} (h:Q .next s):wpAny (model prg w) A (execs [] env) Q E s:=wpAny_pure h
theorem exc_ne_it {it:Addr} {h:Heap} {fl:List Env} (r:Rel w g σ s) (am:Amb A g h fl n k hd) (hp:g.κ it=.priv):∀ x,A.handled=some (.ref x)->x≠it:=fun x hx q=>by
 rw [am.hd] at hx
 induction hd using Option.casesOn with
 | none=>injection hx
 | some j=>
  (injection hx with e1; cases e1)
  obtain ⟨c,fs,hi⟩:=r.trc j (am.tr j rfl)
  have:g.κ (g.ρ j)=.obj j:=(r.objs _ _ hi).inj
  rw [q,hp] at this; injection this
theorem forLoop_own {R:Result->Shared->Prop} {target:Expr} {it:Value} {body orelse:List Stmt} {env:Env} (I:Nat->Shared->Prop)
  (turn:∀ n s,I n s->wpAny (model prg w) A (pyNext it) (fun r s₁=>match r with
   | none=>wpAny (model prg w) A (execs orelse env) (fun f s₃=>R (.ok f) s₃) (notedBy (model prg w) A env fun e s'=>R (.error e) s') s₁
   | some v=>wpAny (model prg w) A (letOwnedTupleGo target it v) (fun U s₁'=>wpAny (model prg w) A (assign target env v) (fun U s₂=>wpAny (model prg w) A (execs body env) (fun f s₃=>match f with
     | .next | .cont=>∃ m,m<n∧I m s₃
     | .brk=>R (.ok .next) s₃
     | .ret v=>R (.ok (.ret v)) s₃) (notedBy (model prg w) A env fun e s'=>R (.error e) s') s₂) (notedBy (model prg w) A env fun e s'=>R (.error e) s') s₁') (notedBy (model prg w) A env fun e s'=>R (.error e) s') s₁) (notedBy (model prg w) A env fun e s'=>R (.error e) s') s)
  (n:Nat) (h:I n s):codeAny (model prg w) A (.forLoop target it body orelse env) R s:=by
 refine codeAny_loop' rfl I (fun n s hI=>?_) n h
 show wpAny _ _ ((forTurn target it body orelse env).onRaise (fun x=>do noteFrame x env; theTreesLotGoes x)) _ _ s
 refine wpAny_noted ?_
 simp only [forTurn]
 refine wpAny_bind (wpAny_standAt (wpAny_bind (wpAny_onRaise (wpAny_mono (turn n s hI) (fun r s₁ h₁=>?_) fun U U h'=>wpAny_standAt h'))))
 induction r using Option.casesOn with
 | none=>exact wpAny_pure (.inr ⟨rfl,codeAny_block h₁⟩)
 | some v=>
  refine wpAny_bind (wpAny_mono h₁ (fun U s₁' h₁'=>?_) fun U U h'=>h')
  refine wpAny_bind (wpAny_mono h₁' (fun U s₂ h₂=>wpAny_bind (wpAny_mono h₂ (fun f s₃ h₃=>?_) fun U U h'=>h')) fun U U h'=>h')
  induction f using Flow.casesOn with
  | next=>exact wpAny_pure (.inl ⟨rfl,h₃⟩)
  | cont=>exact wpAny_pure (.inl ⟨rfl,h₃⟩)
  | brk=>exact wpAny_pure h₃
  | ret v=>exact wpAny_pure h₃
noncomputable def SuiteP (f:Fm) (V:List Str) (A:Around) (n k:Nat) (hd:Option Nat) (body:List Stmt) (x:AHeap->Loc->SQ->SX->Prop):Prop:=
 ∀ {g:Gh} {σ:AHeap} {m:Loc} {s:Shared} {Q:SQ} {E:SX},Rel f.w g σ s->FSR f g m s.heap->Amb A g s.heap f.fl n k hd->x σ m Q E->WS f V A m g s (execs body f.env) Q E
inductive ForI (f:Fm) (it:Addr) (σ₀:AHeap) (v:AV) (xs:List AV) (V:List Str) (m0:Loc) (J:List AV->AHeap->List (Option AV)->Prop) (g0:Gh) (s0:Shared) (n:Nat) (s':Shared):Prop
 | mk {g':Gh} {σ':AHeap} {m':Loc} {i:Nat} (hn:n=xs.length - i) (hi:i<=xs.length) (go:GoS f (ownX f.env) V m0 g0 s0 g' σ' m' s') (hp:g'.κ it=.priv) (I:ItR f.w g' s'.heap it σ₀ v xs i) (j:J (xs.drop i) σ' (V.map m')):ForI f it σ₀ v xs V m0 J g0 s0 n s'
theorem drop_get {α:Type} {l r:List α} {a:α} {i:Nat} (h:l.drop i=a::r):l[i]?=some a∧i<l.length∧l.drop (i+1)=r:=by
 have e:=congrArg (fun l=>l[0]?) h
 rw [List.getElem?_drop] at e
 refine ⟨e,?_,by rw [← List.drop_drop,h]; rfl⟩
 rcases Nat.lt_or_ge i l.length with z | z
 ·exact z
 ·rw [List.drop_eq_nil_of_le z] at h; injection h
inductive LoopO (f:Fm) (A:Around) (V:List Str) (m0:Loc) (g0:Gh) (s0:Shared) (Q:SQ) (E:SX):Result->Shared->Prop
 | ok {cf:Flow} {s':Shared} (h:OkS f (ownX f.env) V m0 g0 s0 Q cf s'):LoopO f A V m0 g0 s0 Q E (.ok cf) s'
 | err {e:Value} {s':Shared} (h:cameBackBy (model prg f.w) A f.env (ErS f (ownX f.env) V m0 g0 s0 E) e s'):LoopO f A V m0 g0 s0 Q E (.error e) s'
theorem LoopO.noted {E:SX} {Q:SQ} (a:GoS f (ownX f.env) V m0 g0 s0 g σ m s) (hi:σ.get i=some (.exc c fs)) (q:E i σ m) (hf:A.frames=some f.fl) (hfl:HeadOk f.env f.fl):notedBy (model prg f.w) A f.env (fun e s'=>LoopO f A V m0 g0 s0 Q E (.error e) s') (.ref (g.ρ i)) s:=by
 have z:=ErS.noted (A:=A) a hi q hf hfl
 unfold notedBy at z ⊢
 exact wpAny_mono z (fun U U=>.err) fun U U=>.err
theorem turn_end {it:Addr} {v:AV} {xs r:List AV} {σ₀:AHeap} {J:List AV->AHeap->List (Option AV)->Prop} {Q:SQ} {E:SX} {cf:Flow} (a:GoS f (ownX f.env) V m0 g0 s0 g σ m s) (hp:g.κ it=.priv) (hown:¬ ownX f.env it) (I:ItR f.w g s.heap it σ₀ v xs (i+1)) (hlt:i<xs.length) (hr:xs.drop (i+1)=r)
  (h:OkS f (ownX f.env) V m g s (inLoop (fun σ m=>J r σ (V.map m)) Q) cf s'):(match (motive:=Flow->Prop) cf with
     | .next | .cont=>∃ m,m<xs.length - i∧ForI f it σ₀ v xs V m0 J g0 s0 m s'
     | .brk=>LoopO f A V m0 g0 s0 Q E (.ok .next) s'
     | .ret v=>LoopO f A V m0 g0 s0 Q E (.ok (.ret v)) s'):=by
 obtain ⟨go,hf,q⟩:=h
 have next:J r _ (V.map _)->∃ m,m<xs.length - i∧ForI f it σ₀ v xs V m0 J g0 s0 m s':=fun q=>⟨_,by lia,.mk rfl hlt (a.trans go) ((go.go.ext.κ _ (by rw [hp]; trivial)).trans hp) (I.go hp hown go.go.ext go.go.tr) (by rw [hr]; exact q)⟩
 induction hf using FlR.casesOn with
 | next=>exact next q
 | cont=>exact next q
 | brk=>exact .ok ⟨a.trans go,.next,q⟩
 | ret hv=>exact .ok ⟨a.trans go,.ret hv,q⟩
set_option tactic.hygienic true in
theorem forLoop_w {it:Addr} {v:AV} {xs:List AV} {σ₀:AHeap} {tgt:Expr} {body:List Stmt} {x:AHeap->Loc->SQ->SX->Prop} {J:List AV->AHeap->List (Option AV)->Prop} {Q:SQ} {E:SX}
  (hb:SuiteP f V A n k hd body x) (hfl:HeadOk f.env f.fl) (am:Amb A g0 s0.heap f.fl n k hd) (go:GoS f (ownX f.env) V m0 g0 s0 g σ m s) (hp:g.κ it=.priv) (hno:¬ (g0.κ it).firm) (hown:¬ ownX f.env it) (I:ItR f.w g s.heap it σ₀ v xs 0)
  (hV:∀ y,y∈modT tgt->y∈V) (j0:J xs σ (V.map m)) (h1:∀ σ m,SameOff V m0 m->(∀ y r,J (y::r) σ (V.map m)->standsA σ₀ v σ∧vcBind f.sc tgt y m fun m'=>x σ m' (inLoop (fun σ m=>J r σ (V.map m)) Q) E)∧(J [] σ (V.map m)->standsA σ₀ v σ∧Q .next σ m)) :
  codeAny (model prg f.w) A (.forLoop tgt (.ref it) body [] f.env) (LoopO f A V m0 g0 s0 Q E) s:=by
 refine forLoop_own (ForI f it σ₀ v xs V m0 J g0 s0) (fun nn s1 hI=>?_) xs.length (.mk (i:=0) rfl (Nat.zero_le _) go hp I j0)
 obtain ⟨rfl,hle,go1,hp1,I1,j⟩:=hI
 rename_i g1 σ1 m1 i
 have am1:Amb A g1 s1.heap f.fl n k hd:=am.stmt go1.go.ext go1.fs.fk
 have step:∀ {s2:Shared},Go f.w (itX it) g1 s1 g1 σ1 s2->GoS f (ownX f.env) V m0 g0 s0 g1 σ1 m1 s2:=fun go2=>
  ⟨go1.go.thenN (fun a z=>.inr (by rw [show a=it from z]; exact hno)) go2,⟨go1.fs.fr.goX go2.ext go2.tr fun a ha q=>hown ((show a=it from q)▸ha),FramesOk.go go1.fs.fk go2.ext go2.tr (frames_notIt go1.fs.fk I1)⟩,go1.so⟩
 have h1:=h1 σ1 m1 go1.so
 induction hx:xs.drop i using List.casesOn with
 | nil=>
  rw [hx] at j
  obtain ⟨hst,q⟩:=h1.2 j
  exact it_end go1.go.rel hp1 (hok_of go1.go.rel am1) (exc_ne_it go1.go.rel am1 hp1) I1 hst (List.getElem?_eq_none (List.drop_eq_nil_iff.mp hx)) fun s2 go2=>execs_nil (.ok ⟨step go2,.next,q⟩)
 | cons y rest=>
  rw [hx] at j
  obtain ⟨hst,hv⟩:=h1.1 _ _ j
  obtain ⟨hxi,hlt,hrest⟩:=drop_get hx
  refine it_next go1.go.rel hp1 I1 hst hxi fun cx s2 hc I2 go2=>letOwned_any I2 ?_
  have go2:=step go2
  have am2:Amb A g1 s2.heap f.fl n k hd:=am.stmt go2.go.ext go2.fs.fk
  refine assign_any (OwnS.self go2.fs.fr) go2.go.rel go2.fs hc (hok_of go2.go.rel am2) (vcBind_inv hv) fun s3 m3 go3 F3 so3 U q=>?_
  have all3:GoS f (ownX f.env) V m0 g0 s0 g1 σ1 m3 s3:=⟨go2.go.trans go3,F3,go2.so.trans (so3.more hV)⟩
  refine wpAny_mono (hb all3.go.rel F3 (am.stmt all3.go.ext F3.fk) q) (fun cf s4 h4=>?_) fun e s4 h4=>?_
  ·have z:=turn_end (A:=A) (E:=E) all3 hp1 hown (I2.go hp1 hown go3.ext go3.tr) hlt hrest h4
   induction cf using Flow.casesOn <;> exact z
  ·obtain ⟨go4,hj,q⟩:=h4
   exact LoopO.noted (all3.trans go4) hj q am.frames hfl
set_option tactic.hygienic true in
theorem for_w {tgt iter:Expr} {body:List Stmt} {pos:Pos} {x:AHeap->Loc->SQ->SX->Prop} {Q:SQ} {E:SX} (hb:SuiteP f V A n k hd body x) (hfl:HeadOk f.env f.fl) (r:Rel f.w g σ s) (F:FSR f g m s.heap) (am:Amb A g s.heap f.fl n k hd)
  (hset:∀ x,foldedSetIterable iter f.env x=pure x) (hV:∀ y,y∈modT tgt->y∈V)
  (hev:WE f.w A g s (eval iter f.env) VRep (fun v σ=>LoopP σ (fun xs σ=>∃ (J:List AV->AHeap->List (Option AV)->Prop),J xs σ (V.map m)∧∀ σ' m',SameOff V m m'->
   (∀ x' r,J (x'::r) σ' (V.map m')->standsA σ v σ'∧vcBind f.sc tgt x' m' fun m=>x σ' m (inLoop (fun σ m=>J r σ (V.map m)) Q) E)∧(J [] σ' (V.map m')->standsA σ v σ'∧Q .next σ' m')) v) fun i σ=>E i σ m) :
  WS f V A m g s (exec (.For tgt iter body [] pos) f.env) Q E:=by
 refine wpAny_For ?_ hset
 refine hev.then (fun v cv g1 σ1 s1 go1 hv q=>?_) fun e s' z=>?_
 ·refine wpAny_mono (it_make go1.rel hv q) (fun iv s2 z=>?_) fun U U q=>q
  obtain ⟨go2,hp,hf,I,hl,J,j0,h⟩:=z
  rename_i it g2 σ2 xs
  have hno:¬ (g1.κ it).firm:=by rw [hf]; exact id
  have a1:GoS f (ownX f.env) V m g s g1 σ1 m s1:=.ex0 F go1
  have hown:¬ ownX f.env it:=fun q=>hno (by
   rcases q with rfl | ⟨x,hk,hx⟩
   ·exact a1.fs.fr.priv.firm
   ·obtain ⟨c,ov,e1,e2,_⟩:=a1.fs.fr.cell x ((kindOf_eq a1.fs.fr x).symm.trans hk)
    cases hx.symm.trans e1; rw [e2]; trivial)
  refine codeAny_mono (forLoop_w hb hfl am (a1.ex go2) hp (go1.ext.notfirm hno) hown I hV j0 h) fun rr s' z=>?_
  induction z using LoopO.casesOn with
  | ok h=>exact h
  | err h=>exact h
 ·obtain ⟨j,g',σ',c,fs,go,hi,q⟩:=z
  exact ⟨.ex0 F go,hi,q⟩
end
theorem relab_names {g:Gh} {sc outer:Scope} {env:Env} {m:Loc} {h:Heap} (F:FRp g outer env m h):(relabel sc env).names=(relab sc outer).names:=by
 unfold relabel relab
 refine List.map_congr_left fun x U=>?_
 obtain ⟨n,k⟩:=x
 dsimp only
 rw [kindOf_eq F n,F.kind,F.skind]
structure CompS (sc outer:Scope):Prop where
 dbg:sc.names.lookup ("__debug__":Str)=none
 kind:sc.kind=.function
 nc:∀ x∈sc.names,x.2≠.cell
 loc:∀ x∈sc.names,x.2=.local->sc.names.lookup x.1=some .local
 free:∀ x∈sc.names,x.2=.free->outer.names.lookup x.1=some .cell
theorem okComp_of {sc outer:Scope} (h:okComp sc outer=true):CompS sc outer:=by
 unfold okComp at h
 simp only [Bool.and_eq_true,Option.isNone_iff_eq_none,beq_iff_eq,List.all_eq_true,bne_iff_ne,Bool.or_eq_true] at h
 obtain ⟨⟨⟨h1,h2⟩,h3⟩,h4⟩:=h
 exact ⟨h1,h2,fun x hx=>(h4 x hx).1.1,fun x hx hl=>(h4 x hx).1.2.elim (fun q=>absurd hl q) id,fun x hx hl=>(h4 x hx).2.elim (fun q=>absurd hl q) id⟩
noncomputable def relK (k:NameKind):NameKind:=if k=.free then .cell else k
theorem relab_one {outer:Scope} {n:Str} {k:NameKind} (hk:outer.kind=.function) (h:k=.free->outer.names.lookup n=some .cell):(if k==.free&&outer.kind==.function&&outer.names.lookup n==some .cell then (n,NameKind.cell) else (n,k))=(n,relK k):=by
 unfold relK
 by_cases q:k=.free
 ·subst q; rw [hk,h rfl]; rfl
 ·rw [if_neg q,beq_eq_false_iff_ne.mpr q]; rfl
theorem relab_look {outer:Scope} {x:Str} (hk:outer.kind=.function):∀ {names:List (Str×NameKind)},(∀ y∈names,y.2=NameKind.free->outer.names.lookup y.1=some .cell)->
  (names.map fun (n,k)=>if k==.free&&outer.kind==.function&&outer.names.lookup n==some .cell then (n,NameKind.cell) else (n,k)).lookup x=(names.lookup x).map relK
 | [],_=>rfl
 | (n,k)::r,h=>by
  rw [List.map_cons]
  show List.lookup x ((if k==NameKind.free&&outer.kind==.function&&outer.names.lookup n==some .cell then (n,NameKind.cell) else (n,k))::_)=_
  rw [relab_one hk (h (n,k) (.head _)),List.lookup_cons,List.lookup_cons]
  induction hx:x==n using Bool.casesOn
  ·exact relab_look hk fun y hy=>h y (.tail _ hy)
  ·rfl
structure ClI (env:Env) (names:List (Str×NameKind)) (acc cl:List (Str×Addr)):Prop where
 e1:∀ x c,cl.lookup x=some c->env.cells.lookup x=some c
 e2:∀ x,(x,NameKind.free)∈names->cl.lookup x=env.cells.lookup x
 e3:∀ x c,acc.lookup x=some c->cl.lookup x=some c
 e4:∀ x c,cl.lookup x=some c->(x,NameKind.free)∈names∨acc.lookup x=some c
noncomputable abbrev clF (env:Env) (x:Str×NameKind) (cs:List (Str×Addr)):Sem (ForInStep (List (Str×Addr))):=if x.2==.free then (do let c ← cellOf env x.1; pure (.yield ((x.1,c)::cs))) else pure (.yield cs)
theorem cons_look {x n:Str} {c c':Addr} {acc:List (Str×Addr)} (h:((n,c)::acc).lookup x=some c'):(x=n∧c'=c)∨acc.lookup x=some c':=by
 rw [List.lookup_cons] at h
 induction z:x==n using Bool.casesOn <;> rw [z] at h
 ·exact .inr h
 ·(injection h with e1; subst e1); exact .inl ⟨beq_iff_eq.mp z,rfl⟩
theorem closure_go {env:Env}:∀ {names:List (Str×NameKind)} {acc:List (Str×Addr)},(∀ x∈names,x.2=NameKind.free->(env.cells.lookup x.1).isSome=true)->(∀ x c,acc.lookup x=some c->env.cells.lookup x=some c)->∃ cl,forIn names acc (clF env)=pure cl∧ClI env names acc cl
 | [],acc,_,ha=>⟨acc,rfl,ha,fun x hx=>(by cases hx),fun x c hx=>hx,fun x c hx=>.inr hx⟩
 | (n,k)::r,acc,hn,ha=>by
  rw [List.forIn_cons]
  by_cases q:k=.free
  ·subst q
   obtain ⟨c,hc⟩:=Option.isSome_iff_exists.mp (hn (n,.free) (.head _) rfl)
   obtain ⟨cl,h1,I⟩:=closure_go (names:=r) (acc:=(n,c)::acc) (fun x hx=>hn x (.tail _ hx)) fun x c' hx=>(cons_look hx).elim (fun e=>by rw [e.1,e.2]; exact hc) (ha x c')
   refine ⟨cl,?_,I.e1,fun x hx=>?_,fun x c' hx=>?_,fun x c' hx=>(I.e4 x c' hx).elim (fun h=>.inl (.tail _ h)) fun h=>(cons_look h).imp (fun e=>by rw [e.1]; exact .head _) id⟩
   ·rw [clF,if_pos (by rfl),cellOf,hc,pure_bind,pure_bind]
    exact h1
   ·rcases List.mem_cons.mp hx with hx | hx
    ·(injection hx with e1 e2; cases e1; cases e2)
     exact (I.e3 n c (by rw [List.lookup_cons,beq_self_eq_true])).trans hc.symm
    ·exact I.e2 x hx
   ·induction z:x==n using Bool.casesOn
    ·exact I.e3 x c' (by rw [List.lookup_cons,z]; exact hx)
    ·have e:=beq_iff_eq.mp z
     subst e
     cases hc.symm.trans (ha _ c' hx)
     exact I.e3 _ c (by rw [List.lookup_cons,beq_self_eq_true])
  ·obtain ⟨cl,h1,I⟩:=closure_go (names:=r) (acc:=acc) (fun x hx=>hn x (.tail _ hx)) ha
   refine ⟨cl,?_,I.e1,fun x hx=>?_,I.e3,fun x c hx=>(I.e4 x c hx).imp (fun h=>.tail _ h) id⟩
   ·rw [clF,if_neg (by rw [beq_iff_eq]; exact q),pure_bind]
    exact h1
   ·rcases List.mem_cons.mp hx with hx | hx
    ·(injection hx with e1 e2; subst e1 e2); exact (q rfl).elim
    ·exact I.e2 x hx
theorem closureFor_any {env:Env} {sc:Scope} (h:∀ x∈sc.names,x.2=.free->(env.cells.lookup x.1).isSome=true):∃ cl,closureFor sc env=pure cl∧ClI env sc.names [] cl:=by
 obtain ⟨cl,h1,I⟩:=closure_go (acc:=[]) h fun x c hx=>by injection hx
 refine ⟨cl,?_,I⟩
 unfold closureFor
 refine Eq.trans ?_ h1
 rw [bind_pure]
section
variable {w:World} {A:Around} {f:Fm} {sc outer:Scope} {env cenv:Env} {fl:List Env} {n k:Nat} {hd:Option Nat} {g0 g g':Gh} {σ σ':AHeap} {m m':Loc} {s0 s s':Shared} {X:Addr->Prop} {it D C:Addr} {ys:List AV} {vs:Array Value} {nn:Nat}
theorem compLoop_own {R:Result->Shared->Prop} {elt target iter:Expr} {scope:Scope} {pos:Pos} {it acc:Value} {env:Env} (I:Nat->Shared->Prop)
  (turn:∀ n s,I n s->wpAny (model prg w) A (pyNext it) (fun r s₁=>match r with
   | none=>R (.ok .next) s₁
   | some v=>wpAny (model prg w) A (letOwnedTupleGo target it v) (fun U s₁'=>wpAny (model prg w) A (assign target env v) (fun U s₂=>wpAny (model prg w) A (eval elt env) (fun x s₃=>
     wpAny (model prg w) A (call (.builtin "list.append") [acc,x]) (fun U s₄=>∃ m,m<n∧I m s₄) (notedBy (model prg w) A env fun e s'=>R (.error e) s') s₃)
     (notedBy (model prg w) A env fun e s'=>R (.error e) s') s₂) (notedBy (model prg w) A env fun e s'=>R (.error e) s') s₁') (notedBy (model prg w) A env fun e s'=>R (.error e) s') s₁) (notedBy (model prg w) A env fun e s'=>R (.error e) s') s)
  (n:Nat) (h:I n s):codeAny (model prg w) A (.compLoop (.ListComp elt [⟨target,iter,[],0⟩] scope pos) 0 it acc env) R s:=by
 refine codeAny_loop rfl I (fun n s hI=>?_) n h
 show wpAny _ _ ((compTurn (.ListComp elt [⟨target,iter,[],0⟩] scope pos) 0 it acc env).onRaise (fun x=>do noteFrame x env; theTreesLotGoes x)) _ _ s
 refine wpAny_noted ?_
 rw [compTurn_list1]
 refine wpAny_bind (wpAny_standAt (wpAny_bind (wpAny_mono (turn n s hI) (fun r s₁ h₁=>?_) fun U U h'=>h')))
 induction r using Option.casesOn with
 | none=>exact wpAny_pure h₁
 | some v=>
  refine wpAny_bind (wpAny_mono h₁ (fun U s₁' h₁'=>?_) fun U U h'=>h')
  exact wpAny_bind (wpAny_mono h₁' (fun U s₂ h₂=>wpAny_bind (wpAny_bind (wpAny_mono h₂ (fun x s₃ h₃=>wpAny_bind (wpAny_mono h₃
   (fun U s₄ h₄=>wpAny_pure (wpAny_pure ⟨rfl,h₄⟩)) fun U U h'=>h')) fun U U h'=>h'))) fun U U h'=>h')
theorem FRp.shrink {h:Heap} (F:FRp g sc env m' h) (k:∀ y v,m y=some v->m' y=some v):FRp g sc env m h:=
 ⟨F.names,F.kind,F.skind,F.glob,F.blt,F.priv,by
  obtain ⟨mc,hn,hm⟩:=F.loc
  exact ⟨mc,hn,fun y v hl hv=>hm y v hl (k y v hv)⟩,F.nodebug,fun x hx=>by
  obtain ⟨c,ov,h1,h2,h3,h4⟩:=F.cell x hx
  exact ⟨c,ov,h1,h2,h3,fun v hv=>h4 v (k x v hv)⟩,F.apart⟩
theorem hide_none {y:Str} (h:sc.names.lookup y=some .local):m.hide sc y=none:=if_pos (by rw [h]; rfl)
noncomputable def farD:Data->Prop
 | .dict _ _=>False
 | .cell _=>False
 | _=>True
structure ApartI (f:Fm) (b:Addr):Prop where
 own:∀ a,ownX f.env a->a≠b
 fr:∀ e∈f.fl,∀ L,e.frame=some L->L≠b
theorem FSR.apart {b:Addr} {o:Obj} {h:Heap} (F:FSR f g m h) (e:h.get? b=some o) (hd:farD o.data):ApartI f b:=by
 refine ⟨fun a ha q=>?_,fun e1 he L hL q=>?_⟩
 ·subst q
  rcases ha with rfl | ⟨x,hk,hx⟩
  ·obtain ⟨mc,⟨o',es,ep,ho,d,_⟩,_⟩:=F.fr.loc
   cases ho.symm.trans e; rw [d] at hd; exact hd
  ·obtain ⟨c,ov,e1,_,⟨o',ho,d⟩,_⟩:=F.fr.cell x ((kindOf_eq F.fr x).symm.trans hk)
   cases hx.symm.trans e1
   cases ho.symm.trans e; rw [d] at hd; exact hd
 ·subst q
  obtain ⟨_,h1,_,h3,d⟩:=F.fk e1 he
  cases hL.symm.trans h1
  cases h3.symm.trans e; rw [d] at hd; exact hd
theorem FSR.goX (F:FSR f g m s.heap) (go:Go f.w X g s g' σ' s') (h2:∀ a,ownX f.env a->¬ X a) (h3:∀ e∈f.fl,∀ L,e.frame=some L->¬ X L):FSR f g' m s'.heap:=⟨F.fr.goX go.ext go.tr h2,FramesOk.go F.fk go.ext go.tr h3⟩
structure CompAt (f:Fm) (D:Addr) (g0:Gh) (s0:Shared) (m:Loc) (g:Gh) (σ:AHeap) (s:Shared) (ys:List AV) (vs:Array Value) (nn:Nat):Prop where
 go:Go f.w noX g0 s0 g σ s
 fs:FSR f g m s.heap
 kL:g.κ f.env.locals=.priv
 kD:g.κ D=.priv
 hD:s.heap.get? D=some ⟨.type "list",none,.seq vs nn,#[]⟩
 acc:VReps g s.heap ys vs.toList
theorem keep_priv {h h':Heap} {o:Obj} (tr:TrP g X h h') (hk:g.κ D=.priv) (hX:¬ X D) (he:h.get? D=some o):h'.get? D=some o:=by
 obtain ⟨sl,h1,h2⟩:=tr.priv D _ he (by rw [hk]; trivial) hX
 rw [h1,h2 hk]
theorem CompAt.step (c:CompAt f D g0 s0 m g σ s ys vs nn) (go:Go f.w X g s g' σ' s') (hX:∀ a,X a->¬ (g0.κ a).firm) (h3:¬ X D) (F:FSR f g' m' s'.heap):CompAt f D g0 s0 m' g' σ' s' ys vs nn:=
 ⟨c.go.thenN (fun a z=>.inr (hX a z)) go,F,(go.ext.κ _ (by rw [c.kL]; trivial)).trans c.kL,(go.ext.κ _ (by rw [c.kD]; trivial)).trans c.kD,keep_priv go.tr c.kD h3 c.hD,c.acc.mono go.ext go.tr.val⟩
theorem CompAt.ex (c:CompAt f D g0 s0 m g σ s ys vs nn) (go:Go f.w noX g s g' σ' s'):CompAt f D g0 s0 m g' σ' s' ys vs nn:=c.step go (fun U z=>z.elim) id (c.fs.go go)
theorem CompAt.push {y:AV} {cy:Value} (c:CompAt f D g0 s0 m g σ s ys vs nn) (hno:¬ (g0.κ D).firm) (hy:VRep g s.heap y cy):Go f.w (itX D) g s g σ {s with heap:=s.heap.update D (Obj.mapSeq (·.push cy))}∧∃ nn',CompAt f D g0 s0 m g σ {s with heap:=s.heap.update D (Obj.mapSeq (·.push cy))} (ys++[y]) (vs.push cy) nn':=by
 have hself:=Heap.get?_update_self (Obj.mapSeq (·.push cy)) c.hD rfl
 have go:=own_go (X:=itX D) (s':={s with heap:=s.heap.update D (Obj.mapSeq (·.push cy))}) c.go.rel (b:=D) (by rw [c.kD]; trivial) rfl (fun a o ha e=>upd_oth e ha) ⟨_,hself⟩ rfl rfl
 have ap:=c.fs.apart c.hD trivial
 refine ⟨go,_,c.go.thenN (fun a z=>.inr (by rw [show a=D from z]; exact hno)) go,c.fs.goX go ap.own ap.fr,c.kL,c.kD,hself,?_⟩
 rw [Array.toList_push]
 exact (c.acc.append (.cons hy .nil)).mono go.ext go.tr.val
inductive CompI (f:Fm) (it D:Addr) (σ₀:AHeap) (v:AV) (xs:List AV) (J:List AV->List AV->AHeap->Prop) (m:Loc) (g0:Gh) (s0:Shared) (n:Nat) (s':Shared):Prop
 | mk {g':Gh} {σ':AHeap} {i:Nat} {ys:List AV} {vs:Array Value} {nn:Nat} (hn:n=xs.length - i) (hi:i<=xs.length) (hy:ys.length=i) (C:CompAt f D g0 s0 m g' σ' s' ys vs nn) (hp:g'.κ it=.priv) (I:ItR f.w g' s'.heap it σ₀ v xs i) (j:J ys (xs.drop i) σ'):CompI f it D σ₀ v xs J m g0 s0 n s'
theorem ItR.far {h:Heap} {σ₀:AHeap} {v:AV} {xs:List AV} {i:Nat} (I:ItR w g h it σ₀ v xs i):∃ o vs,h.get? it=some o∧o.data=.fields vs:=by
 obtain ⟨e,k⟩:=I
 obtain ⟨_,d,_⟩:=k.form
 exact ⟨_,_,e,d⟩
end
section
variable {w:World} {A:Around} {f:Fm} {sc outer:Scope} {env cenv:Env} {fl:List Env} {n k:Nat} {hd:Option Nat} {g0 g g':Gh} {σ σ':AHeap} {m m':Loc} {s0 s s':Shared} {X:Addr->Prop} {it D C:Addr} {ys:List AV} {vs:Array Value} {nn:Nat}
inductive CompO (f:Fm) (D:Addr) (g0:Gh) (s0:Shared) (m:Loc) (J:List AV->List AV->AHeap->Prop) (E:EX):Result->Shared->Prop
 | ok {g:Gh} {σ:AHeap} {s:Shared} {ys:List AV} {vs:Array Value} {nn:Nat} (C:CompAt f D g0 s0 m g σ s ys vs nn) (j:J ys [] σ):CompO f D g0 s0 m J E (.ok .next) s
 | err {g:Gh} {σ:AHeap} {s:Shared} {i:Nat} {c:Addr} {fs:List (Str×AV)} (go:Go f.w noX g0 s0 g σ s) (F:FSR f g m s.heap) (kL:g.κ f.env.locals=.priv) (q:E i σ) (hi:σ.get i=some (.exc c fs)) (ht:g.τ i=true):CompO f D g0 s0 m J E (.error (.ref (g.ρ i))) s
theorem CompO.noted {J:List AV->List AV->AHeap->Prop} {E:EX} {i:Nat} {c:Addr} {fs:List (Str×AV)} (go:Go f.w noX g0 s0 g σ s) (F:FSR f g m s.heap) (kL:g.κ f.env.locals=.priv) (q:E i σ) (hi:σ.get i=some (.exc c fs)) (hf:A.frames=some f.fl) (hfl:HeadOk f.env f.fl):notedBy (model prg f.w) A f.env (fun e s'=>CompO f D g0 s0 m J E (.error e) s') (.ref (g.ρ i)) s:=by
 unfold notedBy
 refine note_any go.rel F hi hf hfl fun g' s' go' ht hρ=>?_
 rw [← hρ]
 exact .err (go.trans go') (F.go go') ((go'.ext.κ _ (by rw [kL]; trivial)).trans kL) q hi ht
theorem compTurn_w {v x:AV} {xs rest:List AV} {σ₀:AHeap} {tgt elt:Expr} {cx:Value} {el:Loc->PT} {J:List AV->List AV->AHeap->Prop} {E:EX} {i:Nat}
  (hel:∀ {g':Gh} {σ':AHeap} {s':Shared} {m':Loc} {Q:EQ},Rel f.w g' σ' s'->FSR f g' m' s'.heap->Amb A g' s'.heap f.fl n k hd->el m' σ' Q E->WE f.w A g' s' (eval elt f.env) VRep Q E)
  (hfl:HeadOk f.env f.fl) (hsc:∀ x,locNm sc x=true->f.sc.names.lookup x=some .local∧m x=none) (am:Amb A g0 s0.heap f.fl n k hd) (hno:∀ a,a=it∨a=D∨a=f.env.locals->¬ (g0.κ a).firm) (hl:xs.length<=lim) (hlt:i<xs.length) (hr:xs.drop (i+1)=rest) (hys:ys.length=i)
  (C:CompAt f D g0 s0 m g σ s ys vs nn) (hp:g.κ it=.priv) (I:ItR f.w g s.heap it σ₀ v xs (i+1)) (hx:VRep g s.heap x cx) (q:vcBind sc tgt x m fun m'=>el m' σ (fun y σ''=>J (ys++[y]) rest σ'') E) :
  wpAny (model prg f.w) A (assign tgt f.env cx) (fun U s₂=>wpAny (model prg f.w) A (eval elt f.env) (fun x s₃=>
     wpAny (model prg f.w) A (call (.builtin "list.append") [.ref D,x]) (fun U s₄=>∃ nn,nn<xs.length - i∧CompI f it D σ₀ v xs J m g0 s0 nn s₄) (notedBy (model prg f.w) A f.env fun e s'=>CompO f D g0 s0 m J E (.error e) s') s₃)
     (notedBy (model prg f.w) A f.env fun e s'=>CompO f D g0 s0 m J E (.error e) s') s₂) (notedBy (model prg f.w) A f.env fun e s'=>CompO f D g0 s0 m J E (.error e) s') s:=by
 obtain ⟨oi,vi,hoi,hod⟩:=I.far
 have aD:=C.fs.apart C.hD trivial
 have aI:=C.fs.apart hoi (by rw [hod]; trivial)
 have hlD:D≠f.env.locals:=fun q=>aD.own _ (.inl rfl) q.symm
 have hlI:it≠f.env.locals:=fun q=>aI.own _ (.inl rfl) q.symm
 have hne:it≠D:=fun q=>by rw [q] at hoi; cases hoi.symm.trans C.hD; injection hod
 refine assign_any (X:=itX f.env.locals) (fun y hy=>.loc (hsc y hy).1 rfl) C.go.rel C.fs hx (hok_of C.go.rel (am.stmt C.go.ext C.fs.fk)) (vcBind_inv q) fun s2 m2 go2 F2 so2 hm2 q=>?_
 have C2:=C.step go2 (fun a z=>hno a (.inr (.inr z))) hlD F2
 have I2:=I.go hp hlI go2.ext go2.tr
 have shr:∀ y v,m y=some v->m2 y=some v:=fun y v hy=>by
  rw [so2 y fun z=>by rw [(hsc y (hm2 y z)).2] at hy; injection hy]; exact hy
 refine wpAny_mono (hel C2.go.rel F2 (am.stmt C2.go.ext F2.fk) q) (fun cy s3 h3=>?_) fun e s3 h3=>?_
 ·obtain ⟨y,g3,σ3,go3,hy,q⟩:=h3
  have C3:=C2.ex go3
  have hp3:g3.κ it=.priv:=(go3.ext.κ _ (by rw [hp]; trivial)).trans hp
  obtain ⟨go4,nn',C4⟩:=C3.push (hno D (.inr (.inl rfl))) hy
  have hsz:=C3.acc.size
  refine list_append C3.hD ⟨_,by lia,.mk rfl hlt (by rw [List.length_append,hys]; rfl) ⟨C4.go,⟨C4.fs.fr.shrink shr,C4.fs.fk⟩,C4.kL,C4.kD,C4.hD,C4.acc⟩ hp3 ((I2.go hp id go3.ext go3.tr).go hp3 hne go4.ext go4.tr) (by rw [hr]; exact q)⟩ (by have:=lim_line; lia)
 ·obtain ⟨j,g3,σ3,c,fs,go3,hj,q⟩:=h3
  have C3:=C2.ex go3
  exact CompO.noted C3.go ⟨C3.fs.fr.shrink shr,C3.fs.fk⟩ C3.kL q hj am.frames hfl
set_option tactic.hygienic true in
theorem compLoop_w {v:AV} {xs:List AV} {σ₀:AHeap} {tgt elt iter:Expr} {scope:Scope} {pos:Pos} {el:Loc->PT} {J:List AV->List AV->AHeap->Prop} {E:EX}
  (hel:∀ {g':Gh} {σ':AHeap} {s':Shared} {m':Loc} {Q:EQ},Rel f.w g' σ' s'->FSR f g' m' s'.heap->Amb A g' s'.heap f.fl n k hd->el m' σ' Q E->WE f.w A g' s' (eval elt f.env) VRep Q E)
  (hfl:HeadOk f.env f.fl) (hsc:∀ x,locNm sc x=true->f.sc.names.lookup x=some .local∧m x=none) (am:Amb A g0 s0.heap f.fl n k hd) (hno:∀ a,a=it∨a=D∨a=f.env.locals->¬ (g0.κ a).firm) (hl:xs.length<=lim)
  (C:CompAt f D g0 s0 m g σ s [] #[] nn) (hp:g.κ it=.priv) (I:ItR f.w g s.heap it σ₀ v xs 0) (j0:J [] xs σ)
  (h1:∀ ys x r σ',J ys (x::r) σ'->standsA σ₀ v σ'∧vcBind sc tgt x m fun m'=>el m' σ' (fun y σ''=>J (ys++[y]) r σ'') E) (h2:∀ ys σ',J ys [] σ'->standsA σ₀ v σ') :
  codeAny (model prg f.w) A (.compLoop (.ListComp elt [⟨tgt,iter,[],0⟩] scope pos) 0 (.ref it) (.ref D) f.env) (CompO f D g0 s0 m J E) s:=by
 refine compLoop_own (CompI f it D σ₀ v xs J m g0 s0) (fun mm s1 hI=>?_) xs.length (.mk (i:=0) rfl (Nat.zero_le _) rfl C hp I j0)
 obtain ⟨rfl,hle,hys,C1,hp1,I1,j⟩:=hI
 rename_i g1 σ1 i ys vs nn
 have am1:Amb A g1 s1.heap f.fl n k hd:=am.stmt C1.go.ext C1.fs.fk
 obtain ⟨oi,vi,hoi,hod⟩:=I1.far
 have aI:=C1.fs.apart hoi (by rw [hod]; trivial)
 have step:∀ {s2:Shared},Go f.w (itX it) g1 s1 g1 σ1 s2->CompAt f D g0 s0 m g1 σ1 s2 ys vs nn:=fun go=>C1.step go (fun a z=>hno a (.inl z)) (fun q=>by
  rw [← show D=it from q] at hoi; cases hoi.symm.trans C1.hD; injection hod) (C1.fs.goX go aI.own aI.fr)
 induction hx:xs.drop i using List.casesOn with
 | nil=>
  rw [hx] at j
  exact it_end C1.go.rel hp1 (hok_of C1.go.rel am1) (exc_ne_it C1.go.rel am1 hp1) I1 (h2 _ _ j) (List.getElem?_eq_none (List.drop_eq_nil_iff.mp hx)) fun s2 go2=>.ok (step go2) j
 | cons x rest=>
  rw [hx] at j
  obtain ⟨hst,hv⟩:=h1 _ _ _ _ j
  obtain ⟨hxi,hlt,hrest⟩:=drop_get hx
  exact it_next C1.go.rel hp1 I1 hst hxi fun cx s2 hc I2 go2=>letOwned_any I2 (compTurn_w hel hfl hsc am hno hl hlt hrest hys (step go2) hp1 I2 hc hv)
theorem Rel.nonfree (r:Rel w g σ s) (k:∀ a b,s.heap.get? a=some b->g.κ a≠.free->s'.heap.get? a=some b) (hg:s'.gens=s.gens):Rel w g σ s':=by
 have st:Stays g s.heap s'.heap:=fun a b e hk=>k a b e (fun q=>by rw [q] at hk; exact hk)
 exact ⟨r.n,r.trc,fun j b e=>(r.objs _ _ e).heap st fun a b ea hk=>k a b ea (by rcases hk with hk | hk <;> rw [hk] <;> intro z <;> injection z),fun a ha=>(r.live a ha).imp fun o e=>k a o e ha,r.sta.go (fun U z=>z) st hg⟩
theorem Go.afterC {h':Heap} (go:Go w X g s g' σ' s') (hC:g'.κ C=.priv) (hC0:¬ (g.κ C).firm) (hs:Heap.SameBut C s'.heap h'):Go w X g s (g'.mark C .free) σ' {s' with heap:=h'}:=by
 have kk:∀ a b,s'.heap.get? a=some b->(g'.mark C .free).κ a≠.free->h'.get? a=some b:=fun a b e hk=>(hs.2 a (by rintro rfl; exact hk (Gh.mark_self _ _ _))).trans e
 refine ⟨go.ext.unpriv hC0,(Rel.unpriv go.rel hC).nonfree kk rfl,⟨fun a o e hv=>?_,fun a o e hp hX=>?_⟩,go.os⟩
 ·exact (hs.2 a (by rintro rfl; exact hC0 hv.firm)).trans (go.tr.val a o e hv)
 ·obtain ⟨sl,h1,h2⟩:=go.tr.priv a o e hp hX
  exact ⟨sl,(hs.2 a (by rintro rfl; exact hC0 hp.firm)).trans h1,h2⟩
theorem after_st {h h':Heap} (hC:g.κ C=.priv) (hs:Heap.SameBut C h h'):Stays g h h':=fun a b e hk=>(hs.2 a (by rintro rfl; rw [hC] at hk; exact hk)).trans e
theorem VRep.afterC {v:AV} {cv:Value} {h h':Heap} (hv:VRep g h v cv) (hC:g.κ C=.priv) (hs:Heap.SameBut C h h'):VRep (g.mark C .free) h' v cv:=hv.monoV (ExtV.unpriv hC) (after_st hC hs)
structure CEnvI (sc:Scope) (env cenv:Env) (C:Addr) (cl:List (Str×Addr)):Prop where
 sc:cenv.scope=relabel sc env
 lo:cenv.locals=C
 ce:cenv.cells=cl
 gl:cenv.globals=env.globals
 bu:cenv.builtins=builtinsNs
 fr:cenv.frame=env.frame
theorem comp_frame {cl:List (Str×Addr)} {mc:Str->Option Value} (S:CompS sc outer) (F:FRp g outer env m s.heap) (go:Go w noX g s g' σ' s') (kC:g'.κ C=.priv) (hns:s'.heap.Ns C mc) (L:ClI env sc.names [] cl) (N:CEnvI sc env cenv C cl):FRp g' (relab sc outer) cenv (m.hide sc) s'.heap:=by
 have rl:∀ x,(relab sc outer).names.lookup x=(sc.names.lookup x).map relK:=fun x=>relab_look F.skind S.free
 refine ⟨by rw [N.sc]; exact relab_names F,by rw [N.sc]; exact S.kind,S.kind,N.gl.trans F.glob,N.bu,(by rw [N.lo,kC]; trivial),⟨_,by rw [N.lo]; exact hns,fun x v hl hv=>?_⟩,by rw [rl,S.dbg]; rfl,fun x hl=>?_,fun x y c hx hy=>?_⟩
 ·rw [rl] at hl
  obtain ⟨kk,k1,k2⟩:=Option.map_eq_some_iff.mp hl
  unfold relK at k2
  by_cases q:kk=.free
  ·rw [if_pos q] at k2; injection k2
  ·rw [if_neg q] at k2
   subst k2
   rw [hide_none k1] at hv; injection hv
 ·rw [rl] at hl
  obtain ⟨kk,k1,k2⟩:=Option.map_eq_some_iff.mp hl
  unfold relK at k2
  by_cases q:kk=.free
  rotate_left
  ·rw [if_neg q] at k2; exact (S.nc _ (mem_of_lookup k1) k2).elim
  subst q
  have hmem:=mem_of_lookup k1
  obtain ⟨c,ov,h1,h2,⟨o,h3,h4⟩,h5⟩:=F.cell x (S.free _ hmem rfl)
  obtain ⟨sl,h6,_⟩:=go.tr.priv _ _ h3 (by rw [h2]; trivial) id
  refine ⟨c,ov,by rw [N.ce,L.e2 x hmem]; exact h1,(go.ext.κ _ (by rw [h2]; trivial)).trans h2,⟨_,h6,h4⟩,fun v hv=>?_⟩
  have hv:m x=some v:=by
   unfold Loc.hide at hv
   rwa [k1,if_neg (by decide)] at hv
  exact (h5 v hv).imp fun cv z=>⟨z.1,z.2.go go⟩
 ·rw [N.ce] at hx hy
  exact F.apart x y c (L.e1 x c hx) (L.e1 y c hy)
inductive CompV (w:World) (g:Gh) (s:Shared) (Q:EQ) (C:Addr) (cv:Value) (s':Shared):Prop
 | mk {v:AV} {g':Gh} {σ':AHeap} {mc:Str->Option Value} (go:Go w noX g s g' σ' s') (hv:VRep g' s'.heap v cv) (hC:g'.κ C=.priv) (hC0:¬ (g.κ C).firm) (hN:s'.heap.Ns C mc) (q:Q v σ')
theorem comp_list {frz:Bool} {Q:EQ} {mc:Str->Option Value} (go:Go w noX g s g' σ' s') (nf:¬ (g.κ D).firm) (kD:g'.κ D=.priv) (kC:g'.κ C=.priv) (nC:¬ (g.κ C).firm) (hDC:C≠D) (hN:s'.heap.Ns C mc) (hD:s'.heap.get? D=some ⟨.type "list",none,.seq vs nn,#[]⟩) (hV:VReps g' s'.heap ys vs.toList)
  (q:NewL ys σ' Q frz):CompV w g s Q C (.ref D) s':=by
 have goB:Go w noX g s (g'.mark D .free) σ' s':=⟨go.ext.unpriv nf,Rel.unpriv go.rel kD,go.tr,go.os⟩
 have hf:(g'.mark D .free).κ D=.free:=Gh.mark_self _ _ _
 have hV':=hV.monoV (ExtV.unpriv kD) (.refl _ _)
 have kC2:(g'.mark D .free).κ C=.priv:=(Gh.mark_ne _ _ hDC).trans kC
 have nfm:¬ ((g'.mark D .free).κ D).firm:=by rw [hf]; exact id
 induction q using NewL.casesOn with
 | f hl q=>exact ⟨goB.mark (a:=D) .fz ⟨_,hD⟩ hf,.lst (by rw [Gh.mark_self]; trivial) hD (hV'.mono (.mark _ nfm) (.refl _ _)),(Gh.mark_ne _ _ hDC).trans kC2,nC,hN,q⟩
 | n hl q=>exact ⟨goB.new (a:=D) (o:=.list ys) ⟨_,hD⟩ hf ⟨by rw [Gh.grow_ρ]; exact hD,hV'.mono (.grow nfm) (.refl _ _)⟩ rfl,self_new goB.rel,(Gh.grow_ne hDC).trans kC2,nC,hN,q⟩
end
section
variable {A:Around} {f:Fm} {sc:Scope} {n k:Nat} {hd:Option Nat} {g g':Gh} {σ σ':AHeap} {m:Loc} {s s':Shared} {it D C:Addr}
structure CompB (f:Fm) (sc:Scope) (cenv:Env) (it D C:Addr) (σ₀:AHeap) (v:AV) (xs:List AV) (m:Loc) (g0:Gh) (s0:Shared) (g:Gh) (s:Shared):Prop where
 at0:CompAt ⟨f.w,relab sc f.sc,cenv,f.fl⟩ D g0 s0 (m.hide sc) g σ₀ s [] #[] 0
 hp:g.κ it=.priv
 lo:cenv.locals=C
 I:ItR f.w g s.heap it σ₀ v xs 0
 ne:C≠D
 no:∀ a,a=it∨a=D∨a=C->¬ (g0.κ a).firm
theorem comp_begin {cenv:Env} {v:AV} {xs:List AV} {cl:List (Str×Addr)} {h₁:Heap} {t:Nat} {o2:Obj} {mc:Str->Option Value} (S:CompS sc f.sc) (F:FSR f g m s.heap) (go:Go f.w noX g s g' σ' s') (hp:g'.κ it=.priv) (hi:¬ (g.κ it).firm) (I:ItR f.w g' s'.heap it σ' v xs 0) (L:ClI f.env sc.names [] cl) (N:CEnvI sc f.env cenv C cl)
  (hC:C=s'.heap.objs.size+1) (hns:h₁.Ns C mc) (hsb:Heap.SameBut C ((s'.heap.push {cls:=.type "list",data:=.seq #[]}).push o2) h₁) :
  ∃ g3,CompB f sc cenv it s'.heap.objs.size C σ' v xs m g s g3 {s' with heap:=h₁,toks:=t}:=by
 have keep:∀ b o,b≠C->(s'.heap.push {cls:=.type "list",data:=.seq #[]}).get? b=some o->h₁.get? b=some o:=fun b o ne e=>hsb.extBut b o ne (Heap.get?_push_of_some _ e)
 have hD₁:h₁.get? s'.heap.objs.size=some ⟨.type "list",none,.seq #[] 0,#[]⟩:=keep _ _ (by rw [hC]; exact Nat.ne_of_lt (Nat.lt_succ_self _)) (Heap.get?_push_size _ rfl)
 have fD:g'.κ s'.heap.objs.size=.free:=go.rel.free _ (Nat.le_refl _)
 have fC:g'.κ C=.free:=go.rel.free _ (by rw [hC]; exact Nat.le_succ _)
 have hDC:C≠s'.heap.objs.size:=by rw [hC]; exact Nat.succ_ne_self _
 obtain ⟨oC,esC,epC,hC₁,_⟩:=id hns
 have go1:Go f.w noX g' s' g' σ' {s' with heap:=h₁,toks:=t}:=.keeps go.rel (fun b o e=>keep b o (by have:=Heap.lt_size e; rw [hC]; exact Nat.ne_of_lt (Nat.lt_succ_of_lt this)) (Heap.get?_push_of_some _ e)) rfl rfl
 have go4:=(go1.mark (a:=s'.heap.objs.size) .priv ⟨_,hD₁⟩ fD).mark (a:=C) .priv ⟨_,hC₁⟩ ((Gh.mark_ne g' _ hDC).trans fC)
 have kC:((g'.mark s'.heap.objs.size .priv).mark C .priv).κ C=.priv:=Gh.mark_self _ _ _
 have goA:=go.trans go4
 have am:=F.fk.go0 goA
 exact ⟨_,⟨goA,⟨comp_frame S F.fr goA kC hns L N,am⟩,(by show Gh.κ _ cenv.locals=_; rw [N.lo]; exact kC),(Gh.mark_ne _ _ (Ne.symm hDC)).trans (Gh.mark_self _ _ _),hD₁,.nil⟩,(go4.ext.κ _ (by rw [hp]; trivial)).trans hp,N.lo,I.go hp id go4.ext go4.tr,hDC,fun a ha=>by
  rcases ha with rfl | rfl | rfl
  ·exact hi
  ·exact go.ext.notfirm (by rw [fD]; exact id)
  ·exact go.ext.notfirm (by rw [fC]; exact id)⟩
set_option tactic.hygienic true in
theorem comp_w {iter elt tgt:Expr} {p:Pos} {use:Option (Value->Sem Unit)} {el:Loc->PT} {Q:Value->Shared->Prop} {E:Value->Shared->Prop} {frz:Bool} {Qa:EQ} {Ea:EX} (hsc:okComp sc f.sc=true) (hset:∀ x,foldedSetIterable iter f.env x=pure x) (hfl:HeadOk f.env f.fl)
  (hev:WE f.w A g s (eval iter f.env) VRep (fun v σ=>LoopP σ (fun xs σ=>CompP frz v xs σ (fun x σ' K=>vcBind sc tgt x (m.hide sc) fun m'=>el m' σ' K Ea) Qa) v) Ea)
  (hel:∀ cenv,HeadOk cenv f.fl->∀ {g':Gh} {σ':AHeap} {s':Shared} {m':Loc} {Q:EQ},Rel f.w g' σ' s'->FSR ⟨f.w,relab sc f.sc,cenv,f.fl⟩ g' m' s'.heap->Amb A g' s'.heap f.fl n k hd->el m' σ' Q Ea->WE f.w A g' s' (eval elt cenv) VRep Q Ea)
  (F:FSR f g m s.heap) (am:Amb A g s.heap f.fl n k hd)
  (hok:∀ cv s' C,CompV f.w g s Qa C cv s'->compPost (model prg f.w) A E use Q cv C (.ok .next) s')
  (herr:∀ e s',ErE f.w g s Ea e s'->E e s') :
  wpAny (model prg f.w) A (comprehension (.ListComp elt [⟨tgt,iter,[],0⟩] sc p) sc f.env (firstIterPos [⟨tgt,iter,[],0⟩] p) (newList []) false (eval iter f.env) use) Q E s:=by
 have S:=okComp_of hsc
 obtain ⟨cl,hcl,L⟩:=closureFor_any (env:=f.env) (sc:=sc) fun x hx hf=>by
  obtain ⟨c,ov,h1,_⟩:=F.fr.cell x.1 (S.free x hx hf)
  rw [h1]; rfl
 refine wpAny_comprehension_free (g:=⟨tgt,iter,[],0⟩) (gs:=[]) rfl hset hcl S.kind S.loc (hev.then (fun v cv g1 σ1 t1 go1 hv q=>?_) herr)
 refine wpAny_mono (it_make go1.rel hv q) (fun iv t2 z=>?_) fun U U q=>q
 obtain ⟨go2,hp,hfr,I,hl,J,j0,j1,j2⟩:=z
 rename_i it g2 σ2 xs
 refine wpAny_newObj_type ?_ (by show (0:Nat)<=sizeLine; decide)
 refine wpAny_newFunctionEnv S.nc (by intro y hy; cases hy) (fun h₁ hns hsb=>?_) S.kind
 generalize hC:(t2.heap.push {cls:=.type "list",data:=.seq ([]:List Value).toArray}).objs.size=C at hns hsb ⊢
 generalize hce:({newEnv sc C f.env.globals cl f.env.qual none .none (some f.env) builtinsNs with scope:=relabel sc f.env}:Env)=cenv
 have N:CEnvI sc f.env cenv C cl:=by subst hce; exact ⟨rfl,rfl,rfl,rfl,F.fr.blt,rfl⟩
 obtain ⟨g3,B⟩:=comp_begin (t:=t2.toks+([]:List (Str×Value)).length) S F (go1.trans go2) hp (go1.ext.notfirm (by rw [hfr]; exact id)) I L N (by rw [← hC]; exact Heap.size_push _ _) hns hsb
 have hflc:HeadOk cenv f.fl:=by
  obtain ⟨fw,fsc,fe,fl⟩:=f
  dsimp only at hfl N ⊢
  cases hfl with
  | mk he=>exact ⟨he.trans N.fr.symm⟩
 have hsc':∀ x,locNm sc x=true->(relab sc f.sc).names.lookup x=some .local∧m.hide sc x=none:=fun x hx=>by
  rcases locNm_of hx with h | h
  ·exact ⟨(relab_look F.fr.skind S.free).trans (by rw [h]; rfl),hide_none h⟩
  ·exact (S.nc _ (mem_of_lookup h) rfl).elim
 have loop:=codeAny_mono (compLoop_w (f:=⟨f.w,relab sc f.sc,cenv,f.fl⟩) (scope:=sc) (pos:=p) (iter:=iter) (hel cenv hflc) hflc hsc' am (fun a ha=>B.no a (by rw [← N.lo]; exact ha)) hl B.at0 B.hp B.I j0 j1 fun ys σ' j=>(j2 ys σ' j).1)
  (R':=compPost (model prg f.w) A E use Q (.ref t2.heap.objs.size) C) fun rr s' z=>?_
 ·exact codeAny_compStart_list loop (it_self B.I loop)
 ·cases z with
  | ok CA j=>
   obtain ⟨mc,hN,_⟩:=CA.fs.fr.loc
   have kL:=CA.kL
   rw [show (⟨f.w,relab sc f.sc,cenv,f.fl⟩:Fm).env.locals=C from N.lo] at hN kL
   exact hok _ _ _ (comp_list CA.go (B.no _ (.inr (.inl rfl))) CA.kD kL (B.no _ (.inr (.inr rfl))) B.ne hN CA.hD CA.acc (j2 _ _ j).2)
  | err go Fc kL q hi ht=>
   rename_i g4 σ4 i c fs
   obtain ⟨mc,hN,_⟩:=Fc.fr.loc
   rw [show (⟨f.w,relab sc f.sc,cenv,f.fl⟩:Fm).env.locals=C from N.lo] at hN kL
   have fin:∃ mc,s'.heap.Ns C mc∧∀ h',Heap.SameBut C s'.heap h'->∀ cenv:Env,cenv.locals=C->wpAny (model prg f.w) A (PySem.passOn "comprehension.variables-let-go" (.ref (g4.ρ i)) cenv:Sem Value) (fun U U=>False) E {s' with heap:=h'}:=⟨mc,hN,fun h' hs cenv' U=>by
    have go':=Go.afterC go kL (B.no _ (.inr (.inr rfl))) hs
    exact passOn_any (g:=g4.mark C .free) go'.rel hi ht fun s'' goL=>herr _ _ ⟨i,_,_,c,fs,go'.trans goL,hi,q⟩⟩
   induction use using Option.casesOn <;> exact fin
end
structure SC (f:Fm) (n:Nat) (hd:Option Nat) (call:CallT) (A:Around) (g:Gh) (σ:AHeap) (m:Loc) (s:Shared):Prop where
 hc:CallP f.w n call
 r:Rel f.w g σ s
 F:FSR f g m s.heap
 am:Amb A g s.heap f.fl n 2 hd
 hfl:HeadOk f.env f.fl
noncomputable def EvIH (n:Nat) (ec:Cx->Vc):Prop:=
 ∀ {f:Fm} {hd:Option Nat} {call:CallT} {A:Around} {g:Gh} {σ:AHeap} {m:Loc} {s:Shared} {e:Expr} {Q:EQ} {E:EX},SC f n hd call A g σ m s->ec (f.cx hd call) m e σ Q E->WE f.w A g s (eval e f.env) VRep Q E
noncomputable def TsIH (n:Nat) (tc:Cx->Vt):Prop:=
 ∀ {f:Fm} {hd:Option Nat} {call:CallT} {A:Around} {g:Gh} {σ:AHeap} {m:Loc} {s:Shared} {e:Expr} {Q:Bool->AHeap->Prop} {E:EX},SC f n hd call A g σ m s->tc (f.cx hd call) m e σ Q E->WE f.w A g s (isTrue e f.env (eval e f.env)) BR Q E
section
variable {f:Fm} {n:Nat} {hd:Option Nat} {call:CallT} {A:Around} {g g':Gh} {σ σ':AHeap} {m:Loc} {s s':Shared} {ec:Cx->Vc} {tc:Cx->Vt} {Q:EQ} {E:EX} {w:World} {K:Frag}
theorem SC.go (c:SC f n hd call A g σ m s) (x:Go f.w noX g s g' σ' s'):SC f n hd call A g' σ' m s':=⟨c.hc,x.rel,c.F.go x,c.am.go x,c.hfl⟩
theorem WE.oper {α:Type} {vs:List Value} {c:Sem Value} {R:Gh->Heap->α->Value->Prop} {Q:α->AHeap->Prop} (h:WE w A g s c R Q E):WE w A g s (operate vs c) R Q E:=wpAny_operate' h
theorem freeze_w {v:AV} {cv:Value} (r:Rel w g σ s) (hv:VRep g s.heap v cv) (q:FreezeP σ Q v):OkE w g s VRep Q cv s:=by
 obtain ⟨h,q⟩:=q
 obtain ⟨_,rfl⟩:=hv.inv
 obtain ⟨h1,h2,h3⟩:=r.freeze h
 exact ⟨_,_,_,⟨h2,h1,.refl g _ _,rfl⟩,h3,q⟩
theorem nameP_look {cx:Cx} {x:Str} {k:AV->Prop} (q:nameP cx m x k):cx.sc.names.lookup x≠none:=fun e=>by
 unfold nameP at q
 rw [e] at q; exact q
theorem name_w {x:Str} {p:Pos} (C:SC f n hd call A g σ m s) (q:nameP (f.cx hd call) m x fun v=>if frzF p then FreezeP σ Q v else Q v σ):WE f.w A g s (eval (.Name x p) f.env) VRep Q E:=by
 have hx:(x==("__debug__":Str))=false:=by
  rw [beq_eq_false_iff_ne]
  rintro rfl
  exact nameP_look q C.F.fr.nodebug
 refine wpAny_Name (WE.then (name_w0 (cx:=f.cx hd call) (Q:=fun v σ=>if frzF p then FreezeP σ Q v else Q v σ) rfl C.r C.F.fr q) (fun v cv g' σ' s' go hv q=>?_) fun U U q=>q) hx
 induction h:frzF p using Bool.casesOn <;> rw [h] at q
 ·exact ⟨v,g',σ',go,hv,q⟩
 ·exact (freeze_w go.rel hv q).pre go
theorem bool_w {op:BoolOp} {pos:Pos} (ih:EvIH n ec):∀ (es:List Expr) {g:Gh} {σ:AHeap} {s:Shared},SC f n hd call A g σ m s->vcBool (ec (f.cx hd call) m) op es σ Q E->WE f.w A g s (boolOp pos op (evalEach es f.env)) VRep Q E
 | [],g,σ,s,C,q=>q.elim
 | [e],g,σ,s,C,q=>ih C q
 | e::e2::es,g,σ,s,C,q=>by
  refine WE.bind (c:=eval e f.env) (ih C q) fun v cv g' σ' s' go hv q=>?_
  have C':=C.go go
  refine WE.stand (WE.bind (c:=holding [cv] (truthy cv)) (WE.hold (truth_w C'.r hv q)) fun b cb g2 σ2 s2 go2 hb q=>?_)
  subst hb
  have C2:=C'.go go2
  have hv2:=hv.go go2
  induction op using BoolOp.casesOn <;> induction b using Bool.casesOn
  ·exact .ret C2.r hv2 (q.1 rfl)
  ·exact bool_w ih (e2::es) C2 (q.2 rfl)
  ·exact bool_w ih (e2::es) C2 (q.2 rfl)
  ·exact .ret C2.r hv2 (q.1 rfl)
theorem bm0:∀ op:CmpOp,false=false:=fun U=>rfl
theorem markedBehindIn_of {op:CmpOp} {e:Expr} {t:Sem Value} (h:isSetE e=false):markedBehindIn op e t=t:=by
 have:behindInMarks op e=false:=Gu.use (b:=!isSetE e) (C:=∀ op,behindInMarks op e=false) (by induction e using Expr.casesOn <;> first | exact trivial | exact bm0) (by rw [h]; rfl) op
 unfold markedBehindIn
 rw [this]
noncomputable abbrev SR (es:List Expr):Gh->Heap->List AV->List Value->Prop:=fun g h vs cvs=>VReps g h vs cvs∧vs.length=es.length
theorem seq_w (ih:EvIH n ec):∀ (es:List Expr) {g:Gh} {σ:AHeap} {s:Shared} {Q:List AV->AHeap->Prop},SC f n hd call A g σ m s->vcSeq (ec (f.cx hd call) m) es σ Q E->WE f.w A g s (spliced (es.map fun e=>(false,eval e f.env))) (SR es) Q E
 | [],g,σ,s,Q,C,q=>.ret C.r ⟨.nil,rfl⟩ q
 | e::es,g,σ,s,Q,C,q=>by
  rw [List.map_cons,spliced]
  refine WE.bind (ih C q) fun v cv g' σ' s' go hv q=>?_
  have C':=C.go go
  show WE f.w A g' s' (pure [cv] >>= fun here=>(holding here (spliced (es.map fun e=>(false,eval e f.env))) >>= fun r=>pure (here++r))) _ _ _
  rw [pure_bind]
  refine WE.bind (WE.hold (seq_w ih es C' q)) fun vs cvs g2 σ2 s2 go2 hvs q=>?_
  exact .ret (C'.go go2).r ⟨.cons (hv.go go2) hvs.1,congrArg Nat.succ hvs.2⟩ q
theorem se0 (e:Expr):∀ (r:List Expr) (env:Env),(false,eval e env)::starEach r env=(false,eval e env)::starEach r env:=fun U U=>rfl
theorem starEach_plain {es:List Expr} {env:Env} (h:es.any isStar=false):starEach es env=es.map fun e=>(false,eval e env):=by
 induction es with
 | nil=>rfl
 | cons e r ih=>
  rw [List.any_cons,Bool.or_eq_false_iff] at h
  exact (Gu.use (b:=!isStar e) (C:=∀ r env,starEach (e::r) env=(false,eval e env)::starEach r env) (by induction e using Expr.casesOn <;> first | exact trivial | exact se0 _) (by rw [h.1]; rfl) r env).trans (congrArg (_::·) (ih h.2))
theorem backTo_plain {pos:Pos} {es:List Expr} {env:Env} (h:es.any isStar=false):backTo pos (starEach es env)=es.map fun e=>(false,eval e env):=by
 rw [starEach_plain h]
 unfold backTo
 rw [List.map_map]
 rfl
theorem type_call_found:findIn K (.type "type") "__call__"=some (some (.builtin "type.__call__")):=by
 show fastLookup "type" "__call__"=_
 kernel_rfl
noncomputable def KeepP (w:World) (v:Value) (h:Heap):Prop:=∃ q,(q=Keeper.frame∨q=Keeper.machine∨q=Keeper.boundFrame)∧Looks (model prg w) h (keeperOf v) q
set_option tactic.hygienic true in
theorem fn_keep {a:Addr} (h:fnIn K a=true) (X:K.In s.heap):KeepP w (.ref a) s.heap:=by
 refine keeps_K (M:=model prg w) ?_ s.heap X
 unfold keepIn
 unfold fnIn at h
 split at h
 ·rename_i e; simp only [e]
 ·injection h
theorem exc_keep {a i:Addr} (h:excInit K a=some i) (X:K.In s.heap):KeepP w (.ref a) s.heap:=by
 obtain ⟨hlk,_⟩:=excInit_of h
 refine keeps_K (M:=model prg w) ?_ s.heap X
 unfold keepIn
 dsimp only
 rw [show K.lookup a=List.lookup a K from rfl] at hlk
 rw [hlk]
 dsimp only
 unfold specialIn
 rw [show typeIn K (.ref a)=some (.type "type") by unfold typeIn; dsimp only; rw [hlk]; rfl,Option.bind_some,type_call_found]
 exact beq_self_eq_true _
set_option tactic.hygienic true in
theorem inst_keep {a:Addr} (h:clsInst K a=true) (X:K.In s.heap):KeepP w (.ref a) s.heap:=by
 have hmk:=(clsInst_of h).mks
 refine keeps_K (M:=model prg w) ?_ s.heap X
 unfold keepIn
 unfold makesIn at hmk
 split at hmk
 ·rename_i e
  simp only [Bool.and_eq_true] at hmk
  simp only [e]
  exact hmk.1.2
 ·injection hmk
theorem keep_of {v:AV} {cv:Value} {sc:Scope} {vs:List AV} (X:(KF w.params).In s.heap) (hf:VRep g s.heap v cv) (q:CallVI ⟨w.params,sc,hd,call⟩ vs σ Q E v):KeepP w cv s.heap:=by
 induction q using CallVI.casesOn with
 | fn h q=>rw [hf.inv.1]; exact fn_keep h X
 | exc h q=>rw [hf.inv.1]; exact exc_keep h X
 | inst h hi q=>rw [hf.inv.1]; exact inst_keep hi X
 | bi q=>rw [show cv=_ from hf.inv]; exact ⟨.machine,.inr (.inl rfl),Looks.of_pure rfl⟩
 | ty q=>rw [show cv=_ from hf.inv]; exact ⟨.machine,.inr (.inl rfl),Looks.of_pure rfl⟩
theorem args_w {v:Value} {pos:Pos} {es:List Expr} {P:Args->Shared->Prop} {E':Value->Shared->Prop} {Q:List AV->AHeap->Prop} (ih:EvIH n ec) (hs:es.any isStar=false) (C:SC f n hd call A g σ m s) (q:vcSeq (ec (f.cx hd call) m) es σ Q E)
  (hQ:∀ vs cvs g' σ' s',Go f.w noX g s g' σ' s'->SR es g' s'.heap vs cvs->Q vs σ'->P ⟨cvs,[]⟩ s') (hE:∀ e s',ErE f.w g s E e s'->E' e s'):wpAny (model prg f.w) A (evalArgs v true (backTo pos (starEach es f.env)) []) P E' s:=by
 rw [backTo_plain hs]
 induction es using List.casesOn with
 | nil=>exact evalArgs_nil3 (hQ [] [] g σ s (.refl C.r) ⟨.nil,rfl⟩ q)
 | cons e r=>exact evalArgs_plain ((seq_w ih (e::r) C q).then (fun vs cvs g' σ' s' go hv q=>hQ vs cvs g' σ' s' go hv q) hE)
theorem plain_args {es:List Expr} {pos:Pos} {env:Env} (hs:es.any isStar=false):(backTo pos (starEach es env)).any (·.1)=false:=by
 rw [backTo_plain hs,List.any_map]; simp
theorem lim20 {l:Nat} (h:l<=20):l<=lim:=Nat.le_trans h (by decide)
theorem callWith_w {v:AV} {cv:Value} {pos:Pos} {es:List Expr} (ih:EvIH n ec) (hs:es.any isStar=false) (hl:es.length<=20) (C:SC f n hd call A g σ m s) (hf:VRep g s.heap v cv) (q:vcSeq (ec (f.cx hd call) m) es σ (fun vs σ=>VW (callV (f.cx hd call) v vs) σ Q E) E) :
  WE f.w A g s (callWith pos cv [] (backTo pos (starEach es f.env)) []) VRep Q E:=by
 refine callWith_of (P:=KeepP f.w cv) (by rw [plain_args hs]; rfl) (fun h q=>q) ?_
 refine args_w ih hs C q (fun vs cvs g' σ' s' go hv q=>?_) fun e s' q=>q
 have C':=C.go go
 have q:=callV_inv q.r
 exact ⟨keep_of C'.r.sta.inK (hf.go go) q,WE.pre go (callV_w (P:=f.w.params) (k:=1) C.hc C'.r (hf.go go) hv.1 (by rw [hv.2]; exact lim20 hl) C'.am q)⟩
noncomputable def MtKeep (K:Frag):Mt->Prop
 | .fn f=>fnIn K f=true
 | .self f=>fnIn K f=true
 | _=>True
theorem GetMP.keep {σ:AHeap} {Q:Mt->AHeap->Prop} {v:AV} {x:Str} (q:GetMP K σ Q v x):GetMP K σ (fun mt σ=>MtKeep K mt∧Q mt σ) v x:=by
 induction q using GetMP.casesOn with
 | append h q=>exact .append h ⟨trivial,q⟩
 | lpop h q=>exact .lpop h ⟨trivial,q⟩
 | get h q=>exact .get h ⟨trivial,q⟩
 | dpop h q=>exact .dpop h ⟨trivial,q⟩
 | inst h mm q=>exact .inst h mm ⟨(methA_of mm).2.1,q⟩
 | cls mm q=>exact .cls mm ⟨(clsMeth_of mm).2.2.2,q⟩
 | join q=>exact .join ⟨trivial,q⟩
 | find q=>exact .find ⟨trivial,q⟩
 | count q=>exact .count ⟨trivial,q⟩
 | exc q=>exact .exc ⟨trivial,q⟩
theorem mt_keep {mt:Mt} {co:Value} (k:MtKeep K mt) (X:K.In s.heap):KeepP w (mtV co mt).1 s.heap:=by
 induction mt using Mt.casesOn with
 | fn f=>exact fn_keep k X
 | self f=>exact fn_keep k X
 | _=>exact ⟨.machine,.inr (.inl rfl),Looks.of_pure rfl⟩
theorem ab0:∀ (x:Str) (env:Env) (t:Sem Value),t=t:=fun U U U=>rfl
theorem ab1:∀ (as:List Expr) (ks:List Keyword) (p:Pos) (x:Str) (env:Env) (t:Sem Value),t=t:=fun U U U U U U=>rfl
theorem attributeBase_of {o:Expr} {x:Str} {t:Sem Value} {env:Env} (h:isCall0 o=false):attributeBase o x env t=t:=by
 induction h3:tagE o==3 using Bool.casesOn with
 | false=>exact Gu.use (b:=!(tagE o==3)) (C:=∀ x env t,attributeBase o x env t=t) (by induction o using Expr.casesOn <;> first | exact trivial | exact ab0) (by rw [h3]; rfl) x env t
 | true=>
  obtain ⟨f,as,ks,p,rfl⟩:=callE_inv h3
  induction hf:tagE f==13 using Bool.casesOn with
  | false=>exact Gu.use (b:=!(tagE f==13)) (C:=∀ as ks p x env t,attributeBase (.Call f as ks p) x env t=t) (by induction f using Expr.casesOn <;> first | exact trivial | exact ab1) (by rw [hf]; rfl) as ks p x env t
  | true=>
   obtain ⟨id,np,rfl⟩:=nameE_inv hf
   induction as using List.casesOn with
   | cons U U=>rfl
   | nil=>
    induction ks using List.casesOn with
    | cons U U=>rfl
    | nil=>injection h
theorem meth_w {o:Expr} {x:Str} {ap p:Pos} {args:List Expr} (ih:EvIH n ec) (C:SC f n hd call A g σ m s)
  (h1:args.any isStar=false) (h2:args.length<=20) (h3:(ap.endLine==p.line)=true) (h4:isCall0 o=false)
  (q:ec (f.cx hd call) m o σ (fun v σ=>GetMP (KF f.w.params) σ (fun mt σ=>vcSeq (ec (f.cx hd call) m) args σ (fun vs σ=>VW (callMtA (f.cx hd call) mt v vs) σ Q E) E) v x) E):WE f.w A g s (eval (.Call (.Attribute o x ap) args [] p) f.env) VRep Q E:=by
 rw [arm_eval_Call,attributeBase_of h4]
 refine WE.bind (ih C q) fun v cv g1 σ1 s1 go1 hv q=>?_
 have C1:=C.go go1
 refine WE.stand ?_
 unfold methodCall
 have hmf:methodCallForm (args.length+([]:List Keyword).length) (backTo p (starEach args f.env)) (backToKw p (keywordEach [] f.env))=true:=by
  rw [backTo_plain h1]
  unfold methodCallForm
  have a1:(args.map fun e=>(false,eval e f.env)).all (fun x=>!x.1)=true:=by rw [List.all_map]; simp
  rw [a1]
  show (true&&true&&decide (args.length+0+0<30))=true
  rw [decide_eq_true (by lia)]; rfl
 rw [hmf]
 refine wpAny_bind (wpAny_holding ?_)
 show wpAny _ _ (getMethod cv x _) _ _ _
 refine (getM_w C1.r hv q.keep).then (fun mt fv g2 σ2 s2 go2 hm q=>?_) fun U U q=>q
 obtain ⟨kp,q⟩:=q
 have C2:=C1.go go2
 subst hm
 dsimp only
 unfold methodCallPos
 rw [show (!true||ap.endLine==p.line)=true by rw [h3]; rfl,if_pos rfl]
 refine wpAny_bind (wpAny_pure (callWith_of (P:=KeepP f.w (mtV cv mt).1) (by rw [plain_args h1]; rfl) (fun h q=>q) ?_))
 show wpAny _ _ (evalArgs (mtV cv mt).1 true (backTo p (starEach args f.env)) []) _ _ _
 refine args_w ih h1 C2 q (fun vs cvs g3 σ3 s3 go3 hvs q=>?_) fun e s3 q=>q.pre go2
 have C3:=C2.go go3
 exact ⟨mt_keep kp C3.r.sta.inK,WE.pre (go2.trans go3) (callMt_w (P:=f.w.params) (k:=1) C.hc C3.r ((hv.go go2).go go3) hvs.1 C3.am q.r)⟩
end
section
variable {f:Fm} {n:Nat} {hd:Option Nat} {call:CallT} {A:Around} {g g':Gh} {σ σ':AHeap} {m:Loc} {s s':Shared} {ec:Cx->Vc} {tc:Cx->Vt} {Q:EQ} {E:EX} {w:World} {h h':Heap} {D:Addr}
theorem stored_nodup (k:Str) (v:Value) {l:List (Str×Value)} (hn:(l.map (·.1)).Nodup):((stored l k v).map (·.1)).Nodup:=by
 unfold stored
 by_cases q:(l.any fun kv=>kv.1=k)=true
 ·rw [if_pos q,List.map_map,show ((fun x:Str×Value=>x.1) ∘ fun kv=>if kv.1=k then (kv.1,v) else kv)=(·.1) from funext fun kv=>by
   show (if kv.1=k then (kv.1,v) else kv).1=kv.1
   by_cases z:kv.1=k
   ·rw [if_pos z]
   ·rw [if_neg z]]
  exact hn
 ·rw [if_neg q,List.map_append,List.nodup_append]
  refine ⟨hn,List.nodup_cons.mpr ⟨fun z=>(nomatch z),List.nodup_nil⟩,fun a ha b hb e=>q ?_⟩
  obtain ⟨p,hp,rfl⟩:=List.mem_map.mp ha
  exact List.any_eq_true.mpr ⟨p,hp,decide_eq_true (e.trans (List.mem_singleton.mp hb))⟩
inductive PairsR (g:Gh) (h:Heap):List (AV×AV)->List (Value×Value)->Prop
 | nil:PairsR g h [] []
 | cons {k v:AV} {ck cv:Value} {kvs:List (AV×AV)} {cs:List (Value×Value)} (hk:VRep g h k ck) (hv:VRep g h v cv) (r:PairsR g h kvs cs):PairsR g h ((k,v)::kvs) ((ck,cv)::cs)
inductive CarI (g:Gh) (h:Heap) (w:World) (kvs:List (AV×AV)) (cs:List (Value×Value)):Prop
 | mk {l:List (Str×Value)} (c:Carries (strKind prg w) cs l) (r:LRep AV.str g h kvs l):CarI g h w kvs cs
theorem isStrA_of {v:AV} (h:isStrA v=true):∃ x,v=.str x:=by induction v using AV.casesOn <;> first | exact ⟨_,rfl⟩ | injection h
theorem carry {kvs:List (AV×AV)} {cs:List (Value×Value)} (r:PairsR g h kvs cs) (hk:kvs.all (fun e=>isStrA e.1)=true):CarI g h w kvs cs:=by
 induction r with
 | nil=>exact .mk (l:=[]) trivial .nil
 | cons r1 r2 _ ih=>
  rw [List.all_cons,Bool.and_eq_true] at hk
  obtain ⟨c,r⟩:=ih hk.2
  obtain ⟨x,rfl⟩:=isStrA_of hk.1
  exact .mk (l:=(x,_)::_) ⟨(kind_str w).vrep r1,rfl,c⟩ (.cons r2 r)
theorem merge_rep (w:World) {kvs d:List (AV×AV)} {l acc:List (Str×Value)} (r:LRep AV.str g h kvs l):LRep AV.str g h d acc->(acc.map (·.1)).Nodup->LRep AV.str g h (kvs.foldl (fun d e=>putD d e.1 e.2) d) (merged acc l):=by
 induction r generalizing d acc with
 | nil=>exact fun hd U=>hd
 | cons hv r ih=>exact fun hd hn=>ih (hd.stored (kind_str w) _ hv hn) (stored_nodup _ _ hn)
noncomputable def pairsOf (env:Env) (pos:Pos):List (Option Expr)->List Expr->List (Sem Value×Sem Value)
 | some k::ks,v::vs=>(eval k env,do let x ← eval v env; standAt pos; pure x)::pairsOf env pos ks vs
 | _,_=>[]
theorem pairs_shape {env:Env} {pos:Pos}:∀ {ks:List (Option Expr)} {vs:List Expr},ks.all (·.isSome)=true->ks.length=vs.length->
  (evalEachOpt ks env).zip ((evalEach vs env).map fun v=>do let x ← v; standAt pos; pure x)=(pairsOf env pos ks vs).map (fun p=>(some p.1,p.2))∧(pairsOf env pos ks vs).length=ks.length
 | [],[],_,_=>⟨rfl,rfl⟩
 | [],_::_,_,h=>by injection h
 | _::_,[],_,h=>by injection h
 | none::ks,v::vs,h,_=>by rw [List.all_cons] at h; injection h
 | some k::ks,v::vs,h,hl=>by
  rw [List.all_cons,Bool.and_eq_true] at h
  obtain ⟨h1,h2⟩:=pairs_shape (env:=env) (pos:=pos) h.2 (Nat.succ.inj hl)
  exact ⟨congrArg (_::·) h1,congrArg Nat.succ h2⟩
theorem pairs_w {pos:Pos} (ih:EvIH n ec):∀ (ks:List (Option Expr)) (vs:List Expr) {g:Gh} {σ:AHeap} {s:Shared} {Q:List (AV×AV)->AHeap->Prop},SC f n hd call A g σ m s->vcPairs (ec (f.cx hd call) m) ks vs σ Q E->WE f.w A g s (evalPairs (pairsOf f.env pos ks vs)) PairsR Q E
 | [],[],g,σ,s,Q,C,q=>.ret C.r .nil q
 | [],_::_,_,_,_,_,_,q=>q.elim
 | some _::_,[],_,_,_,_,_,q=>q.elim
 | none::_,[],_,_,_,_,_,q=>q.elim
 | none::_,_::_,_,_,_,_,_,q=>q.elim
 | some k::ks,v::vs,g,σ,s,Q,C,q=>by
  show WE f.w A g s (evalPairs ((eval k f.env,(do let x ← eval v f.env; standAt pos; pure x))::pairsOf f.env pos ks vs)) PairsR Q E
  rw [evalPairs]
  refine WE.bind (ih C q) fun kv ck g1 σ1 s1 go1 hk q=>?_
  have C1:=C.go go1
  refine WE.bind (WE.hold ((ih C1 q).after fun U U U U h=>wpAny_standAt h)) fun vv cv g2 σ2 s2 go2 hv q=>?_
  have C2:=C1.go go2
  refine WE.bind (WE.hold (pairs_w ih ks vs C2 q)) fun r cr g3 σ3 s3 go3 hr q=>?_
  exact WE.ret (C2.go go3).r (.cons ((hk.go go2).go go3) (hv.go go3) hr) q
theorem newDict_w (r:Rel w g σ s) (q:Q (.ref σ.next) (σ.new (.dict []))):WE w A g s newDict VRep Q E:=by
 refine wpAny_newObj_type ?_ (by size_fits)
 have go:=(Go.push (X:=noX) r {cls:=.type "dict",data:=.dict #[]}).new (a:=s.heap.objs.size) (o:=.dict []) ⟨_,Heap.get?_push_size _ rfl⟩ (r.free _ (Nat.le_refl _)) (DictO.s (l:=[]) (by rw [Gh.grow_ρ]; exact Heap.get?_push_size _ rfl) ⟨#[],0,⟨rfl,rfl,rfl⟩,rfl,fun e he=>by simp at he,.nil,List.nodup_nil⟩ .nil) rfl
 exact ⟨.ref σ.next,_,_,go,self_new r,q⟩
theorem LRep.conv {h':Heap} {kv:List (AV×AV)} {l:List (Str×Value)} (k:g.κ D=.priv) (st:Stays g h h') (r:LRep AV.str g h kv l):LRep AV.str ((g.mark D .free).grow D) h' kv l:=
 (r.monoV (ExtV.unpriv k) (fun a o e hk=>st a o e hk)).monoV (Ext.grow (by rw [Gh.mark_self]; exact id)).v (.refl _ _)
theorem dict_fin {g1:Gh} {σ1:AHeap} {s1:Shared} {kvs:List (AV×AV)} {l:List (Str×Value)} {t:Nat} (go1:Go w noX g s g1 σ1 s1) (hfr:g.κ D=.free) (kD:g1.κ D=.priv) (lr:LRep AV.str g1 s1.heap kvs l) (q:Q (.ref σ1.next) (σ1.new (.dict (kvs.foldl (fun d e=>putD d e.1 e.2) []))))
  (hd:h'.DictOf (strKind prg w) D (merged [] l)) (hs:Heap.SameBut D s1.heap h'):OkE w g s VRep Q (.ref D) {s1 with heap:=h',toks:=t}:=by
 obtain ⟨o,ho,d⟩:=Heap.dictOf_iff.mp hd
 have nfD:¬ (g.κ D).firm:=by rw [hfr]; exact id
 have go2:Go w (itX D) g1 s1 g1 σ1 {s1 with heap:=h',toks:=t}:=own_go (b:=D) (s':={s1 with heap:=h',toks:=t}) go1.rel (by rw [kD]; trivial) rfl (fun a o ha e=>(hs.2 a ha).trans e) ⟨_,ho⟩ rfl rfl
 have goN:=go1.thenN (fun a z=>.inr (by rw [show a=D from z]; exact nfD)) go2
 have goB:Go w noX g s (g1.mark D .free) σ1 {s1 with heap:=h',toks:=t}:=⟨goN.ext.unpriv nfD,Rel.unpriv goN.rel kD,goN.tr,goN.os⟩
 exact ⟨_,_,_,goB.new (a:=D) (o:=.dict _) ⟨_,ho⟩ (Gh.mark_self _ _ _) (DictO.s (by rw [Gh.grow_ρ]; exact ho) d ((merge_rep w lr .nil List.nodup_nil).conv kD (own_st hs (by rw [kD]; trivial)))) rfl,self_new goB.rel,q⟩
theorem dict_w {pos:Pos} {ks:List (Option Expr)} {vs:List Expr} (ih:EvIH n ec) (h1:ks.length<=15) (h2:ks.all (·.isSome)=true) (h3:ks.length=vs.length) (C:SC f n hd call A g σ m s)
  (q:vcPairs (ec (f.cx hd call) m) ks vs σ (fun kvs σ=>NewD kvs σ Q) E):WE f.w A g s (eval (.Dict ks vs pos) f.env) VRep Q E:=by
 induction ks using List.casesOn with
 | nil=>
  induction vs using List.casesOn with
  | cons _ _=>injection h3
  | nil=>
   rw [arm_eval_Dict]
   obtain ⟨_,q⟩:=id q
   exact wpAny_bind (wpAny_standAt (newDict_w C.r q))
 | cons k0 ks=>
  obtain ⟨p1,p2⟩:=pairs_shape (env:=f.env) (pos:=pos) h2 h3
  have hD1:(s.heap.push {cls:=.type "dict",data:=.dict #[]}).get? s.heap.objs.size=some {cls:=.type "dict",data:=.dict #[]}:=Heap.get?_push_size _ rfl
  have hfr:=C.r.free s.heap.objs.size (Nat.le_refl _)
  have go1:=(Go.push (X:=noX) C.r {cls:=.type "dict",data:=.dict #[]}).mark (a:=s.heap.objs.size) .priv ⟨_,hD1⟩ hfr
  have kD:=Gh.mark_self g s.heap.objs.size .priv
  refine wpAny_Dict_pairs (knd:=strKind prg f.w) p1 (by intro q; rw [q] at p2; injection p2) (by rw [p2]; exact h1) ((pairs_w ih (k0::ks) vs (C.go go1) q).then (fun kvs cs g2 σ2 s2 go2 hpr q=>?_) fun e s2 q=>q.pre go1)
  obtain ⟨hs,q⟩:=q
  obtain ⟨c,lr⟩:=carry (w:=f.w) hpr hs
  have e1:=keep_priv go2.tr kD id hD1
  exact ⟨_,c,Heap.dictOf_iff.mpr ⟨_,e1,#[],0,⟨rfl,rfl,rfl⟩,rfl,fun e he=>by simp at he,.nil,List.nodup_nil⟩,fun h' hd hs=>dict_fin (go1.trans go2) hfr ((go2.ext.κ _ (by rw [kD]; trivial)).trans kD) lr q hd hs⟩
end
section
variable {f:Fm} {n:Nat} {hd:Option Nat} {call:CallT} {A:Around} {g g':Gh} {σ σ':AHeap} {m:Loc} {s s':Shared} {ec:Cx->Vc} {tc:Cx->Vt} {Q:EQ} {E:EX} {w:World} {env:Env}
theorem sf0:∀ (env:Env) (x:Value),(pure x:Sem Value)=pure x:=fun U U=>rfl
theorem setFold {iter:Expr} (h:isSetE iter=false):∀ x,foldedSetIterable iter env x=pure x:=Gu.use (b:=!isSetE iter) (C:=∀ env x,foldedSetIterable iter env x=pure x) (by induction iter using Expr.casesOn <;> first | exact trivial | exact sf0) (by rw [h]; rfl) env
theorem one_inv {α:Type} {l:List α} {k:α->Prop} (h:one l k):∃ a,l=[a]∧k a:=by
 induction l using List.casesOn with
 | nil=>exact h.elim
 | cons a r=>
  induction r using List.casesOn with
  | nil=>exact ⟨a,rfl,h⟩
  | cons _ _=>exact h.elim
theorem opt_w {e:Option Expr} (ih:EvIH n ec) (C:SC f n hd call A g σ m s) (q:vcOpt (ec (f.cx hd call) m) e σ Q E):WE f.w A g s (valueOrNone (evalOpt e f.env)) VRep Q E:=by
 induction e using Option.casesOn with
 | none=>exact .ret C.r .none q
 | some e=>exact ih C q
theorem slice_w {o:Expr} {lo hi:Option Expr} {p sp:Pos} {frz:Bool} (ih:EvIH n ec) (C:SC f n hd call A g σ m s)
  (q:ec (f.cx hd call) m o σ (fun v σ=>vcOpt (ec (f.cx hd call) m) lo σ (fun a σ=>vcOpt (ec (f.cx hd call) m) hi σ (fun b σ=>SliceP frz σ Q v a b) E) E) E):WE f.w A g s (eval (.Subscript o (.Slice lo hi none sp) p) f.env) VRep Q E:=by
 refine Subscript_ ((ih C q).then (fun v cv g1 σ1 s1 go1 hv q=>?_) fun U U q=>q)
 have C1:=C.go go1
 show wpAny _ _ (do
  let l ← valueOrNone (evalOpt lo f.env)
  let u ← holding [l] (valueOrNone (evalOpt hi f.env))
  let s ← holding [l,u] (valueOrNone (evalOpt none f.env))
  newFields "slice" [l,u,s]) _ _ _
 refine wpAny_bind ((opt_w ih C1 q).then (fun a cl g2 σ2 s2 go2 ha q=>?_) fun U U q=>q.pre go1)
 have go12:=go1.trans go2
 have C2:=C1.go go2
 refine wpAny_bind (wpAny_holding ((opt_w ih C2 q).then (fun b ch g3 σ3 s3 go3 hb q=>?_) fun U U q=>q.pre go12))
 refine wpAny_bind (wpAny_holding (wpAny_pure ?_))
 unfold newFields
 refine wpAny_newObj_type ?_ (by size_fits)
 exact wpAny_mono (slice_w0 (go12.trans go3).rel ((hv.go go2).go go3) (ha.go go3) hb q) (fun U U q=>q.pre (go12.trans go3)) fun U U q=>q.pre (go12.trans go3)
theorem subs_w {o i:Expr} {p:Pos} (ih:EvIH n ec) (C:SC f n hd call A g σ m s) (q:ec (f.cx hd call) m o σ (fun v σ=>ec (f.cx hd call) m i σ (fun k σ=>SubP σ Q v k) E) E):WE f.w A g s (eval (.Subscript o i p) f.env) VRep Q E:=by
 refine Subscript_ ((ih C q).then (fun v cv g1 σ1 s1 go1 hv q=>?_) fun U U q=>q)
 refine (ih (C.go go1) q).then (fun k ck g2 σ2 s2 go2 hk q=>?_) fun U U q=>q.pre go1
 exact WE.pre (go1.trans go2) (sub_w go2.rel (hv.go go2) hk q)
theorem ec0 (fn:Expr):∀ (args:List Expr) (pos:Pos) (env:Env),(eval fn env >>= fun fv=>callWith pos fv [] (backTo pos (starEach args env)) [])=(eval fn env >>= fun fv=>callWith pos fv [] (backTo pos (starEach args env)) []):=fun U U U=>rfl
theorem eval_Call_plain {fn:Expr} {args:List Expr} {pos:Pos} (hf:isAttrE fn=false):eval (.Call fn args [] pos) env=(eval fn env >>= fun fv=>callWith pos fv [] (backTo pos (starEach args env)) []):=
 Gu.use (b:=!isAttrE fn) (C:=∀ args pos env,eval (.Call fn args [] pos) env=(eval fn env >>= fun fv=>callWith pos fv [] (backTo pos (starEach args env)) [])) (by induction fn using Expr.casesOn <;> first | exact trivial | exact ec0 _) (by rw [hf]; rfl) args pos env
noncomputable abbrev compQ (f:Fm) (hd:Option Nat) (call:CallT) (ec:Cx->Vc) (sc:Scope) (p:Pos) (elt tgt:Expr) (m:Loc) (Q:EQ) (E:EX):EQ:=fun v σ=>LoopP σ (fun xs σ=>CompP (frzF p) v xs σ (fun x σ' K=>vcBind sc tgt x (m.hide sc) fun m'=>ec {f.cx hd call with sc:=relab sc f.sc} m' elt σ' K E) Q) v
theorem comp_any {elt tgt iter:Expr} {sc:Scope} {p p':Pos} {use:Option (Value->Sem Unit)} {Q':Value->Shared->Prop} {E':Value->Shared->Prop} (ih:EvIH n ec) (C:SC f n hd call A g σ m s) (h1:okComp sc f.sc=true) (h2:isSetE iter=false)
  (q:ec (f.cx hd call) m iter σ (compQ f hd call ec sc p elt tgt m Q E) E) (hok:∀ cv s' D,CompV f.w g s Q D cv s'->compPost (model prg f.w) A E' use Q' cv D (.ok .next) s') (herr:∀ e s',ErE f.w g s E e s'->E' e s') :
  wpAny (model prg f.w) A (comprehension (.ListComp elt [⟨tgt,iter,[],0⟩] sc p') sc f.env (firstIterPos [⟨tgt,iter,[],0⟩] p') (newList []) false (eval iter f.env) use) Q' E' s:=
 comp_w (n:=n) (k:=2) (hd:=hd) h1 (setFold h2) C.hfl (ih C q) (fun cenv hflc {g' σ' s' m' Q} r' F' am' q=>ih (f:=⟨f.w,relab sc f.sc,cenv,f.fl⟩) ⟨C.hc,r',F',am',hflc⟩ q) C.F C.am hok herr
theorem comp_case {elt tgt iter:Expr} {sc:Scope} {p:Pos} (ih:EvIH n ec) (C:SC f n hd call A g σ m s) (h1:okComp sc f.sc=true) (h2:isSetE iter=false)
  (q:ec (f.cx hd call) m iter σ (compQ f hd call ec sc p elt tgt m Q E) E):WE f.w A g s (eval (.ListComp elt [⟨tgt,iter,[],0⟩] sc p) f.env) VRep Q E:=by
 rw [arm_eval_ListComp]
 refine comp_any (use:=none) ih C h1 h2 q (fun cv s' D z=>?_) fun e s' q=>q
 obtain ⟨go,hv,hC,hC0,hN,q⟩:=z
 exact ⟨_,hN,fun h' hs=>⟨_,_,_,Go.afterC go hC hC0 hs,hv.afterC hC hs,q⟩⟩
theorem WE.conv {α β:Type} {c:Sem α} {R:Gh->Heap->β->α->Prop} {Q Q':β->AHeap->Prop} (h:WE w A g s c R Q E) (hQ:∀ v σ,Q v σ->Q' v σ):WE w A g s c R Q' E:=
 wpAny_mono h (fun _ _ ⟨v,g',σ',go,r,q⟩=>⟨v,g',σ',go,r,hQ _ _ q⟩) fun U U q=>q
theorem two_w {α β:Type} {l r:Expr} {p:Pos} {F:Value->Value->Sem α} {R:Gh->Heap->β->α->Prop} {Q':β->AHeap->Prop} {P:AV->AV->AHeap->Prop} (ih:EvIH n ec) (C:SC f n hd call A g σ m s) (q:ec (f.cx hd call) m l σ (fun a σ=>ec (f.cx hd call) m r σ (P a) E) E)
  (h:∀ {a b:AV} {ca cb:Value} {g':Gh} {σ':AHeap} {s':Shared},SC f n hd call A g' σ' m s'->VRep g' s'.heap a ca->VRep g' s'.heap b cb->P a b σ'->WE f.w A g' s' (F ca cb) R Q' E):WE f.w A g s (eval l f.env >>= fun a=>holding [a] (eval r f.env) >>= fun b=>standAt p >>= fun U=>F a b) R Q' E:=by
 refine WE.bind (ih C q) fun a ca g1 σ1 s1 go1 ha q=>?_
 have C1:=C.go go1
 exact WE.bind (WE.hold (ih C1 q)) fun b cb g2 σ2 s2 go2 hb q=>WE.stand (h (C1.go go2) (ha.go go2) hb q)
theorem cmp_v {op:CmpOp} {a b:AV} {ca cb:Value} {Q:Bool->AHeap->Prop} (C:SC f n hd call A g σ m s) (ha:VRep g s.heap a ca) (hb:VRep g s.heap b cb) (q:CmpP op a b σ Q):WE f.w A g s (operate [ca,cb] (compareOp op ca cb)) VRep (fun v σ=>∃ r,v=.bool r∧Q r σ) E:=
 WE.oper (cmp_w (by have:=C.am.units; lia) C.r ha hb q)
theorem ite_w {α β:Type} {t:Expr} {Q':β->AHeap->Prop} {R:Gh->Heap->β->α->Prop} {x y:Sem α} {P1 P2:AHeap->Prop} (iht:TsIH n tc) (C:SC f n hd call A g σ m s) (q:tc (f.cx hd call) m t σ (fun c σ=>(c=true->P1 σ)∧(c=false->P2 σ)) E) (h1:∀ {g':Gh} {σ':AHeap} {s':Shared},SC f n hd call A g' σ' m s'->P1 σ'->WE f.w A g' s' x R Q' E) (h2:∀ {g':Gh} {σ':AHeap} {s':Shared},SC f n hd call A g' σ' m s'->P2 σ'->WE f.w A g' s' y R Q' E):WE f.w A g s (isTrue t f.env (eval t f.env) >>= fun c=>if c then x else y) R Q' E:=by
 refine WE.bind (iht C q) fun c cc g1 σ1 s1 go1 hc q=>?_
 subst hc
 induction c using Bool.casesOn
 ·exact h2 (C.go go1) (q.2 rfl)
 ·exact h1 (C.go go1) (q.1 rfl)
theorem usub_w {i:Int} {kk:Nat} {p p1:Pos} (C:SC f n hd call A g σ m s) (q:Q (.int (-i)) σ):WE f.w A g s (eval (.UnaryOp .USub (.Constant (.int i) kk p1) p) f.env) VRep Q E:=by
 rw [arm_eval_UnaryOp]
 show wpAny _ _ (mkInt i >>= fun v=>standAt p >>= fun U=>holding [v] (unaryOp .USub v)) _ _ _
 exact wpAny_bind (wpAny_mkInt (wpAny_bind (wpAny_standAt (wpAny_holding (PyProof.Rows.neg_int ⟨_,g,_,Go.toks C.r,.int _ _,q⟩)))))
theorem list_w {es:List Expr} {p:Pos} (ih:EvIH n ec) (C:SC f n hd call A g σ m s) (hs:es.any isStar=false) (q:vcSeq (ec (f.cx hd call) m) es σ (fun vs σ=>NewL vs σ Q (frzF p)) E):WE f.w A g s (eval (.List es p) f.env) VRep Q E:=by
 rw [arm_eval_List,backTo_plain hs]
 exact WE.stand (WE.bind (seq_w ih es C q) fun vs cvs g1 σ1 s1 go1 hv q=>newList_w (C.go go1).r hv.1 q)
theorem tup_w {es:List Expr} {kk:Nat} {p:Pos} (ih:EvIH n ec) (C:SC f n hd call A g σ m s) (h:(es.any isStar||decide (lim<es.length))=false) (q:vcSeq (ec (f.cx hd call) m) es σ (fun vs σ=>Q (.tup vs) σ) E):WE f.w A g s (eval (.Tuple es kk p) f.env) VRep Q E:=by
 rw [Bool.or_eq_false_iff,decide_eq_false_iff_not] at h
 rw [arm_eval_Tuple,backTo_plain h.1]
 exact WE.stand (WE.bind (seq_w ih es C q) fun vs cvs g1 σ1 s1 go1 hv q=>newTuple_w (C.go go1).r hv.1 (by rw [hv.2]; exact Nat.not_lt.mp h.2) q)
inductive AttrV:Expr->Prop
 | mk {o:Expr} {x:Str} {p:Pos}:AttrV (.Attribute o x p)
theorem attr_inv {e:Expr} (h:isAttrE e=true):AttrV e:=Gu.use (by induction e using Expr.casesOn <;> first | exact trivial | exact .mk) h
inductive SliceV:Expr->Prop
 | mk {lo hi st:Option Expr} {p:Pos}:SliceV (.Slice lo hi st p)
theorem slice_inv {e:Expr} (h:isSliceE e=true):SliceV e:=Gu.use (by induction e using Expr.casesOn <;> first | exact trivial | exact .mk) h
inductive TestV:Expr->Prop
 | un {op:UnaryOp} {x:Expr} {p:Pos}:TestV (.UnaryOp op x p)
 | bo {op:BoolOp} {vs:List Expr} {p:Pos}:TestV (.BoolOp op vs p)
 | ie {t b o:Expr} {p:Pos}:TestV (.IfExp t b o p)
 | cm {l:Expr} {ops:List CmpOp} {rs:List Expr} {p:Pos}:TestV (.Compare l ops rs p)
theorem test_inv {e:Expr} (h:isTestE e=true):TestV e:=Gu.use (by induction e using Expr.casesOn <;> first | exact trivial | exact .un | exact .bo | exact .ie | exact .cm) h
theorem call_e {fn:Expr} {args:List Expr} {kws:List Keyword} {p:Pos} (ih:EvIH n ec) (C:SC f n hd call A g σ m s) (q:vcStepE (f.cx hd call) ec (tc (f.cx hd call)) m (.Call fn args kws p) σ Q E):WE f.w A g s (eval (.Call fn args kws p) f.env) VRep Q E:=by
 replace q:=ifF q
 obtain ⟨hq,q⟩:=q
 rw [Bool.or_eq_false_iff,Bool.or_eq_false_iff,Bool.not_eq_false',List.isEmpty_iff,decide_eq_false_iff_not] at hq
 obtain ⟨⟨rfl,h1⟩,h2⟩:=hq
 change (if isAttrE fn then _ else _) at q
 induction hf:isAttrE fn using Bool.casesOn with
 | true=>
  rw [hf] at q
  have V:=attr_inv hf
  induction V using AttrV.casesOn
  obtain ⟨hq,q⟩:=ifF q
  rw [Bool.or_eq_false_iff,Bool.not_eq_false'] at hq
  exact meth_w ih C h1 (Nat.not_lt.mp h2) hq.1 hq.2 q
 | false=>
  rw [hf] at q
  rw [eval_Call_plain hf]
  exact WE.bind (ih C q) fun v cv g1 σ1 s1 go1 hv q=>callWith_w ih h1 (Nat.not_lt.mp h2) (C.go go1) hv q
set_option tactic.hygienic true in
theorem subscr_e {o i:Expr} {p:Pos} (ih:EvIH n ec) (C:SC f n hd call A g σ m s) (q:vcStepE (f.cx hd call) ec (tc (f.cx hd call)) m (.Subscript o i p) σ Q E):WE f.w A g s (eval (.Subscript o i p) f.env) VRep Q E:=by
 change (if isSliceE i then _ else _) at q
 induction hi:isSliceE i using Bool.casesOn with
 | false=>rw [hi] at q; exact subs_w ih C q
 | true=>
  rw [hi] at q
  have V:=slice_inv hi
  induction V using SliceV.casesOn
  rename_i lo hi st sp
  induction st using Option.casesOn with
  | some _=>exact q.elim
  | none=>exact slice_w ih C q
set_option tactic.hygienic true in
theorem unary_e {op:UnaryOp} {x:Expr} {p:Pos} (ih:EvIH n ec) (C:SC f n hd call A g σ m s) (q:vcStepE (f.cx hd call) ec (tc (f.cx hd call)) m (.UnaryOp op x p) σ Q E):WE f.w A g s (eval (.UnaryOp op x p) f.env) VRep Q E:=by
 induction op using UnaryOp.casesOn with
 | USub=>
  induction x using Expr.casesOn <;> try exact q.elim
  rename_i c kk p1
  induction c using Const.casesOn <;> try exact q.elim
  exact usub_w C q
 | Not=>
  rw [arm_eval_UnaryOp]
  exact WE.bind (ih C q) fun v cv g1 σ1 s1 go1 hv q=>WE.stand (WE.hold (PyProof.Rows.not_of ((truth_w (C.go go1).r hv q).then (fun b cb g2 σ2 s2 go2 hb q=>⟨_,g2,σ2,go2,hb▸.bool _,q⟩) fun U U q=>q)))
 | _=>exact q.elim
theorem compare_e {l:Expr} {ops:List CmpOp} {rs:List Expr} {p:Pos} (ih:EvIH n ec) (C:SC f n hd call A g σ m s) (q:vcStepE (f.cx hd call) ec (tc (f.cx hd call)) m (.Compare l ops rs p) σ Q E):WE f.w A g s (eval (.Compare l ops rs p) f.env) VRep Q E:=by
 replace q:=one_inv q
 obtain ⟨op,rfl,q⟩:=q
 replace q:=one_inv q
 obtain ⟨r,rfl,q⟩:=q
 obtain ⟨hs,q⟩:=ifF q
 rw [arm_eval_Compare]
 show WE f.w A g s (eval l f.env >>= fun a=>holding [a] (markedBehindIn op r (eval r f.env)) >>= fun b=>standAt p >>= fun U=>operate [a,b] (compareOp op a b)) _ _ _
 rw [markedBehindIn_of hs]
 exact two_w ih C q fun C ha hb q=>(cmp_v C ha hb q).conv fun v σ ⟨r,e,q⟩=>e▸q
theorem comp_e {elt:Expr} {gens:List Comprehension} {sc:Scope} {p:Pos} (ih:EvIH n ec) (C:SC f n hd call A g σ m s) (q:vcStepE (f.cx hd call) ec (tc (f.cx hd call)) m (.ListComp elt gens sc p) σ Q E):WE f.w A g s (eval (.ListComp elt gens sc p) f.env) VRep Q E:=by
 replace q:=one_inv q
 obtain ⟨⟨tgt,iter,ifs,asy⟩,rfl,q⟩:=q
 replace q:=ifT q
 obtain ⟨hq,q⟩:=q
 rw [Bool.and_eq_true,Bool.and_eq_true,Bool.and_eq_true,Bool.not_eq_true',List.isEmpty_iff,beq_iff_eq] at hq
 obtain ⟨⟨⟨h1,h2⟩,rfl⟩,rfl⟩:=hq
 exact comp_case ih C h1 h2 q
theorem evStep_w (ih:EvIH n ec) (iht:TsIH n tc):EvIH n (fun cx=>vcStepE cx ec (tc cx)):=fun {f hd call A g σ m s e Q E} C q=>by
 induction e using Expr.casesOn with
 | Constant c kk p=>exact const_w C.r q
 | Name x p=>exact name_w C q
 | BoolOp op vs p=>exact bool_w ih _ C q
 | BinOp l op r p=>rw [arm_eval_BinOp]; exact two_w ih C q fun C ha hb q=>WE.oper (bin_w C.r ha hb q)
 | UnaryOp op x p=>exact unary_e ih C q
 | IfExp t b o p=>
  rw [arm_eval_IfExp]
  exact ite_w iht C q ih ih
 | Compare l ops rs p=>exact compare_e ih C q
 | Attribute o x p=>
  obtain ⟨hq,q⟩:=ifF q
  rw [arm_eval_Attribute,attributeBase_of hq]
  exact WE.bind (ih C q) fun a ca g1 σ1 s1 go1 ha q=>WE.stand (WE.after (WE.hold (attr_w (C.go go1).r ha q)) fun r s' Q E h=>wpAny_letTemporaryGo h)
 | Subscript o i p=>exact subscr_e ih C q
 | Tuple es kk p=>obtain ⟨h,q⟩:=ifF q; exact tup_w ih C h q
 | List es p=>obtain ⟨hs,q⟩:=ifF q; exact list_w ih C hs q
 | Dict ks vs p=>
  obtain ⟨hq,q⟩:=ifT q
  rw [Bool.and_eq_true,Bool.and_eq_true,decide_eq_true_eq,beq_iff_eq] at hq
  exact dict_w ih hq.1.1 hq.1.2 hq.2 C q
 | Call fn args kws p=>exact call_e ih C q
 | ListComp elt gens sc p=>exact comp_e ih C q
 | _=>exact q.elim
theorem tests_w {op:BoolOp} {Q:Bool->AHeap->Prop} (ih:TsIH n tc):∀ (es:List Expr) {g:Gh} {σ:AHeap} {s:Shared},SC f n hd call A g σ m s->vcTest (tc (f.cx hd call) m) op es σ Q E->WE f.w A g s (allTrue op es f.env) BR Q E
 | [],g,σ,s,C,q=>.ret C.r rfl q
 | e::es,g,σ,s,C,q=>by
  rw [arm_allTrue_cons]
  refine WE.bind (ih C q) fun b cb g1 σ1 s1 go1 hb q=>?_
  subst hb
  have C1:=C.go go1
  induction op using BoolOp.casesOn <;> induction b using Bool.casesOn
  ·exact .ret C1.r rfl (q.1 rfl)
  ·exact tests_w ih es C1 (q.2 rfl)
  ·exact tests_w ih es C1 (q.2 rfl)
  ·exact .ret C1.r rfl (q.1 rfl)
theorem it0 (p:Pos):∀ (env:Env) (t:Sem Value),(t >>= fun v=>standAt p >>= fun U=>holding [v] (truthy v))=(t >>= fun v=>standAt p >>= fun U=>holding [v] (truthy v)):=fun U U=>rfl
theorem isTrue_rest {e:Expr} {t:Sem Value} (h:isTestE e=false):isTrue e env t=(t >>= fun v=>standAt e.pos >>= fun U=>holding [v] (truthy v)):=Gu.use (b:=!isTestE e) (C:=∀ env t,isTrue e env t=(t >>= fun v=>standAt e.pos >>= fun U=>holding [v] (truthy v))) (by induction e using Expr.casesOn <;> first | exact trivial | exact it0 _) (by rw [h]; rfl) env t
theorem test_cmp {l:Expr} {ops:List CmpOp} {rs:List Expr} {p:Pos} {Q:Bool->AHeap->Prop} (ih:EvIH n ec) (C:SC f n hd call A g σ m s) (q:vcStepT (ec (f.cx hd call)) (tc (f.cx hd call)) m (.Compare l ops rs p) σ Q E):WE f.w A g s (isTrue (.Compare l ops rs p) f.env (eval (.Compare l ops rs p) f.env)) BR Q E:=by
 replace q:=one_inv q
 obtain ⟨op,rfl,q⟩:=q
 replace q:=one_inv q
 obtain ⟨r,rfl,q⟩:=q
 obtain ⟨hs,q⟩:=ifF q
 rw [arm_isTrue_Compare]
 show WE f.w A g s (eval l f.env >>= fun a=>holding [a] (markedBehindIn op r (eval r f.env)) >>= fun b=>standAt p >>= fun U=>operate [a,b] (compareOp op a b) >>= fun c=>holding [c] (truthy c)) _ _ _
 rw [markedBehindIn_of hs]
 exact two_w ih C q fun C ha hb q=>WE.bind (cmp_v C ha hb q) fun v cv g' σ' s' go hv q=>WE.hold (truth_w go.rel hv (by obtain ⟨r,rfl,q⟩:=q; exact .b q))
theorem tsStep_w (ih:EvIH n ec) (iht:TsIH n tc):TsIH n (fun cx=>vcStepT (ec cx) (tc cx)):=fun {f hd call A g σ m s e Q E} C q=>by
 induction he:isTestE e using Bool.casesOn with
 | false=>
  change (if isTestE e then _ else _) at q
  rw [he] at q
  rw [isTrue_rest he]
  exact WE.bind (ih C q) fun v cv g1 σ1 s1 go1 hv q=>WE.stand (WE.hold (truth_w (C.go go1).r hv q))
 | true=>
  have V:=test_inv he
  induction V using TestV.casesOn with
  | @un op x p=>
   induction op using UnaryOp.casesOn with
   | Not=>
    rw [arm_isTrue_UnaryOp]
    refine WE.bind (iht C q) fun b cb g1 σ1 s1 go1 hb q=>?_
    subst hb
    exact .ret (C.go go1).r rfl q
   | _=>exact q.elim
  | @bo op vs p=>
   rw [arm_isTrue_BoolOp]
   exact tests_w iht vs C q
  | ie=>
   rw [arm_isTrue_IfExp]
   exact ite_w iht C q iht iht
  | cm=>exact test_cmp ih C q
theorem vcs_w:∀ j,EvIH n (vcs j).1∧TsIH n (vcs j).2
 | 0=>⟨fun U q=>q.elim,fun U q=>q.elim⟩
 | j+1=>⟨evStep_w (vcs_w j).1 (vcs_w j).2,tsStep_w (vcs_w j).1 (vcs_w j).2⟩
end
noncomputable def ExIH (n:Nat) (xc:Cx->Vs) (md:Stmt->List Str):Prop:=
 ∀ {f:Fm} {hd:Option Nat} {call:CallT} {A:Around} {g:Gh} {σ:AHeap} {m:Loc} {s:Shared} {st:Stmt} {Q:SQ} {E:SX},SC f n hd call A g σ m s->xc (f.cx hd call) st σ m Q E->WS f (md st) A m g s (exec st f.env) Q E
section
variable {f:Fm} {n:Nat} {hd:Option Nat} {call:CallT} {A:Around} {g0 g g':Gh} {σ σ':AHeap} {m0 m m':Loc} {s0 s s':Shared} {ec:Cx->Vc} {tc:Cx->Vt} {xc:Cx->Vs} {md:Stmt->List Str} {X:Addr->Prop} {V V':List Str} {Q:SQ} {E:SX} {env:Env}
theorem SC.st (c:SC f n hd call A g σ m s) (y:GoS f X V m g s g' σ' m' s'):SC f n hd call A g' σ' m' s':=⟨c.hc,y.go.rel,y.fs,c.am.stmt y.go.ext y.fs.fk,c.hfl⟩
theorem WS.pre {x:Sem Flow} (a:GoS f (ownX f.env) V m0 g0 s0 g σ m s) (h:WS f V A m g s x Q E):wpAny (model prg f.w) A x (OkS f (ownX f.env) V m0 g0 s0 Q) (ErS f (ownX f.env) V m0 g0 s0 E) s:=wpAny_mono h (fun U U q=>q.pre a) fun U U q=>q.pre a
theorem OkS.more {cf:Flow} (hV:∀ y,y∈V->y∈V'):OkS f X V m g s Q cf s'->OkS f X V' m g s Q cf s'
 | ⟨go,r,q⟩=>⟨go.more hV,r,q⟩
theorem ErS.more {e:Value} (hV:∀ y,y∈V->y∈V') (h:ErS f X V m g s E e s'):ErS f X V' m g s E e s':=by
 obtain ⟨go,hi,q⟩:=h
 exact ⟨go.more hV,hi,q⟩
theorem WS.more {x:Sem Flow} (h:WS f V A m g s x Q E) (hV:∀ y,y∈V->y∈V'):WS f V' A m g s x Q E:=wpAny_mono h (fun U U q=>q.more hV) fun U U q=>q.more hV
theorem ErE.up {e:Value} (a:GoS f X V m0 g0 s0 g σ m s) (h:ErE f.w g s (fun i σ=>E i σ m) e s'):ErS f X V m0 g0 s0 E e s':=by
 obtain ⟨j,g',σ',c,fs,go,hi,q⟩:=h
 exact ⟨a.ex go,hi,q⟩
theorem WE.up {α β:Type} {x:Sem α} {R:Gh->Heap->β->α->Prop} {P:β->AHeap->Prop} {Q':α->Shared->Prop} (a:GoS f X V m0 g0 s0 g σ m s) (h:WE f.w A g s x R P fun i σ=>E i σ m) (h2:∀ v cv g' σ' s',Go f.w noX g s g' σ' s'->GoS f X V m0 g0 s0 g' σ' m s'->R g' s'.heap v cv->P v σ'->Q' cv s'):wpAny (model prg f.w) A x Q' (ErS f X V m0 g0 s0 E) s:=
 h.then (fun v cv g' σ' s' go r q=>h2 v cv g' σ' s' go (a.ex go) r q) fun U U z=>z.up a
theorem SC.base (C:SC f n hd call A g σ m s):GoS f X V m g s g σ m s:=.refl C.r C.F
set_option backward.match.sparseCases true in
theorem block_w (ih:ExIH n xc md):∀ (sts:List Stmt) {g:Gh} {σ:AHeap} {m:Loc} {s:Shared} {Q:SQ},SC f n hd call A g σ m s->vcBlk (xc (f.cx hd call)) sts σ m Q E->WS f (sts.flatMap md) A m g s (execs sts f.env) Q E
 | [],g,σ,m,s,Q,C,q=>execs_nil ⟨C.base,.next,q⟩
 | st::sts,g,σ,m,s,Q,C,q=>by
  show WS f _ A m g s (exec st f.env >>= fun fl=>match fl with | .next=>execs sts f.env | fl=>pure fl) Q E
  refine wpAny_bind (wpAny_mono ((ih C q).more (V':=(st::sts).flatMap md) fun y hy=>List.mem_flatMap.mpr ⟨st,.head _,hy⟩) (fun cf s1 z=>?_) fun U U q=>q)
  obtain ⟨go,hf,q⟩:=z
  induction hf using FlR.casesOn with
  | next=>exact WS.pre go ((block_w ih sts (C.st go) q).more fun y hy=>by rw [List.flatMap_cons]; exact List.mem_append_right _ hy)
  | brk=>exact wpAny_pure ⟨go,.brk,q⟩
  | cont=>exact wpAny_pure ⟨go,.cont,q⟩
  | ret hv=>exact wpAny_pure ⟨go,.ret hv,q⟩
theorem mem_dd {y:Str}:∀ {l:List Str},y∈l->y∈dd l
 | x::r,h=>by
  unfold dd
  induction hx:r.contains x using Bool.casesOn
  ·rw [if_neg (by decide)]
   exact (List.mem_cons.mp h).elim (fun e=>e▸.head _) fun h=>.tail _ (mem_dd h)
  ·rw [if_pos rfl]
   exact (List.mem_cons.mp h).elim (fun e=>e▸mem_dd (List.contains_iff_mem.mp hx)) mem_dd
theorem dd_mem {y:Str}:∀ {l:List Str},y∈dd l->y∈l
 | x::r,h=>by
  unfold dd at h
  induction hx:r.contains x using Bool.casesOn <;> rw [hx] at h
  ·exact (List.mem_cons.mp h).elim (fun e=>e▸.head _) fun h=>.tail _ (dd_mem h)
  ·exact .tail _ (dd_mem h)
theorem suite_w (ih:ExIH n xc md) (C:SC f n hd call A g σ m s) (sts:List Stmt) (hV:∀ y,y∈sts.flatMap md->y∈V):SuiteP f V A n 2 hd sts (vcBlk (xc (f.cx hd call)) sts):=
 fun r F am q=>(block_w ih sts ⟨C.hc,r,F,am,C.hfl⟩ q).more hV
inductive AsgV (f:Fm) (hd:Option Nat) (call:CallT) (ev:Vc) (v:AV) (σ:AHeap) (m:Loc) (k:AHeap->Loc->Prop) (E:SX):Expr->Prop
 | attr {o:Expr} {x:Str} {p:Pos} (q:ev m o σ (fun ov σ=>SetP (KF f.w.params) x v σ (fun σ=>k σ m) ov) fun i σ=>E i σ m):AsgV f hd call ev v σ m k E (.Attribute o x p)
 | sub {o i:Expr} {p:Pos} (q:ev m o σ (fun ov σ=>ev m i σ (fun iv σ=>SetItP v σ (fun σ=>k σ m) ov iv) fun i σ=>E i σ m) fun i σ=>E i σ m):AsgV f hd call ev v σ m k E (.Subscript o i p)
 | tgt {t:Expr} (q:TgtI f f.sc m (k σ) t v):AsgV f hd call ev v σ m k E t
theorem vcA_inv {ev:Vc} {t:Expr} {v:AV} {k:AHeap->Loc->Prop} (q:vcA (f.cx hd call) ev t v σ m k E):AsgV f hd call ev v σ m k E t:=by
 induction t using Expr.casesOn with
 | Attribute o x p=>exact .attr q
 | Subscript o i p=>exact .sub (ifF q).2
 | _=>exact .tgt (vcBind_inv q)
theorem AsgV.star {ev:Vc} {t:Expr} {v:AV} {k:AHeap->Loc->Prop} (q:AsgV f hd call ev v σ m k E t):isStar t=false:=by
 induction q using AsgV.casesOn with
 | attr _=>rfl
 | sub _=>rfl
 | tgt q=>induction q using TgtI.casesOn <;> rfl
theorem asg_w {ec:Cx->Vc} {t:Expr} {v:AV} {cv:Value} {k:AHeap->Loc->Prop} {Q':Unit->Shared->Prop} (ih:EvIH n ec) (C:SC f n hd call A g σ m s) (a:GoS f (ownX f.env) V m0 g0 s0 g σ m s) (hV:∀ y,y∈modT t->y∈V) (hv:VRep g s.heap v cv) (q:AsgV f hd call (ec (f.cx hd call)) v σ m k E t)
  (hQ:∀ {g':Gh} {σ':AHeap} {m':Loc} {s':Shared},GoS f (ownX f.env) V m0 g0 s0 g' σ' m' s'->k σ' m'->Q' () s'):wpAny (model prg f.w) A (assign t f.env cv) Q' (ErS f (ownX f.env) V m0 g0 s0 E) s:=by
 induction q using AsgV.casesOn with
 | attr q=>
  rw [arm_assign_Attribute]
  refine wpAny_bind (WE.up a (WE.hold (ih C q)) fun ov cov g1 σ1 s1 go1 a1 ho q=>?_)
  exact wpAny_bind (wpAny_standAt (wpAny_bind (WE.up a1 (WE.hold (setAttr_w a1.go.rel ho (hv.go go1) q)) fun U U g2 σ2 s2 U a2 U q=>wpAny_release' (hQ a2 q))))
 | sub q=>
  rw [arm_assign_Subscript]
  refine wpAny_bind (WE.up a (WE.hold (ih C q)) fun ov cov g1 σ1 s1 go1 a1 ho q=>?_)
  refine wpAny_bind (WE.up a1 (WE.hold (ih (C.go go1) q)) fun iv civ g2 σ2 s2 go2 a2 hi q=>?_)
  exact wpAny_bind (wpAny_standAt (wpAny_bind (WE.up a2 (WE.hold (setItem_w a2.go.rel (ho.go go2) hi ((hv.go go1).go go2) q)) fun U U g3 σ3 s3 U a3 U q=>wpAny_release' (hQ a3 q))))
 | tgt q=>exact assign_any (OwnS.self C.F.fr) C.r C.F hv (hok_of C.r C.am) q fun s' m' go F so U q=>hQ (g':=g) (σ':=σ) ⟨a.go.trans go,F,a.so.trans (so.more hV)⟩ q
structure ExcT (w:World) (g:Gh) (s:Shared) (i:Nat) (c:Addr):Prop where
 ty:Looks (model prg w) s.heap (typeOf (.ref (g.ρ i))) (.ref c)
 nt:Looks (model prg w) s.heap (isType (.ref (g.ρ i))) false
 ba:Looks (model prg w) s.heap (isInstance (.ref (g.ρ i)) (.type "BaseException")) true
theorem exc_type {w:World} {i:Nat} {c:Addr} {fs:List (Str×AV)} (r:Rel w g σ s) (hi:σ.get i=some (.exc c fs)):ExcT w g s i c:=by
 obtain ⟨e,_,_,_,_,c1,_⟩:=r.rep hi
 have I:=clsExc_of c1
 have L:Looks (model prg w) s.heap (typeOf (.ref (g.ρ i))) (.ref c):=(Looks.ld e).andThen .now
 exact ⟨L,(Looks.ld e).andThen .now,L.andThen (exc_mro I.e (fun cd h1=>by have:=I.e; rw [h1] at this; exact this) r.sta.inK)⟩
set_option tactic.hygienic true in
theorem raise_w {x:Sem Value} (C:SC f n hd call A g σ m s) (h:WE f.w A g s x VRep (fun v σ=>RaiseP f.w.params hd (fun i σ=>E i σ m) σ v) fun i σ=>E i σ m):WS f V A m g s (raiseStmt f.env (some x) none) Q E:=by
 unfold raiseStmt
 refine wpAny_bind (WE.up C.base h fun v cv g1 σ1 s1 go1 a1 hv q=>?_)
 obtain ⟨hg,hq,hh,q⟩:=q
 rename_i i c fs
 obtain ⟨_,rfl⟩:=hv.inv
 have T:=exc_type a1.go.rel hg
 have L4:=looks_typeIn (M:=model prg f.w) a1.go.rel.sta.inK hq
 refine wpAny_bind (wpAny_pure (wpAny_bind (wpAny_holding ?_)))
 unfold excFromValue isExcClass
 refine wpAny_bind (wpAny_bind (T.nt.here (wpAny_pure ?_)))
 rw [if_neg (by decide)]
 refine wpAny_bind (T.ba.here ?_)
 rw [if_pos rfl]
 refine wpAny_pure (wpAny_bind (T.nt.here ?_))
 rw [if_neg (by decide)]
 unfold raisedInstance
 refine wpAny_bind (wpAny_bind (T.ty.here (wpAny_bind (L4.here ?_))))
 rw [if_pos (by decide)]
 refine wpAny_pure (wpAny_bind (setFlight_any a1.go.rel hg fun s2 go2=>?_))
 unfold raiseNew
 refine wpAny_bind (wpAny_handled ?_)
 have hE:ErS f (ownX f.env) V m g s E (.ref (g1.ρ i)) s2:=⟨a1.ex go2,hg,q⟩
 have e1:=(C.go go1).am.hd
 rw [e1]
 induction hd using Option.casesOn with
 | none=>exact wpAny_bind (wpAny_pure (wpAny_throw hE))
 | some j=>
  cases (beq_iff_eq.mp hh:some j=some i)
  rw [Option.map_some]
  dsimp only
  rw [if_neg (by simp)]
  exact wpAny_bind (wpAny_pure (wpAny_throw hE))
theorem type_not_tuple:isSubtype (.type "type") (.type "tuple")=pure false:=by rw [isSubtype_type]; kernel_rfl
set_option tactic.hygienic true in
theorem matches_any {w:World} {E:Value->Shared->Prop} {i:Nat} {c p:Addr} {fs:List (Str×AV)} {Q:Bool->Shared->Prop} (r:Rel w g σ s) (hi:σ.get i=some (.exc c fs)) (h1:isExcIn (KF w.params) p=true) (h2:typeIn (KF w.params) (.ref p)=some (.type "type")) (h3:subIn (KF w.params) (.ref c) (.ref p)=some true) (h:Q true s) :
  wpAny (model prg w) A (excMatches (.ref (g.ρ i)) (.ref p)) Q E s:=by
 have L3:=(exc_type r hi).ty
 have L4:=looks_typeIn (M:=model prg w) r.sta.inK h2
 obtain ⟨cd,k1,k2⟩:=any_some h1
 have hcls:Looks (model prg w) s.heap (isType (.ref p)) true:=by
  unfold clsIn at k1
  split at k1
  ·rename_i e; exact (Looks.ld (r.sta.inK _ _ e)).andThen .now
  ·injection k1
 have L6:=exc_mro (w:=w) (s:=s) h1 (x:=.type "BaseException") (fun cd' h'=>by rw [k1] at h'; (injection h' with e1; subst e1); exact k2) r.sta.inK
 unfold excMatches
 refine wpAny_bind ((L4.andThen (Looks.of_pure type_not_tuple)).here ?_)
 rw [if_neg (by decide)]
 refine wpAny_bind (wpAny_pure ?_)
 dsimp only
 rw [List.forIn_cons]
 refine wpAny_bind (wpAny_bind ?_)
 unfold isExcClass
 refine wpAny_bind (wpAny_bind (hcls.here ?_))
 rw [if_pos rfl]
 refine L6.here ?_
 rw [if_neg (by decide)]
 refine wpAny_pure ?_
 dsimp only
 rw [List.forIn_nil]
 refine wpAny_pure (wpAny_bind (L3.here ?_))
 rw [List.forIn_cons]
 refine wpAny_bind (wpAny_bind (wpAny_bind ((looks_subIn (M:=model prg w) r.sta.inK h3).here ?_)))
 rw [if_pos rfl]
 exact wpAny_pure (wpAny_pure (wpAny_pure h))
end
section
variable {f:Fm} {n:Nat} {hd:Option Nat} {call:CallT} {A:Around} {g0 g g':Gh} {σ σ':AHeap} {m0 m m':Loc} {s0 s s':Shared} {ec:Cx->Vc} {tc:Cx->Vt} {xc:Cx->Vs} {md:Stmt->List Str} {X:Addr->Prop} {V V':List Str} {Q:SQ} {E:SX} {env:Env}
theorem Loc.puts_at:∀ {ns:List Str} {xs:List AV} {m:Loc} {y:Str},ns.Nodup->(m.puts ns xs) y=if y∈ns.take xs.length then (ns.zip xs).lookup y else m y
 | [],xs,m,y,_=>by rw [List.take_nil,if_neg List.not_mem_nil]; rfl
 | x::ns,[],m,y,_=>rfl
 | x::ns,v::xs,m,y,h=>by
  rw [List.nodup_cons] at h
  show ((m.put x (some v)).puts ns xs) y=_
  rw [Loc.puts_at h.2,List.length_cons,List.take_succ_cons,List.zip_cons_cons,List.lookup_cons]
  by_cases q:y=x
  ·subst q
   rw [beq_self_eq_true,if_neg (fun z=>h.1 (List.mem_of_mem_take z)),if_pos List.mem_cons_self]
   exact if_pos rfl
  ·rw [beq_eq_false_iff_ne.mpr q]
   by_cases z:y∈ns.take xs.length
   ·rw [if_pos z,if_pos (.tail _ z)]
   ·rw [if_neg z,if_neg fun u=>(List.mem_cons.mp u).elim q z]
    exact if_neg q
theorem zip_rev {α β:Type} {l:List α} {l':List β} (h:l.length=l'.length):l.reverse.zip l'.reverse=(l.zip l').reverse:=by
 simp only [List.zip_eq_zipWith]
 exact (List.reverse_zipWith h).symm
theorem Loc.puts_rev {ns:List Str} {xs:List AV} (h:ns.Nodup) (hl:ns.length=xs.length):m.puts ns.reverse xs.reverse=m.puts ns xs:=by
 funext y
 have hr:ns.reverse.Nodup:=by unfold List.Nodup at h ⊢; rw [List.pairwise_reverse]; exact h.imp Ne.symm
 rw [Loc.puts_at h,Loc.puts_at hr,List.length_reverse,← hl,List.take_length,← List.length_reverse (as:=ns),List.take_length]
 by_cases q:y∈ns
 ·rw [if_pos q,if_pos (List.mem_reverse.mpr q),zip_rev hl]
  have u:∀ {L:List (Str×AV)},(L.map (·.1)).Nodup->L.reverse.lookup y=L.lookup y:=fun {L} hn=>by
   induction e:L.lookup y using Option.casesOn with
   | none=>
    rw [List.lookup_eq_none_iff] at e ⊢
    exact fun p hp=>e p (List.mem_reverse.mp hp)
   | some v=>
    rw [List.lookup_eq_some_iff] at e ⊢
    obtain ⟨l1,l2,rfl,h1⟩:=e
    rw [List.map_append,List.map_cons,List.nodup_append,List.nodup_cons] at hn
    refine ⟨l2.reverse,l1.reverse,by simp,fun p hp=>?_⟩
    exact bne_iff_ne.mpr fun e=>hn.2.1.1 (List.mem_map.mpr ⟨p,List.mem_reverse.mp hp,e.symm⟩)
  exact u (by rw [List.map_fst_zip (Nat.le_of_eq hl)]; exact h)
 ·rw [if_neg q,if_neg fun z=>q (List.mem_reverse.mp z)]
theorem VReps.rev {h:Heap}:∀ {xs:List AV} {vs:List Value},VReps g h xs vs->VReps g h xs.reverse vs.reverse
 | [],vs,r=>by rw [show vs=[] from r.inv]; exact .nil
 | x::xs,vs,r=>by
  obtain ⟨a,b⟩:=r.inv
  rw [List.reverse_cons,List.reverse_cons]
  exact b.rev.append (.cons a .nil)
theorem acts_names:∀ {ns:List Str},Acts f (ns.map fun x=>bindName f.env x) ns
 | []=>.nil
 | x::ns=>.cons (fun h=>PyProof.Rows.bindName_ h) acts_names
theorem fm_sub {F G:Expr->Option Str} (h:∀ e x,F e=some x->G e=some x):∀ {ts:List Expr},(ts.filterMap F).length=ts.length->ts.filterMap F=ts.filterMap G
 | [],_=>rfl
 | e::ts,hl=>by
  induction q:F e using Option.casesOn with
  | none=>
   rw [List.filterMap_cons_none q] at hl
   exact absurd (List.length_filterMap_le F ts) (by rw [hl,List.length_cons]; exact Nat.not_succ_le_self _)
  | some x=>
   rw [List.filterMap_cons_some q] at hl ⊢
   rw [List.filterMap_cons_some (h e x q),fm_sub h (Nat.succ.inj hl)]
theorem swapped_eq {ts vs:List Expr} {cc dd:Nat} {p q:Pos}:∃ (c1 c2:Bool) (F:Expr->Option Str) (u:Sem (Option (List Str))),(∀ e x,F e=some x->nameOf? e=some x)∧swappedStores [.Tuple ts cc p] (.Tuple vs dd q) env=if c1=true then pure none else if c2=true then pure none else
   if ((ts.filterMap F).length != ts.length||(ts.filterMap F).eraseDups.length != (ts.filterMap F).length)=true then pure none else if vs.all (foldedForSure 8)=true then pure none else if vs.all (constantsAlone 8)=true then u else pure (some (ts.filterMap F)):=by
 refine ⟨_,_,_,_,fun e x=>?_,rfl⟩
 refine GuO.use (C:=fun x=>nameOf? e=some x) ?_
 induction e using Expr.casesOn with
 | Name id p=>exact GuO.ite fun U=>rfl
 | _=>exact trivial
inductive SwV (env:Env) (t e:Expr):Prop
 | no (h:swappedStores [t] e env=pure none)
 | sw {ts:List Expr} {cc:Nat} {p:Pos} (ht:t=.Tuple ts cc p) (nd:(namesOf ts).Nodup) (h:swappedStores [t] e env=pure (some (namesOf ts)))
theorem asgOk_tags {t e:Expr} (h:asgOk t e=true):tagE t≠14∧tagE e≠5∧tagE e≠6:=by
 unfold asgOk at h
 rw [Bool.and_eq_true,Bool.not_eq_true',Bool.or_eq_false_iff,Bool.or_eq_false_iff,beq_eq_false_iff_ne,beq_eq_false_iff_ne,beq_eq_false_iff_ne] at h
 exact ⟨h.1.1.1,h.1.1.2,h.1.2⟩
theorem swapped_tt {ts vs:List Expr} {cc dd:Nat} {p q:Pos} (h:asgOk (.Tuple ts cc p) (.Tuple vs dd q)=true):SwV env (.Tuple ts cc p) (.Tuple vs dd q):=by
 have h:((!vs.all (constantsAlone 8)||vs.all (foldedForSure 8))&&decide (namesOf ts).Nodup)=true:=h
 rw [Bool.and_eq_true,decide_eq_true_eq] at h
 obtain ⟨c1,c2,F,u,hF,e⟩:=swapped_eq (env:=env) (ts:=ts) (vs:=vs) (cc:=cc) (dd:=dd) (p:=p) (q:=q)
 induction c1 using Bool.casesOn with
 | true=>exact .no (e.trans (if_pos rfl))
 | false=>
 induction c2 using Bool.casesOn with
 | true=>exact .no (e.trans ((if_neg (by decide)).trans (if_pos rfl)))
 | false=>
 rw [if_neg (by decide),if_neg (by decide)] at e
 induction q3:((ts.filterMap F).length != ts.length||(ts.filterMap F).eraseDups.length != (ts.filterMap F).length) using Bool.casesOn with
 | true=>exact .no (e.trans (if_pos q3))
 | false=>
 induction q4:vs.all (foldedForSure 8) using Bool.casesOn with
 | true=>exact .no (e.trans ((if_neg (by rw [q3]; decide)).trans (if_pos q4)))
 | false=>
 rw [q4,Bool.or_false,Bool.not_eq_true'] at h
 rw [q3,q4,h.1,if_neg (by decide),if_neg (by decide),if_neg (by decide)] at e
 rw [Bool.or_eq_false_iff,bne_eq_false_iff_eq] at q3
 exact .sw rfl h.2 (by rw [e,fm_sub (G:=nameOf?) hF q3.1]; rfl)
theorem sd0:∀ (e:Expr) (env:Env),(pure none:Sem (Option (List Str)))=pure none:=fun U U=>rfl
theorem sd1:∀ (ts:List Expr) (c:Nat) (p:Pos) (env:Env),(pure none:Sem (Option (List Str)))=pure none:=fun U U U U=>rfl
theorem swapped_cases {t e:Expr} (h:asgOk t e=true):SwV env t e:=by
 induction ht:tagE t==15 using Bool.casesOn with
 | false=>exact .no (Gu.use (b:=!(tagE t==15)) (C:=tagE t≠14->∀ e env,swappedStores [t] e env=pure none) (by induction t using Expr.casesOn <;> first | exact trivial | exact fun U=>sd0 | exact fun h=>(h rfl).elim) (by rw [ht]; rfl) (asgOk_tags h).1 e env)
 | true=>
  obtain ⟨ts,c,p,rfl⟩:=tupE_inv ht
  induction he:tagE e==15 using Bool.casesOn with
  | false=>exact .no (Gu.use (b:=!(tagE e==15)) (C:=∀ ts c p env,swappedStores [.Tuple ts c p] e env=pure none) (by induction e using Expr.casesOn <;> first | exact trivial | exact sd1) (by rw [he]; rfl) ts c p env)
  | true=>
   obtain ⟨vs,d,q,rfl⟩:=tupE_inv he
   exact swapped_tt h
theorem aa0 (t:Expr):∀ (cv:Value) (env:Env),assign t env cv=assign t env cv:=fun U U=>rfl
theorem assignAll_one {t:Expr} {cv:Value} (h:isStar t=false):assignAll cv ((assignEach [t] env).map (·.2))=assign t env cv:=Gu.use (b:=!isStar t) (C:=∀ cv env,assignAll cv ((assignEach [t] env).map (·.2))=assign t env cv) (by induction t using Expr.casesOn <;> first | exact trivial | exact aa0 _) (by rw [h]; rfl) cv env
set_option tactic.hygienic true in
theorem stores_w {t e:Expr} {v:AV} {cv:Value} (ih:EvIH n ec) (C:SC f n hd call A g σ m s) (hok:asgOk t e=true) (a:GoS f (ownX f.env) (modT t) m0 g0 s0 g σ m s) (hv:VRep g s.heap v cv) (q:AsgV f hd call (ec (f.cx hd call)) v σ m (fun σ m=>Q .next σ m) E t) :
  wpAny (model prg f.w) A (swappedStores [t] e f.env >>= fun sw=>assignStores f.env cv sw ((assignEach [t] f.env).map (·.2))) (OkS f (ownX f.env) (modT t) m0 g0 s0 Q) (ErS f (ownX f.env) (modT t) m0 g0 s0 E) s:=by
 have z:=swapped_cases (env:=f.env) hok
 induction z using SwV.casesOn with
 | no hs=>
  rw [hs]
  refine wpAny_bind (wpAny_pure ?_)
  show wpAny _ _ (assignAll cv ((assignEach [t] f.env).map (·.2)) >>= fun U=>pure Flow.next) _ _ _
  rw [assignAll_one q.star]
  exact wpAny_bind (asg_w ih C a (fun U h=>h) hv q fun a' q=>wpAny_pure ⟨a',.next,q⟩)
 | sw ht nd hs=>
  subst ht
  rw [hs]
  cases q with
  | tgt q=>
  cases q with
  | tup h hl l q=>
  rename_i ts cc p ns xs
  obtain ⟨_,e1,hx⟩:=hv.inv
  obtain ⟨_,_,hn,_⟩:=h
  subst hn
  refine wpAny_bind (wpAny_pure (wpAny_bind (wpAny_rule ?_)))
  rw [l,← hx.size]
  refine wpAny_bind (unpack_any C.r (hok_of C.r C.am) ⟨_,e1,rfl,_,rfl⟩ fun s2 go2=>?_)
  have a2:=a.ex go2
  have C2:=C.go go2
  refine wpAny_bind (acts_names.run (X:=ownX f.env) (fun x hx=>OwnS.self C2.F.fr x (hl x (List.mem_reverse.mp hx))) (by rw [List.length_reverse,List.length_reverse]; exact l) C2.r C2.F (hx.go go2).rev fun s3 go3 F3=>?_)
  rw [Loc.puts_rev nd l] at F3
  exact wpAny_pure ⟨⟨a2.go.trans go3,F3,a2.so.trans Loc.puts_off⟩,.next,q⟩
inductive SwpV (l:Nat) (env:Env) (t e:Expr):Prop
 | no (h:swapsWith e (some t) l env=pure false)
 | yes {x:Str} {p:Pos} {elt:Expr} {gens:List Comprehension} {sc:Scope} {q:Pos} (h:swapsWith e (some t) l env=pure true) (ht:t=.Name x p) (he:e=.ListComp elt gens sc q)
theorem lc_inv {e:Expr} (h:isCompE e=true):tagE e≠5->tagE e≠6->∃ elt gens sc q,e=.ListComp elt gens sc q:=Gu.use (by induction e using Expr.casesOn <;> first | exact trivial | exact fun U U=>⟨_,_,_,_,rfl⟩ | exact fun h U=>(h rfl).elim | exact fun U h=>(h rfl).elim) h
theorem sw1:∀ (tg:Option Expr) (l:Nat) (env:Env),(pure false:Sem Bool)=pure false:=fun U U U=>rfl
theorem sw2:∀ (elt:Expr) (gens:List Comprehension) (sc:Scope) (q:Pos) (l:Nat) (env:Env),(pure false:Sem Bool)=pure false:=fun U U U U U U=>rfl
theorem swaps_cases {t e:Expr} (l:Nat) (h:asgOk t e=true):SwpV l env t e:=by
 obtain ⟨_,h5,h6⟩:=asgOk_tags h
 induction hc:isCompE e using Bool.casesOn with
 | false=>exact .no (Gu.use (b:=!isCompE e) (C:=∀ tg l env,swapsWith e tg l env=pure false) (by induction e using Expr.casesOn <;> first | exact trivial | exact sw1) (by rw [hc]; rfl) _ l env)
 | true=>
  obtain ⟨elt,gens,sc,q,rfl⟩:=lc_inv hc h5 h6
  induction ht:tagE t==13 using Bool.casesOn with
  | false=>exact .no (Gu.use (b:=!(tagE t==13)) (C:=∀ elt gens sc q l env,swapsWith (.ListComp elt gens sc q) (some t) l env=pure false) (by induction t using Expr.casesOn <;> first | exact trivial | exact sw2) (by rw [ht]; rfl) elt gens sc q l env)
  | true=>
   obtain ⟨x,p,rfl⟩:=nameE_inv ht
   obtain ⟨b,e1⟩:∃ b,swapsWith (.ListComp elt gens sc q) (some (.Name x p)) l env=pure b:=⟨_,rfl⟩
   induction b using Bool.casesOn with
   | false=>exact .no e1
   | true=>exact .yes e1 rfl rfl
theorem assign_plain {t e:Expr} {pos:Pos} (ih:EvIH n ec) (C:SC f n hd call A g σ m s) (hok:asgOk t e=true) (hsw:swapsWith e (some t) pos.line f.env=pure false)
  (q:ec (f.cx hd call) m e σ (fun v σ=>vcA (f.cx hd call) (ec (f.cx hd call)) t v σ m (fun σ m=>Q .next σ m) E) fun i σ=>E i σ m):WS f (modT t) A m g s (exec (.Assign [t] e pos) f.env) Q E:=by
 rw [PyProof.Rows.exec_Assign]
 refine wpAny_bind (wpAny_standAt ?_)
 rw [show swapsWithSole [t] e pos.line f.env=pure false from hsw]
 refine wpAny_bind (wpAny_pure ?_)
 rw [if_neg (by decide)]
 exact wpAny_bind (WE.up C.base (ih C q) fun v cv g1 σ1 s1 go1 a1 hv q=>stores_w ih (C.go go1) hok a1 hv (vcA_inv q))
set_option tactic.hygienic true in
theorem FSR.afterC {C:Addr} {h h':Heap} (F:FSR f g m h) (hC:g.κ C=.priv) (hX:¬ ownX f.env C) (hs:Heap.SameBut C h h'):FSR f (g.mark C .free) m h':=by
 obtain ⟨F,FO⟩:=F
 have hL:f.env.locals≠C:=fun q=>hX (.inl q.symm)
 refine ⟨⟨F.names,F.kind,F.skind,F.glob,F.blt,by rw [Gh.mark_ne g _ hL]; exact F.priv,?_,F.nodebug,fun y hy=>?_,F.apart⟩,fun e he=>?_⟩
 ·obtain ⟨mc,hn,hm⟩:=F.loc
  exact ⟨mc,hn.sameBut hs hL,fun y v hl hv=>(hm y v hl hv).imp fun cv z=>⟨z.1,z.2.afterC hC hs⟩⟩
 ·obtain ⟨c,ov,h1,h2,h3,h4⟩:=F.cell y hy
  have hc:c≠C:=by rintro rfl; exact hX (.inr ⟨y,(kindOf_eq F y).trans hy,h1⟩)
  exact ⟨c,ov,h1,by rw [Gh.mark_ne g _ hc]; exact h2,h3.sameBut hs hc,fun v hv=>(h4 v hv).imp fun cv z=>⟨z.1,z.2.afterC hC hs⟩⟩
 ·obtain ⟨hk,h1,h2,h3,h4⟩:=FO e he
  rename_i L o es ep
  have hL:L≠C:=by rintro rfl; rw [hC] at h2; injection h2
  exact .mk hk h1 (by rw [Gh.mark_ne g _ hL]; exact h2) ((hs.2 L hL).trans h3) h4
theorem FSR.notOwn {C:Addr} {h:Heap} (F:FSR f g m h) (hC:¬ (g.κ C).firm):¬ ownX f.env C:=fun z=>hC (by
 rcases z with rfl | ⟨y,hk,hy⟩
 ·exact F.fr.priv.firm
 ·obtain ⟨c,ov,k1,k2,_⟩:=F.fr.cell y ((kindOf_eq F.fr y).symm.trans hk)
  cases hy.symm.trans k1
  rw [k2]; trivial)
theorem assign_comp {x:Str} {p q' pos:Pos} {elt tgt iter:Expr} {sc:Scope} (ih:EvIH n ec) (C:SC f n hd call A g σ m s) (h1:okComp sc f.sc=true) (h2:isSetE iter=false) (hsw:swapsWith (.ListComp elt [⟨tgt,iter,[],0⟩] sc q') (some (.Name x p)) pos.line f.env=pure true)
  (q:ec (f.cx hd call) m iter σ (compQ f hd call ec sc q' elt tgt m (fun v σ=>if locNm f.sc x then Q .next σ (m.put x (some v)) else False) fun i σ=>E i σ m) fun i σ=>E i σ m) :
  WS f [x] A m g s (exec (.Assign [.Name x p] (.ListComp elt [⟨tgt,iter,[],0⟩] sc q') pos) f.env) Q E:=by
 rw [PyProof.Rows.exec_Assign]
 refine wpAny_bind (wpAny_standAt ?_)
 rw [show swapsWithSole [.Name x p] (.ListComp elt [⟨tgt,iter,[],0⟩] sc q') pos.line f.env=pure true from hsw]
 refine wpAny_bind (wpAny_pure ?_)
 rw [if_pos rfl]
 unfold evalThenUse
 refine wpAny_bind (wpAny_bind (comp_any ih C h1 h2 q (fun cv s' D z=>?_) fun e s' z=>z.up C.base))
 obtain ⟨go,hv,hC,hC0,hN,q⟩:=z
 obtain ⟨hx,q⟩:=ifT q
 have F1:=C.F.go go
 have hown:=C.F.notOwn hC0
 show wpAny (model prg f.w) A (assign (.Name x p) f.env cv) _ _ _
 refine PyProof.Rows.assign_Name (store_any (OwnS.self F1.fr x hx) go.rel F1 hv fun s2 go2 F2=>?_)
 obtain ⟨o,es,ep,k1,k2⟩:=hN
 refine ⟨_,⟨_,es,ep,keep_priv go2.tr hC hown k1,k2⟩,fun h' hs=>wpAny_pure (wpAny_pure ⟨⟨Go.afterC ((go.moreX fun U z=>z.elim).trans go2) hC hC0 hs,F2.afterC hC hown hs,.put (.head _)⟩,.next,q⟩)⟩
theorem assign_w (j:Nat) {t e:Expr} {pos:Pos} (C:SC f n hd call A g σ m s) (hok:asgOk t e=true)
  (q:(vcs (j+1)).1 (f.cx hd call) m e σ (fun v σ=>vcA (f.cx hd call) ((vcs (j+1)).1 (f.cx hd call)) t v σ m (fun σ m=>Q .next σ m) E) fun i σ=>E i σ m):WS f (modT t) A m g s (exec (.Assign [t] e pos) f.env) Q E:=by
 have z:=swaps_cases (env:=f.env) pos.line hok
 induction z using SwpV.casesOn with
 | no h=>exact assign_plain (vcs_w (j+1)).1 C hok h q
 | yes h ht he=>
  subst ht he
  replace q:=one_inv q
  obtain ⟨⟨tgt,iter,ifs,asy⟩,rfl,q⟩:=q
  replace q:=ifT q
  obtain ⟨hq,q⟩:=q
  rw [Bool.and_eq_true,Bool.and_eq_true,Bool.and_eq_true,Bool.not_eq_true',List.isEmpty_iff,beq_iff_eq] at hq
  obtain ⟨⟨⟨h1,h2⟩,rfl⟩,rfl⟩:=hq
  exact assign_comp (vcs_w j).1 C h1 h2 h q
theorem allV_at:∀ {V:List Str} {m m':Loc} {k:List (Option AV)->Loc->Prop},SameOff V m m'->allV V m k->k (V.map m') m'
 | [],m,m',k,h,q=>by
  rw [show m'=m from funext fun y=>h y (List.not_mem_nil)]
  exact q
 | x::xs,m,m',k,h,q=>by
  refine allV_at (V:=xs) (m':=m') (fun y hy=>?_) (q (m' x))
  by_cases e:y=x
  ·rw [e]; exact (if_pos rfl).symm
  ·exact (h y fun z=>(List.mem_cons.mp z).elim e hy).trans (if_neg e).symm
inductive WhI (f:Fm) (V:List Str) (m0:Loc) (J:Nat->AHeap->List (Option AV)->Prop) (g0:Gh) (s0:Shared) (k:Nat) (s':Shared):Prop
 | mk {g':Gh} {σ':AHeap} {m':Loc} (go:GoS f (ownX f.env) V m0 g0 s0 g' σ' m' s') (j:J k σ' (V.map m'))
set_option tactic.hygienic true in
theorem while_w {test:Expr} {body:List Stmt} {pos:Pos} {x:AHeap->Loc->SQ->SX->Prop} {J:Nat->AHeap->List (Option AV)->Prop} {n₀:Nat} (hb:SuiteP f V A n 2 hd body x)
  (ih:TsIH n tc) (C:SC f n hd call A g σ m s) (j0:J n₀ σ (V.map m))
  (q:∀ k σ,allV V m fun vs m=>J k σ vs->tc (f.cx hd call) m test σ (fun c σ=>(c=true->x σ m (inLoop (fun σ m=>∃ k',k'<k∧J k' σ (V.map m)) Q) E)∧(c=false->Q .next σ m)) fun i σ=>E i σ m) :
  WS f V A m g s (exec (.While test body [] pos) f.env) Q E:=by
 refine wpAny_While (codeAny_whileLoop (WhI f V m J g s) (fun k s1 hI=>?_) n₀ ⟨C.base,j0⟩)
 obtain ⟨a,j⟩:=hI
 rename_i g1 σ1 m1
 have C1:=C.st a
 refine (ih C1 (allV_at a.so (q k σ1) j)).then (fun b cb g2 σ2 s2 go2 hb2 q=>?_) fun e s2 z=>?_
 ·have a2:=a.ex go2
  subst hb2
  induction b using Bool.casesOn with
  | false=>exact execs_nil ⟨a2,.next,q.2 rfl⟩
  | true=>
   refine wpAny_mono (hb a2.go.rel a2.fs (C1.go go2).am (q.1 rfl)) (fun cf s3 z=>?_) fun e s3 z=>?_
   ·obtain ⟨go3,hf,q⟩:=z
    induction hf using FlR.casesOn with
    | next=>obtain ⟨k',h1,h2⟩:=q; exact ⟨k',h1,a2.trans go3,h2⟩
    | cont=>obtain ⟨k',h1,h2⟩:=q; exact ⟨k',h1,a2.trans go3,h2⟩
    | brk=>exact ⟨a2.trans go3,.next,q⟩
    | ret hv=>exact ⟨a2.trans go3,.ret hv,q⟩
   ·obtain ⟨go3,hj,q⟩:=z
    exact ErS.noted (a2.trans go3) hj q C.am.frames C.hfl
 ·obtain ⟨j,g2,σ2,c,fs,go2,hj,q⟩:=z
  exact ErS.noted (a.ex go2) hj q C.am.frames C.hfl
end
end Mine
namespace Mine
set_option backward.match.sparseCases true
set_option linter.unusedSimpArgs false
open PySem PySem.W PyProof.Rows PySem.Calls
section
variable {f:Fm} {n:Nat} {hd:Option Nat} {call:CallT} {A:Around} {g0 g g':Gh} {σ σ':AHeap} {m0 m m':Loc} {s0 s s':Shared} {ec:Cx->Vc} {tc:Cx->Vt} {xc:Cx->Vs} {md:Stmt->List Str} {X:Addr->Prop} {V V':List Str} {Q:SQ} {E:SX} {env:Env} {i:Nat} {c:Addr} {fs:List (Str×AV)}
inductive CatchI (P:Params) (sc:Scope) (k:Addr->Prop):Expr->Prop
 | mk {x:Str} {p:Pos} {a:Addr} (h1:sc.names.lookup x=some .globalImplicit) (h2:glob (KF P) x=some (.fn a)) (h3:isExcIn (KF P) a=true) (h4:typeIn (KF P) (.ref a)=some (.type "type")) (q:k a):CatchI P sc k (.Name x p)
theorem cv0:∀ (P:Params) (sc:Scope) (k:Addr->Prop),False->False:=fun U U U=>id
theorem catch_inv {P:Params} {sc:Scope} {e:Expr} {k:Addr->Prop} (h:vcCatch P sc e k):CatchI P sc k e:=by
 induction he:tagE e==13 using Bool.casesOn with
 | false=>exact (Gu.use (b:=!(tagE e==13)) (C:=∀ P sc k,vcCatch P sc e k->False) (by induction e using Expr.casesOn <;> first | exact trivial | exact cv0) (by rw [he]; rfl) P sc k h).elim
 | true=>
  obtain ⟨x,p,rfl⟩:=nameE_inv he
  obtain ⟨h1,h⟩:=ifT h
  obtain ⟨v,hg,h⟩:=someP_inv h
  induction v using AV.casesOn with
  | fn a=>
   obtain ⟨h2,h⟩:=ifT h
   rw [Bool.and_eq_true,beq_iff_eq] at h2
   exact ⟨beq_iff_eq.mp h1,hg,h2.1,h2.2,h⟩
  | _=>exact h.elim
theorem SC.marked (C:SC f n hd call A g σ m s) (ht:g.τ i=true):SC f n (some i) call (A.mark (some (.ref (g.ρ i)))) g σ m s:=by
 obtain ⟨c,fs,hi⟩:=C.r.trc i ht
 exact ⟨C.hc,C.r,C.F,⟨C.am.frames,C.am.ok,rfl,fun j hj=>by (injection hj with e1; subst e1); exact (C.r.objs _ _ hi).lt,fun j hj=>by (injection hj with e1; subst e1); exact ht,C.am.depth,C.am.units⟩,C.hfl⟩
theorem glob_nm {v:AV} {x:Str} (h1:f.sc.names.lookup x=some .globalImplicit) (h2:glob (KF f.w.params) x=some v) {k:AV->Prop} (h:k v):nameP (f.cx hd call) m x k:=by
 unfold nameP
 rw [show (f.cx hd call).sc.names.lookup x=_ from h1]
 dsimp only
 rw [h2]
 exact h
set_option tactic.hygienic true in
theorem clause_any {A':Around} {e:Expr} {P:Prop} {Q:Bool->Shared->Prop} {E':Value->Shared->Prop} (r:Rel f.w g σ s) (F:FSR f g m s.heap) (h:CatchI f.w.params f.sc (fun a=>CatchP f.w.params i a σ P) e) (hQ:∀ g' s',Go f.w noX g s g' σ s'->P->Q true s') :
  wpAny (model prg f.w) A' (eval e f.env) (fun c s₁=>wpAny (model prg f.w) A' (excMatches (.ref (g.ρ i)) c) Q E' s₁) E' s:=by
 obtain ⟨h1,h2,h4,h5,h3,h6,hP⟩:=h
 rename_i x p a c fs
 have hx:(x==("__debug__":Str))=false:=by
  rw [beq_eq_false_iff_ne]
  rintro rfl
  injection F.fr.nodebug.symm.trans h1
 have z:=name_w0 (A:=A') (E:=fun U U=>False) (cx:=f.cx none (fun U U U U U U=>False)) (Q:=fun v σ'=>v=.fn a∧σ'=σ) rfl r F.fr (glob_nm h1 h2 ⟨rfl,rfl⟩)
 refine wpAny_Name (z.then (fun v cv g' σ' s1 go hv e=>?_) fun e s1 z=>?_) hx
 ·obtain ⟨rfl,rfl⟩:=e
  obtain ⟨rfl,_⟩:=hv.inv
  have hρ:g'.ρ i=g.ρ i:=go.ext.ρ i (r.objs _ _ h3).lt
  rw [← hρ]
  exact matches_any go.rel h3 h4 h5 h6 (hQ g' s1 go hP)
 ·obtain ⟨_,_,_,_,_,_,_,q⟩:=z
  exact q.elim
structure OutI (f:Fm) (n:Nat) (hd:Option Nat) (call:CallT) (A:Around) (V:List Str) (m0:Loc) (g0:Gh) (s0:Shared) (i:Nat) (g:Gh) (σ:AHeap) (m:Loc) (s:Shared):Prop where
 C:SC f n hd call A g σ m s
 a:GoS f (ownX f.env) V m0 g0 s0 g σ m s
 t:g.τ i=true
theorem OutI.ex (o:OutI f n hd call A V m0 g0 s0 i g σ m s) (go:Go f.w noX g s g' σ' s'):OutI f n hd call A V m0 g0 s0 i g' σ' m s':=⟨o.C.go go,o.a.ex go,go.ext.τ i o.t⟩
theorem OutI.mark (o:OutI f n hd call A V m0 g0 s0 i g σ m s):SC f n (some i) call (A.mark (some (.ref (g.ρ i)))) g σ m s:=o.C.marked o.t
theorem note_out {E':Value->Shared->Prop} {Q':Unit->Shared->Prop} (C:SC f n hd call A g σ m s) (a:GoS f (ownX f.env) V m0 g0 s0 g σ m s) (hi:σ.get i=some (.exc c fs)) (k:∀ g' s',OutI f n hd call A V m0 g0 s0 i g' σ m s'->g'.ρ i=g.ρ i->Q' () s'):wpAny (model prg f.w) A (noteFrame (.ref (g.ρ i)) f.env) Q' E' s:=
 note_any C.r C.F hi C.am.frames C.hfl fun g' s' go ht hρ=>k g' s' ⟨C.go go,a.ex go,ht⟩ hρ
theorem OutI.note {E':Value->Shared->Prop} {Q':Unit->Shared->Prop} (o:OutI f n hd call A V m0 g0 s0 i g σ m s) (hi:σ.get i=some (.exc c fs)) (k:∀ g' s',OutI f n hd call A V m0 g0 s0 i g' σ m s'->g'.ρ i=g.ρ i->Q' () s'):wpAny (model prg f.w) A (noteFrame (.ref (g.ρ i)) f.env) Q' E' s:=note_out o.C o.a hi k
theorem OutI.flight {A':Around} {E':Value->Shared->Prop} {Q':Unit->Shared->Prop} (o:OutI f n hd call A V m0 g0 s0 i g σ m s) (hi:σ.get i=some (.exc c fs)) (k:∀ s',OutI f n hd call A V m0 g0 s0 i g σ m s'->Q' () s'):wpAny (model prg f.w) A' (setFlight (.ref (g.ρ i)) none) Q' E' s:=
 setFlight_any o.a.go.rel hi fun s' go=>k s' (o.ex go)
noncomputable abbrev HandP (f:Fm) (A:Around) (V:List Str) (m0:Loc) (g0:Gh) (s0:Shared) (Q:SQ) (E:SX) (name:Option Str) (hp:Pos):Result->Shared->Prop:=fun r s₂=>match r with
    | .ok fl=>(match name with
     | none=>OkS f (ownX f.env) V m0 g0 s0 Q fl s₂
     | some n=>wpAny (model prg f.w) A (do bindName f.env n .none; unbindBehindTheSuite f.env n hp) (fun U s₃=>OkS f (ownX f.env) V m0 g0 s0 Q fl s₃) (ErS f (ownX f.env) V m0 g0 s0 E) s₂)
    | .error x=>cameBackBy (model prg f.w) A f.env (ErS f (ownX f.env) V m0 g0 s0 E) x s₂
theorem enter_w {e:Expr} {name:Option Str} {hb:List Stmt} {hp:Pos} {P:Prop} (C:SC f n hd call A g σ m s) (a:GoS f (ownX f.env) V m0 g0 s0 g σ m s) (hi:σ.get i=some (.exc c fs)) (h:CatchI f.w.params f.sc (fun p=>CatchP f.w.params i p σ P) e)
  (k:∀ g' s',OutI f n hd call A V m0 g0 s0 i g' σ m s'->P->codeAny (model prg f.w) (A.mark (some (.ref (g'.ρ i)))) (.handlers (.ref (g'.ρ i)) [.ExceptHandler none name hb hp] f.env) (HandP f A V m0 g0 s0 Q E name hp) s') :
  wpAny (model prg f.w) A (noteFrame (.ref (g.ρ i)) f.env) (fun U s₂=>wpAny (model prg f.w) A (setFlight (.ref (g.ρ i)) none) (fun U s₃=>wpAny (model prg f.w) A (handleBy (.ref (g.ρ i)) f.env [.ExceptHandler (some e) name hb hp]) (OkS f (ownX f.env) V m0 g0 s0 Q) (ErS f (ownX f.env) V m0 g0 s0 E) s₃) (ErS f (ownX f.env) V m0 g0 s0 E) s₂) (ErS f (ownX f.env) V m0 g0 s0 E) s:=by
 refine note_out C a hi fun g2 s2 o2 hρ=>?_
 rw [← hρ]
 refine o2.flight hi fun s3 o3=>wpAny_handleBy_cons (codeAny_handlers_test (clause_any o3.C.r o3.C.F h fun g4 s4 go4 hP=>?_)) (by intro q; injection q)
 rw [← go4.ext.ρ i (o3.C.r.objs _ _ hi).lt]
 exact k g4 s4 (o3.ex go4) hP
theorem body_w {cf:Flow} (h:OkS f (ownX f.env) V m g s Q cf s'):(match (motive:=Flow->Prop) cf with | .next=>wpAny (model prg f.w) A (execs [] f.env) (OkS f (ownX f.env) V m g s Q) (ErS f (ownX f.env) V m g s E) s' | fl=>OkS f (ownX f.env) V m g s Q fl s'):=by
 induction cf using Flow.casesOn
 ·exact execs_nil h
 all_goals exact h
theorem suite_cons {hb:List Stmt} {P:Prop} (h:if hb.isEmpty then False else P):∃ b r,hb=b::r∧P:=by
 induction hb using List.casesOn with
 | nil=>exact h.elim
 | cons b r=>exact ⟨b,r,rfl,h⟩
theorem except_w {body hb:List Stmt} {e:Expr} {hp pos:Pos} (ih:ExIH n xc md) (C:SC f n hd call A g σ m s) (hV1:∀ y,y∈body.flatMap md->y∈V) (hV2:∀ y,y∈hb.flatMap md->y∈V)
  (q:vcBlk (xc (f.cx hd call)) body σ m Q fun i σ m=>vcCatch f.w.params f.sc e fun a=>CatchP f.w.params i a σ (if hb.isEmpty then False else vcBlk (xc (f.cx (some i) call)) hb σ m Q E)) :
  WS f V A m g s (exec (.Try body [.ExceptHandler (some e) none hb hp] [] [] pos) f.env) Q E:=by
 refine wpAny_Try_except (wpAny_mono ((block_w ih body C q).more hV1) (fun cf s1 h=>body_w h) fun e1 s1 z=>?_)
 obtain ⟨go1,hi,q⟩:=z
 refine enter_w (C.st go1) go1 hi (catch_inv q) fun g4 s4 o4 q=>?_
 obtain ⟨b,r,rfl,q⟩:=suite_cons q
 refine codeAny_handlers_suite (o4.flight hi fun s5 o5=>?_)
 refine wpAny_mono ((block_w ih (b::r) o5.mark q).more hV2) (fun cf s6 h=>h.pre o5.a) fun e6 s6 z=>?_
 obtain ⟨go6,hj,q⟩:=z
 exact ErS.noted (o5.a.trans go6) hj q o5.mark.am.frames C.hfl
theorem GoS.put {x:Str} {v:Option AV} (a:GoS f X V m0 g0 s0 g σ m s) (go:Go f.w X g s g' σ' s') (F:FSR f g' (m.put x v) s'.heap) (hx:x∈V):GoS f X V m0 g0 s0 g' σ' (m.put x v) s':=⟨a.go.trans go,F,a.so.trans (.put hx)⟩
theorem except_as_w {body hb:List Stmt} {e:Expr} {x:Str} {hp pos:Pos} (ih:ExIH n xc md) (C:SC f n hd call A g σ m s) (hV1:∀ y,y∈body.flatMap md->y∈V) (hV2:∀ y,y∈hb.flatMap md->y∈V) (hx:x∈V)
  (q:vcBlk (xc (f.cx hd call)) body σ m Q fun i σ m=>vcCatch f.w.params f.sc e fun a=>CatchP f.w.params i a σ (if !(f.sc.names.lookup x==some .local)||hb.isEmpty then False else vcBlk (xc (f.cx (some i) call)) hb σ (m.put x (some (.ref i))) (fun fl σ m=>Q fl σ (m.put x none)) fun j σ m=>E j σ (m.put x none))) :
  WS f V A m g s (exec (.Try body [.ExceptHandler (some e) (some x) hb hp] [] [] pos) f.env) Q E:=by
 refine wpAny_Try_except (wpAny_mono ((block_w ih body C q).more hV1) (fun cf s1 h=>body_w h) fun e1 s1 z=>?_)
 obtain ⟨go1,hi,q⟩:=z
 refine enter_w (C.st go1) go1 hi (catch_inv q) fun g4 s4 o4 q=>?_
 obtain ⟨hl,q⟩:=ifF q
 rw [Bool.or_eq_false_iff,Bool.not_eq_false',beq_iff_eq] at hl
 obtain ⟨b,r,rfl,q⟩:=suite_cons (hb:=hb) (by rw [hl.2]; exact q)
 refine codeAny_handlers_suite_as (o4.flight hi fun s5 o5=>?_)
 refine store_any (X:=ownX f.env) (.loc hl.1 (.inl rfl)) o5.C.r o5.C.F (.ref _ (o5.C.r.objs _ _ hi).lt _ rfl) fun s6 go6 F6=>?_
 have a6:=o5.a.put go6 F6 hx
 have C6:SC f n _ call _ g4 _ _ s6:=o5.mark.st (V:=V) ⟨go6,F6,.put hx⟩
 refine wpAny_mono ((block_w ih (b::r) C6 q).more hV2) (fun cf s7 z=>?_) fun e7 s7 z=>?_
 ·obtain ⟨go7,hf,q⟩:=z
  have a7:=a6.trans go7
  exact goes_any a7.go.rel a7.fs hl.1 fun s8 go8 F8=>⟨a7.put go8 F8 hx,by induction hf using FlR.casesOn with
   | next=>exact .next
   | brk=>exact .brk
   | cont=>exact .cont
   | ret hv=>exact .ret (hv.mono (.refl _) go8.tr.val),q⟩
 ·obtain ⟨go7,hj,q⟩:=z
  refine note_out (C6.st go7) (a6.trans go7) hj fun g8 s8 o8 hρ8=>?_
  rw [← hρ8]
  refine goes_any o8.a.go.rel o8.a.fs hl.1 fun s9 go9 F9=>passOn_any go9.rel hj o8.t fun s10 go10=>?_
  exact ErS.noted ((o8.a.put go9 F9 hx).ex go10) hj q C6.am.frames C.hfl
theorem FlR.mono {h h':Heap} {fa:Fl} {cf:Flow} (r:FlR g h fa cf) (x:Ext g g') (k:Stays g h h'):FlR g' h' fa cf:=by
 induction r using FlR.casesOn with
 | next=>exact .next
 | brk=>exact .brk
 | cont=>exact .cont
 | ret hv=>exact .ret (hv.mono x k)
theorem fin_w {fb:List Stmt} {fa:Fl} {cf:Flow} {E':Value->Shared->Prop} (ih:ExIH n xc md) (C:SC f n hd call A g σ m s) (a:GoS f (ownX f.env) V m0 g0 s0 g σ m s) (hV2:∀ y,y∈fb.flatMap md->y∈V) (hf:FlR g s.heap fa cf) (q:vcBlk (xc (f.cx hd call)) fb σ m (onNext fun σ m=>Q fa σ m) fun U U U=>False) :
  wpAny (model prg f.w) A (execs fb f.env) (fun g' s'=>match g' with
    | .next=>OkS f (ownX f.env) V m0 g0 s0 Q cf s'
    | g'=>OkS f (ownX f.env) V m0 g0 s0 Q g' s') E' s:=by
 refine wpAny_mono ((block_w ih fb C q).more hV2) (fun cf2 s2 z=>?_) fun e s2 z=>?_
 ·obtain ⟨go2,hf2,q⟩:=z
  induction hf2 using FlR.casesOn with
  | next=>exact ⟨a.trans go2,hf.mono go2.go.ext go2.go.tr.val,q⟩
  | _=>exact q.elim
 ·obtain ⟨_,_,q⟩:=z
  exact q.elim
theorem finally_w {body fb:List Stmt} {pos:Pos} (ih:ExIH n xc md) (C:SC f n hd call A g σ m s) (hV1:∀ y,y∈body.flatMap md->y∈V) (hV2:∀ y,y∈fb.flatMap md->y∈V)
  (q:if fb.isEmpty then False else vcBlk (xc (f.cx hd call)) body σ m (fun fl σ m=>vcBlk (xc (f.cx hd call)) fb σ m (onNext fun σ m=>Q fl σ m) fun U U U=>False) fun i σ m=>vcBlk (xc (f.cx (some i) call)) fb σ m (onNext fun σ m=>E i σ m) fun U U U=>False) :
  WS f V A m g s (exec (.Try body [] [] fb pos) f.env) Q E:=by
 obtain ⟨b,r,rfl,q⟩:=suite_cons q
 refine wpAny_Try_finally (wpAny_mono ((block_w ih body C q).more hV1) (fun cf s1 z=>?_) fun e1 s1 z=>?_)
 ·obtain ⟨go1,hf,q⟩:=z
  have C1:=C.st go1
  induction hf using FlR.casesOn with
  | next=>exact execs_nil (fin_w ih C1 go1 hV2 .next q)
  | brk=>exact fin_w ih C1 go1 hV2 .brk q
  | cont=>exact fin_w ih C1 go1 hV2 .cont q
  | ret hv=>exact fin_w ih C1 go1 hV2 (.ret hv) q
 obtain ⟨go1,hi,q⟩:=z
 refine note_out (C.st go1) go1 hi fun g2 s2 o2 hρ2=>?_
 rw [← hρ2]
 refine ⟨(by intro q; injection q),o2.note hi fun g3 s3 o3 hρ3=>?_⟩
 rw [← hρ3]
 refine o3.flight hi fun s4 o4=>?_
 refine wpAny_mono ((block_w ih (b::r) o4.mark q).more hV2) (fun cf s5 z=>?_) fun e s5 z=>?_
 ·obtain ⟨go5,hf5,q⟩:=z
  induction hf5 using FlR.casesOn with
  | next=>
   have ht5:=go5.go.ext.τ _ o4.t
   obtain ⟨c5,fs5,hi5⟩:=go5.go.rel.trc _ ht5
   rw [← go5.go.ext.ρ _ (o4.C.r.objs _ _ hi).lt]
   exact passOn_any go5.go.rel hi5 ht5 fun s6 go6=>⟨(o4.a.trans go5).ex go6,hi5,q⟩
  | _=>exact q.elim
 ·obtain ⟨_,_,q⟩:=z
  exact q.elim
end
end Mine
namespace Mine
set_option linter.unusedSimpArgs false
open PySem PySem.W PyProof.Rows PySem.Calls
section
variable {f:Fm} {n:Nat} {hd:Option Nat} {call:CallT} {A:Around} {g g':Gh} {σ σ':AHeap} {m m':Loc} {s s':Shared} {ec:Cx->Vc} {tc:Cx->Vt} {xc:Cx->Vs} {md:Stmt->List Str} {V:List Str} {Q:SQ} {E:SX}
theorem sw0:∀ (tg:Option Expr) (l:Nat) (env:Env),(pure false:Sem Bool)=pure false:=fun U U U=>rfl
theorem swapsWith_none {e:Expr} {l:Nat} {tg:Option Expr} {env:Env} (h:isCompE e=false):swapsWith e tg l env=pure false:=Gu.use (b:=!isCompE e) (C:=∀ tg l env,swapsWith e tg l env=pure false) (by induction e using Expr.casesOn <;> first | exact trivial | exact sw0) (by rw [h]; rfl) tg l env
theorem aug_name_w {x:Str} {np p:Pos} {op:Operator} {e:Expr} (ih:EvIH n ec) (C:SC f n hd call A g σ m s)
  (q:nameP (f.cx hd call) m x fun old=>ec (f.cx hd call) m e σ (fun v σ=>AugP σ (fun w σ=>if locNm f.sc x then Q .next σ (m.put x (some w)) else False) op old v) fun i σ=>E i σ m):WS f [x] A m g s (exec (.AugAssign (.Name x np) op e p) f.env) Q E:=by
 rw [exec_AugAssign_Name]
 refine wpAny_bind (wpAny_standAt (wpAny_bind (WE.up C.base (name_w0 (cx:=f.cx hd call) (Q:=fun old σ=>ec (f.cx hd call) m e σ (fun v σ=>AugP σ (fun w σ=>if locNm f.sc x then Q .next σ (m.put x (some w)) else False) op old v) fun i σ=>E i σ m) rfl C.r C.F.fr q) fun old cold g1 σ1 s1 go1 a1 hold q=>?_)))
 have C1:=C.go go1
 refine wpAny_bind (WE.up a1 (WE.hold (ih C1 q)) fun v cv g2 σ2 s2 go2 a2 hv q=>?_)
 refine wpAny_bind (wpAny_standAt (wpAny_bind (WE.up a2 (aug_w a2.go.rel (hold.go go2) hv q) fun r cr g3 σ3 s3 go3 a3 hr q=>?_)))
 obtain ⟨hx,q⟩:=ifT q
 refine wpAny_bind (wpAny_standAt (wpAny_bind (wpAny_bindName (store_any (OwnS.self a3.fs.fr x hx) a3.go.rel a3.fs hr fun s4 go4 F4=>?_))))
 exact wpAny_pure ⟨a3.put go4 F4 (.head _),.next,q⟩
theorem aug_attr_w {o:Expr} {x:Str} {tp p:Pos} {op:Operator} {e:Expr} (ih:EvIH n ec) (C:SC f n hd call A g σ m s)
  (q:ec (f.cx hd call) m o σ (fun ov σ=>AttrP x σ (fun old σ=>ec (f.cx hd call) m e σ (fun v σ=>AugP σ (fun w σ=>SetP (KF f.w.params) x w σ (fun σ=>Q .next σ m) ov) op old v) fun i σ=>E i σ m) ov) fun i σ=>E i σ m) :
  WS f V A m g s (exec (.AugAssign (.Attribute o x tp) op e p) f.env) Q E:=by
 have e0:exec (.AugAssign (.Attribute o x tp) op e p) f.env=(do
  standAt p
  let ov ← eval o f.env
  let new ← holding [ov] do
   standAt tp.atName
   let old ← getAttr ov x true
   let v ← holding [old] (eval e f.env)
   standAt p
   operate [old,v] (inplaceOp op old v)
  standAt tp.atName
  holding [new,ov] (setAttr ov x new)
  release [new,ov] []
  pure .next):=rfl
 rw [e0]
 refine wpAny_bind (wpAny_standAt (wpAny_bind (WE.up C.base (ih C q) fun ov cov g1 σ1 s1 go1 a1 hov q=>?_)))
 have C1:=C.go go1
 refine wpAny_bind (wpAny_holding (wpAny_bind (wpAny_standAt (wpAny_bind (WE.up a1 (attr_w a1.go.rel hov q) fun old cold g2 σ2 s2 go2 a2 hold q=>?_)))))
 refine wpAny_bind (WE.up a2 (WE.hold (ih (C1.go go2) q)) fun v cv g3 σ3 s3 go3 a3 hv q=>wpAny_bind (wpAny_standAt (WE.up a3 (aug_w a3.go.rel (hold.go go3) hv q) fun r cr g4 σ4 s4 go4 a4 hr q=>?_)))
 exact wpAny_bind (wpAny_standAt (wpAny_bind (WE.up a4 (WE.hold (setAttr_w a4.go.rel (((hov.go go2).go go3).go go4) hr q)) fun U U g5 σ5 s5 U a5 U q=>wpAny_bind (wpAny_release' (wpAny_pure ⟨a5,.next,q⟩)))))
theorem return_w {oe:Option Expr} {p:Pos} (ih:EvIH n ec) (C:SC f n hd call A g σ m s) (q:vcOpt (ec (f.cx hd call) m) oe σ (fun v σ=>Q (.ret v) σ m) fun i σ=>E i σ m):WS f V A m g s (exec (.Return oe p) f.env) Q E:=by
 induction oe using Option.casesOn with
 | none=>
  rw [exec_Return_none]
  exact wpAny_bind (wpAny_standAt (wpAny_pure ⟨C.base,.ret .none,q⟩))
 | some e=>
  rw [exec_Return_some]
  exact wpAny_bind (wpAny_standAt (wpAny_bind (WE.up C.base (ih C q) fun v cv g1 σ1 s1 U a1 hv q=>wpAny_pure ⟨a1,.ret hv,q⟩)))
theorem if_w {e:Expr} {b o:List Stmt} {p:Pos} (iht:TsIH n tc) (ih:ExIH n xc md) (C:SC f n hd call A g σ m s) (q:tc (f.cx hd call) m e σ (fun c σ=>(c=true->vcBlk (xc (f.cx hd call)) b σ m Q E)∧(c=false->vcBlk (xc (f.cx hd call)) o σ m Q E)) fun i σ=>E i σ m):WS f (b.flatMap md++o.flatMap md) A m g s (exec (.If e b o p) f.env) Q E:=by
 rw [exec_If]
 refine wpAny_bind (wpAny_standAt (wpAny_bind (WE.up C.base (iht C q) fun v cv g1 σ1 s1 go1 a1 hv q=>?_)))
 subst hv
 induction v using Bool.casesOn
 ·exact WS.pre a1 ((block_w ih o (C.go go1) (q.2 rfl)).more fun y hy=>List.mem_append_right _ hy)
 ·exact WS.pre a1 ((block_w ih b (C.go go1) (q.1 rfl)).more fun y hy=>List.mem_append_left _ hy)
theorem empty_of {α:Type} {l:List α} (h:(!l.isEmpty)=false):l=[]:=by induction l using List.casesOn <;> first | rfl | injection h
theorem try_w {b:List Stmt} {hs:List ExceptHandler} {o fb:List Stmt} {p:Pos} {j d:Nat} (ih:ExIH n xc (modN d)) (C:SC f n hd call A g σ m s) (q:vcStepS (f.cx hd call) (vcs (j+1)).1 (vcs (j+1)).2 xc (modN d) (.Try b hs o fb p) σ m Q E):WS f (modN (d+1) (.Try b hs o fb p)) A m g s (exec (.Try b hs o fb p) f.env) Q E:=by
 obtain ⟨h,q⟩:=ifF q
 have e0:=empty_of h
 subst e0
 induction hs using List.casesOn with
 | nil=>exact finally_w ih C (fun y hy=>List.mem_append_left _ hy) (fun y hy=>List.mem_append_right _ hy) q
 | cons h1 hs=>
  replace q:=ifF q
  have e0:=empty_of q.1
  subst e0
  replace q:=one_inv q.2
  obtain ⟨h',e,q⟩:=q
  (injection e with e1 e2; subst e1 e2)
  obtain ⟨ot,ox,hb,hp⟩:=h1
  induction ot using Option.casesOn with
  | none=>exact q.elim
  | some tt=>
   induction ox using Option.casesOn with
   | none=>exact except_w ih C (fun y hy=>List.mem_append_left _ hy) (fun y hy=>List.mem_append_right _ (List.mem_append_left _ (List.mem_append_left _ hy))) q
   | some x=>exact except_as_w ih C (fun y hy=>List.mem_append_left _ hy) (fun y hy=>List.mem_append_right _ (List.mem_append_left _ (List.mem_append_left _ (.tail _ hy)))) (List.mem_append_right _ (List.mem_append_left _ (List.mem_append_left _ (.head _)))) q
theorem LoopP.imp {P P':List AV->AHeap->Prop} {v:AV} (h:∀ xs σ,P xs σ->P' xs σ) (q:LoopP σ P v):LoopP σ P' v:=by
 induction q using LoopP.casesOn with
 | lst l hl q=>exact .lst l hl (h _ _ q)
 | tup hl q=>exact .tup hl (h _ _ q)
 | rng hl q=>exact .rng hl (h _ _ q)
 | dict hg hs hl q=>exact .dict hg hs hl (h _ _ q)
theorem exStep_w (j d:Nat) (ih:ExIH n xc (modN d)):ExIH n (fun cx=>vcStepS cx (vcs (j+1)).1 (vcs (j+1)).2 xc (modN d)) (modN (d+1)):=fun {f hd call A g σ m s st Q E} C q=>by
 have hev:EvIH n (vcs (j+1)).1:=(vcs_w (j+1)).1
 have hts:TsIH n (vcs (j+1)).2:=(vcs_w (j+1)).2
 induction st using Stmt.casesOn with
 | Expr e p=>
  replace q:=ifF q
  have hint:interactive f.env=false:=by unfold interactive; rw [C.F.fr.kind]; rfl
  rw [exec_Expr f.env e p hint (swapsWith_none q.1)]
  exact wpAny_bind (wpAny_standAt (wpAny_bind (WE.up C.base (hev C q.2) fun v cv g1 σ1 s1 U a1 hv q=>wpAny_dropValue ⟨a1,.next,q⟩)))
 | Pass p=>exact wpAny_bind (wpAny_standAt (wpAny_pure ⟨C.base,.next,q⟩))
 | Break p=>exact wpAny_bind (wpAny_standAt (wpAny_pure ⟨C.base,.brk,q⟩))
 | Continue p=>exact wpAny_bind (wpAny_standAt (wpAny_pure ⟨C.base,.cont,q⟩))
 | Return oe p=>exact return_w hev C q
 | Assign ts e p=>
  replace q:=one_inv q
  obtain ⟨tg,rfl,q⟩:=q
  replace q:=ifF q
  exact (assign_w j C (by rw [← Bool.not_eq_false']; exact q.1) q.2).more fun y hy=>List.mem_append_left _ hy
 | AugAssign tg op e p=>
  induction tg using Expr.casesOn with
  | Name x np=>exact aug_name_w hev C q
  | Attribute o x tp=>exact aug_attr_w hev C q
  | _=>exact q.elim
 | If e b o p=>exact if_w hts ih C q
 | While e b o p=>
  replace q:=ifF q
  have e0:=empty_of q.1
  subst e0
  obtain ⟨J,n₀,j0,q⟩:=q.2
  exact (while_w (suite_w ih C b fun y hy=>mem_dd hy) hts C j0 q).more fun y hy=>dd_mem hy
 | For tg it b o p=>
  replace q:=ifF q
  obtain ⟨h,q⟩:=q
  rw [Bool.or_eq_false_iff] at h
  rw [empty_of h.1]
  refine (for_w (V:=forV (modN d) tg b) (suite_w ih C b fun y hy=>mem_dd (List.mem_append_right _ hy)) C.hfl C.r C.F C.am (setFold h.2) (fun y hy=>mem_dd (List.mem_append_left _ hy)) ((hev C q).conv fun v σ q=>?_)).more fun y hy=>dd_mem hy
  exact q.imp fun xs σ ⟨J,j0,q⟩=>⟨J,j0,fun σ' m' so=>allV_at so (q σ')⟩
 | Raise oe c p=>
  induction oe using Option.casesOn with
  | none=>exact q.elim
  | some e=>
   replace q:=ifF q
   induction c using Option.casesOn with
   | some _=>injection q.1
   | none=>
   rw [arm_exec_Raise]
   refine wpAny_bind (wpAny_standAt ?_)
   show WS f _ A m g s (raiseStmt f.env (some (do let v ← eval e f.env; standAt p; pure v)) none) _ _
   exact raise_w C (WE.after (hev C q.2) fun U U U U h=>wpAny_standAt h)
 | Try b hs o fb p=>exact try_w ih C q
 | _=>exact q.elim
theorem exN_w:∀ d,ExIH n (vcN d) (modN d)
 | 0=>fun U q=>q.elim
 | d+1=>exStep_w 11 d (exN_w d)
theorem callF_sound {w:World}:∀ d,CallP w d (callF w.params d)
 | 0=>fun hd a args cargs A fl g σ s Q E r ha am q=>q.elim
 | d+1=>call_step fun fd body=>⟨_,fun hd env fl A g σ m s Q E r F am q=>block_w (f:=⟨w,fd.scope,env,env::fl⟩) (exN_w 12) body ⟨callF_sound d,r,F,am,⟨rfl⟩⟩ q⟩
end
end Mine
namespace Mine
set_option maxHeartbeats 0
open PySem PySem.W PyProof.Rows PySem.Calls
theorem law_def:∃ d kwd,defOf qq "law"=some (d,kwd)∧prg.theDef "law"=some (d.params,d.body,d.scope)∧kwWritten? d.params.kwonlyargs d.params.kw_defaults=some kwd:=⟨_,_,rfl,rfl,rfl⟩
theorem law_promised:rwl.row.toRowW.promised:=⟨[.list [.int 3,.int 1]],by decide +kernel,by decide +kernel⟩
noncomputable def ghO (s:Shared):Gh:={κ:=fun a=>if (s.heap.get? a).isSome then .stat else .free,ρ:=fun U=>0,n:=0,τ:=fun U=>false}
theorem ghO_stat {s:Shared} {a:Addr} {o:Obj} (h:s.heap.get? a=some o):(ghO s).κ a=.stat:=if_pos (by rw [h]; rfl)
theorem relO {w:World} {s:Shared} {o1 o2:Obj} (X:(KF w.params).In s.heap) (hg:s.gens=#[]) (hl:s.heap.NoLimit) (h1:s.heap.get? sysModules=some o1) (h2:s.heap.get? cStatics=some o2):Rel w (ghO s) ⟨0,fun U=>none⟩ s:=
 ⟨rfl,fun i h=>(by injection h),fun i o e=>(by injection e),fun a ha=>(by
  induction h:s.heap.get? a using Option.casesOn with
  | none=>exact (ha (if_neg (by rw [h]; exact Bool.false_ne_true))).elim
  | some o=>exact ⟨o,rfl⟩),X,fun a o e=>ghO_stat (X a o e),hg,ghO_stat h1,ghO_stat h2,hl⟩
theorem ints_rep {g:Gh} {h:Heap}:∀ {vs:List Value} {xs:List Int},IntsAre vs xs->VReps g h (xs.map .int) vs
 | _,_,.nil=>.nil
 | _,_,.cons _ _ r=>.cons (.int _ _) (ints_rep r)
theorem KF_main (P:Params):nsIn (KF P) mainGlobals "law"=some (some (.ref 1032)):=by kernel_rfl
theorem KF_sys (P:Params):((KF P).lookup sysModules).isSome=true:=by kernel_rfl
set_option tactic.hygienic true in
theorem law_holds (h:∀ (P:Params) (script:List Int),script.length<=63->VW (callF P 24 none 1032 [.lst (script.map .int)]) ⟨0,fun U=>none⟩ (fun v U=>v=.bool true) fun U U=>False):rwl.Holds:=by
 obtain ⟨d,kwd,hd,hp,hk⟩:=law_def
 refine holds_of_call hd hp hk law_promised ?_
 intro w s₀ s₁ mg mb G Y a o pm cd doc dV kV ho hd' hcd hD hmg hgens args vals as hpre hlay hrd hwl hlo
 have hname:d.name="law":=defOf_name hd
 wrow_args hpre hlay hrd hwl hlo
 rename_i script _ _ _ _ _ _ _ L vs _ hL _ _ _ hI _ hlen _
 refine enter_call ?_
 have T:=G.T
 have ha:a=1032:=by
  have e:=ns_of Y T.g (KF_main w.params)
  rw [hname,e] at hmg
  (injection hmg with e1; cases e1); rfl
 subst ha
 obtain ⟨o1,h1⟩:=Option.isSome_iff_exists.mp (KF_sys w.params)
 obtain ⟨mc,⟨o2,es,ep,h2,_⟩,_⟩:=T.nodigits
 have r:=relO (w:=w) Y hgens T.nolimit (Y _ _ h1) h2
 obtain ⟨⟨oc,od,odt,osl⟩,k1,k2,n,k3⟩:=hL
 dsimp only at k2 k3
 subst k2 k3
 have hv:VReps (ghO s₁) s₁.heap [.lst (script.map .int)] [.ref L]:=.cons (.lst (by rw [ghO_stat k1]; trivial) k1 (by simpa using ints_rep hI)) .nil
 have am:Amb callerA (ghO s₁) s₁.heap [] 24 0 none:=⟨rfl,fun U h=>(by cases h),rfl,fun U h=>(by injection h),fun U h=>(by injection h),by decide,by decide⟩
 have c:=callF_sound (w:=w) 24 none 1032 _ _ callerA [] (ghO s₁) ⟨0,fun U=>none⟩ s₁ _ _ r hv am (h w.params script (by omega)).r
 refine codeAny_mono c fun res s' q=>?_
 induction q using CallO.casesOn with
 | err q=>obtain ⟨_,_,_,_,_,_,_,q⟩:=q; exact q.elim
 | ret q=>
  obtain ⟨v,g',t',go,hr,rfl⟩:=q
  rw [show _=Value.bool true from hr.inv]
  refine ⟨.inl ⟨_,.bool true,[],rfl,fun U=>rfl,.bool true,?_,fun U=>⟨.nil,fun a ha=>(by cases ha)⟩⟩,.of_keep fun b o e=>go.tr.val b o e (by rw [ghO_stat e]; trivial),go.os,.of_eq go.rel.sta.gens⟩
  wrow_post
end Mine
namespace Mine
set_option genInjectivity true
set_option genInjectivity true
open PySem PySem.W PyProof.Rows
noncomputable abbrev OV:=Option AV
inductive MV where
 | a
 | n
 | v (v:AV)
noncomputable def MV.ctorIdx:MV->Nat:=fun t=>MV.casesOn t 0 1 (fun U=>2)
noncomputable abbrev LJ:=HL->List MV->Prop
inductive Out where
 | ok (v:AV)
 | er (i:Nat)
noncomputable def Out.on (Q:EQ) (E:EX) (o:Out):AHeap->Prop:=match o with
 | .ok v=>Q v
 | .er i=>E i
structure Post where
 α:Type
 R:α->Prop
 M:α->HL
 o:α->Out
noncomputable def Post.one (M:HL) (o:Out):Post:=⟨Unit,fun U=>True,fun U=>M,fun U=>o⟩
noncomputable def CX (P:Params) (d:Nat) (hd:Option Nat) (a:Addr) (args:List AV) (L:HL) (p:Post):Prop:=∀ Q E,(∀ x,p.R x->SP (p.M x) ((p.o x).on Q E))->SP L fun σ=>VW (callF P d hd a args) σ Q E
noncomputable def Post.fr (p:Post) (F:HL):Post:=⟨p.α,p.R,fun x=>p.M x++F,p.o⟩
noncomputable def CF (P:Params) (n:Nat) (a:Addr) (args:List AV) (A:HL) (p:Post) (z:Bool):Prop:=∀ d hd F,(z=true->hd=none)->CX P (d+n) hd a args (A++F) (p.fr F)
noncomputable def BinS (op:Operator) (a b v:AV):Prop:=∀ z σ Q,Q v σ->BinP z σ Q op a b
inductive Jw {ι:Type} (N:ι->Nat) (C:ι->Prop) (M:ι->HL) (V:ι->List MV) (n:Nat):LJ
 | mk (y:ι) (c:C y) (h:N y<n):Jw N C M V n (M y) (V y)
inductive Jf {β γ:Type} (C:List β->γ->Prop) (M:List β->γ->HL) (V:List β->γ->List MV) (l:List β):LJ
 | mk (s:γ) (c:C l s):Jf C M V l (M l s) (V l s)
structure Kd where
 D:Type 1
 α:D->Type
 C:(d:D)->α d->List LJ
structure VD where
 c:AV->Prop
 v:AV
 h:c v
set_option genCtorIdx true in
structure Chk where
 {α:Type}
 a:α
 b:α
noncomputable def EqA:List Chk->Prop
 | []=>True
 | c::A=>c.a=c.b∧EqA A
structure HD where
 f:HL->HL×List Chk
 h:∀ L,EqA (f L).2->∀ σ,H σ L->H σ (f L).1
structure LD where
 x:Str
 a:AV
 b:AV
 h:a=b
structure OD where
 p:Prop
 q:Prop
 h:p∨q
structure XD where
 α:Type
 R:α->Prop
 h:∃ x,R x
structure CD (P:Params) where
 n:Nat
 a:Addr
 xs:List AV
 A:HL
 p:Post
 z:Bool
 dd:Nat->Nat
 fr:HL->HL
 h:CF P n a xs A p z
structure WD where
 ι:Type
 N:ι->Nat
 C:ι->Prop
 M:ι->HL
 V:ι->List MV
 x:ι
 h:C x
structure FD (X:Type) where
 β:Type
 γ:Type
 f:β->AV
 C:List β->γ->Prop
 M:List β->γ->HL
 V:List β->γ->List X
 l:List β
 s:γ
 h:C l s
structure GD (Λ:List LJ) where
 k:Nat
 J:LJ
 M:HL
 V:List MV
 e:Λ[k]?=some J
 h:J M V
structure ND (p:Post) where
 x:p.α
 h:p.R x
 M:HL
 o:Out
 eM:M=p.M x
 eo:o=p.o x
structure FD.B {X:Type} (d:FD X) where
 x:d.β
 l:List d.β
 s:d.γ
 h:d.C (x::l) s
section
variable (P:Params) (Po:Post) (Λ:List LJ)
noncomputable def kone (D:Type 1):Kd:=⟨D,fun U=>Unit,fun U U=>Λ⟩
noncomputable def FD.J {X:Type} (g:X->MV) (d:FD X) (l:List d.β):LJ:=Jf d.C d.M (fun l s=>(d.V l s).map g) l
noncomputable def kfor {X:Type} (g:X->MV):Kd:=⟨FD X,fun d=>{s:d.γ // d.C [] s} ⊕ d.B,fun d i=>i.elim (fun U=>Λ) fun x=>d.J g x.l::Λ⟩
noncomputable def kd (k:Nat):Kd:=match k with
 | 0=>⟨ULift (ND Po),fun U=>Empty,fun U i=>i.elim⟩
 | 1=>kone Λ (ULift Nat)
 | 2 | 3 | 4 | 5 | 6 | 13 | 19 | 20=>kone Λ (ULift VD)
 | 7=>kone Λ HD
 | 8=>⟨ULift Unit,fun U=>Nat,fun U U=>Λ⟩
 | 9=>⟨ULift OD,fun d=>PLift d.down.p ⊕ PLift d.down.q,fun U U=>Λ⟩
 | 10=>⟨XD,fun d=>{x:d.α // d.R x},fun U U=>Λ⟩
 | 12=>⟨CD P,fun d=>{x:d.p.α // d.p.R x},fun U U=>Λ⟩
 | 14=>⟨WD,fun d=>{x:d.ι // d.C x},fun d x=>Jw d.N d.C d.M d.V (d.N x.1)::Λ⟩
 | 15=>kfor Λ (X:=MV) id
 | 16=>kfor Λ MV.v
 | 18=>kone Λ (ULift LD)
 | 17=>⟨ULift (GD Λ),fun U=>Empty,fun U i=>i.elim⟩
 | _=>kone Λ (ULift Unit)
end
inductive Hn (P:Params) (Po:Post):List LJ->Type 1
 | sup {Λ:List LJ} (k:Nat) (p:(kd P Po Λ k).D) (r:∀ i,Hn P Po ((kd P Po Λ k).C p i)):Hn P Po Λ
noncomputable def castK {F:Nat->Type _} {j:Nat} (k:Nat) (x:F j):Option (F k):=match Nat.decEq j k with
 | .isTrue h=>some (h▸x)
 | .isFalse _=>none
theorem castK_some {F:Nat->Type _} {X:∀ k,F k->Prop} {j k:Nat} {x:F j} {y:F k} (e:castK k x=some y) (h:X j x):X k y:=by
 unfold castK at e
 induction z:Nat.decEq j k using Decidable.casesOn with
 | isFalse h=>rw [z] at e; injection e
 | isTrue i=>rw [z] at e; subst i; (injection e with e1; subst e1); exact h
section
variable {P:Params} {Po:Post} {Λ:List LJ}
noncomputable abbrev Nd (P:Params) (Po:Post) (Λ:List LJ) (k:Nat):=PSigma fun p:(kd P Po Λ k).D=>∀ i,Hn P Po ((kd P Po Λ k).C p i)
noncomputable def Hn.get (k:Nat) (h:Hn P Po Λ):Option (Nd P Po Λ k):=Hn.casesOn (motive:=fun Λ U=>Option (Nd P Po Λ k)) h fun U p r=>castK (F:=Nd P Po _) k ⟨p,r⟩
noncomputable def Hn.fe (x:Po.α) (h:Po.R x) {M:HL} {o:Out} (eM:M=Po.M x) (eo:o=Po.o x):Hn P Po Λ:=.sup 0 ⟨⟨x,h,M,o,eM,eo⟩⟩ nofun
noncomputable def Hn.fin (x:Po.α) (h:Po.R x):Hn P Po Λ:=.fe x h rfl rfl
noncomputable def Hn.pl (k:Nat) (r:Hn P Po Λ):Hn P Po Λ:=.sup 1 ⟨k⟩ fun U=>r
noncomputable def Hn.v {c:AV->Prop} {v:AV} (h:c v) (r:Hn P Po Λ):Hn P Po Λ:=.sup 2 ⟨⟨c,v,h⟩⟩ fun U=>r
noncomputable def Hn.fa {p:Prop} (h:p) (r:Hn P Po Λ):Hn P Po Λ:=.sup 2 ⟨⟨fun U=>p,.none,h⟩⟩ fun U=>r
noncomputable def Hn.bi {op:Operator} {a b v:AV} (h:BinS op a b v) (r:Hn P Po Λ):Hn P Po Λ:=.sup 3 ⟨⟨BinS op a b,v,h⟩⟩ fun U=>r
noncomputable def Hn.as {a b:AV} (h:a=b) (r:Hn P Po Λ):Hn P Po Λ:=.sup 4 ⟨⟨Eq a,b,h⟩⟩ fun U=>r
noncomputable def Hn.is {a b:Bool} (h:a=b) (r:Hn P Po Λ):Hn P Po Λ:=.sup 5 ⟨⟨Eq (.bool a),.bool b,congrArg AV.bool h⟩⟩ fun U=>r
noncomputable def Hn.tr {a b:Bool} (h:a=b) (r:Hn P Po Λ):Hn P Po Λ:=.sup 19 ⟨⟨Eq (.bool a),.bool b,congrArg AV.bool h⟩⟩ fun U=>r
noncomputable def Hn.cp {c:AV->Prop} {v:AV} (h:c v) (r:Hn P Po Λ):Hn P Po Λ:=.sup 6 ⟨⟨c,v,h⟩⟩ fun U=>r
noncomputable def Hn.ch {c:AV->Prop} {v:AV} (h:c v) (r:Hn P Po Λ):Hn P Po Λ:=.sup 20 ⟨⟨c,v,h⟩⟩ fun U=>r
noncomputable def Hn.ix {c:AV->Prop} {v:AV} (h:c v) (r:Hn P Po Λ):Hn P Po Λ:=.sup 13 ⟨⟨c,v,h⟩⟩ fun U=>r
noncomputable def Hn.hs (d:HD) (r:Hn P Po Λ):Hn P Po Λ:=.sup 7 d fun U=>r
noncomputable def Hn.hp {L M:HL} (h:∀ σ,H σ L->H σ M) (r:Hn P Po Λ):Hn P Po Λ:=.hs ⟨fun K=>(M,[⟨K,L⟩]),fun K e σ z=>h σ ((show K=L from e.1)▸z)⟩ r
noncomputable def Hn.dr (k:Nat) (r:Hn P Po Λ):Hn P Po Λ:=.hs ⟨fun K=>(K.eraseIdx k,[]),fun K U σ z=>z.sub (List.eraseIdx_sublist ..)⟩ r
noncomputable def mvO (k:Nat) (K:HL):HL×List Chk:=match K[k]? with
 | some e=>(e::K.eraseIdx k,[])
 | none=>(K,[])
theorem perm_mv {α:Type}:∀ {l:List α} {k:Nat} {x:α},l[k]?=some x->l.Perm (x::l.eraseIdx k)
 | _::_,0,_,h=>by (injection h with e1; subst e1); exact .refl _
 | y::t,n+1,x,h=>show (y::t).Perm (x::y::t.eraseIdx n) from ((perm_mv (l:=t) h).cons y).trans (.swap x y _)
theorem mvO_ok {k:Nat} (K:HL) (σ:AHeap) (z:H σ K):H σ (mvO k K).1:=by
 unfold mvO
 induction q:K[k]? using Option.casesOn with
 | none=>exact z
 | some x=>exact z.perm (perm_mv q)
noncomputable def Hn.mv (k:Nat) (r:Hn P Po Λ):Hn P Po Λ:=.hs ⟨mvO k,fun K U=>mvO_ok K⟩ r
noncomputable def edO (k:Nat) (o o':AObj) (K:HL):HL×List Chk:=match K[k]? with
 | some e=>(K.set k (e.1,o'),[⟨e.2,o⟩])
 | none=>(K,[])
theorem set_self {α:Type}:∀ {l:List α} {k:Nat} {x:α},l[k]?=some x->l.set k x=l
 | _::_,0,_,h=>by (injection h with e1; subst e1); rfl
 | _::l,_+1,_,h=>congrArg _ (set_self (l:=l) h)
theorem edO_ok {k:Nat} {o o':AObj} (e:o=o') (K:HL) (h:EqA (edO k o o' K).2) (σ:AHeap) (z:H σ K):H σ (edO k o o' K).1:=by
 unfold edO at h ⊢
 induction q:K[k]? using Option.casesOn with
 | none=>exact z
 | some x=>
  rw [q] at h
  have h:o'=x.2:=e▸h.1.symm
  subst h
  show H σ (K.set k x)
  rw [set_self q]; exact z
noncomputable def Hn.ed (k:Nat) {o o':AObj} (e:o=o') (r:Hn P Po Λ):Hn P Po Λ:=.hs ⟨edO k o o',edO_ok e⟩ r
noncomputable def Hn.lv (x:Str) {a b:AV} (h:a=b) (r:Hn P Po Λ):Hn P Po Λ:=.sup 18 ⟨⟨x,a,b,h⟩⟩ fun U=>r
noncomputable def Hn.nw (r:Nat->Hn P Po Λ):Hn P Po Λ:=.sup 8 ⟨()⟩ r
noncomputable def Hn.or {p q:Prop} (h:p∨q) (f:p->Hn P Po Λ) (g:q->Hn P Po Λ):Hn P Po Λ:=.sup 9 ⟨⟨p,q,h⟩⟩ fun i=>i.casesOn (fun x=>f x.down) fun x=>g x.down
noncomputable def Hn.ex {α:Type} {R:α->Prop} (h:∃ x,R x) (f:∀ x,R x->Hn P Po Λ):Hn P Po Λ:=.sup 10 ⟨α,R,h⟩ fun x=>f x.1 x.2
noncomputable def Hn.il (r:Hn P Po Λ):Hn P Po Λ:=.sup 11 ⟨()⟩ fun U=>r
section
variable {n:Nat} {a:Addr} {xs:List AV} {A M:HL} {o:Out} {p:Post} {z:Bool}
noncomputable def Hn.ck (dd:Nat->Nat) (h:CF P n a xs A p z) (r:∀ x,p.R x->Hn P Po Λ):Hn P Po Λ:=.sup 12 ⟨n,a,xs,A,p,z,dd,fun L=>L.drop A.length,h⟩ fun x=>r x.1 x.2
noncomputable def Hn.cg (G:HL) (dd:Nat->Nat) (h:CF P n a xs A p z) (r:∀ x,p.R x->Hn P Po Λ):Hn P Po Λ:=.sup 12 ⟨n,a,xs,A,p,z,dd,fun U=>G,h⟩ fun x=>r x.1 x.2
noncomputable def Hn.cx (h:CF P n a xs A p z) (r:∀ x,p.R x->Hn P Po Λ):Hn P Po Λ:=.ck (fun d=>d - n) h r
noncomputable def Hn.ca (h:CF P n a xs A (.one M o) z) (r:Hn P Po Λ):Hn P Po Λ:=.cx h fun U U=>r
end
noncomputable def Hn.wh {ι:Type} (N:ι->Nat) (C:ι->Prop) (M:ι->HL) (V:ι->List MV) (x:ι) (h:C x) (t:∀ x,C x->Hn P Po (Jw N C M V (N x)::Λ)):Hn P Po Λ:=.sup 14 ⟨ι,N,C,M,V,x,h⟩ fun x=>t x.1 x.2
section
variable {X β γ:Type} (f:β->AV) (C:List β->γ->Prop) (M:List β->γ->HL) (V:List β->γ->List MV) (Y:List β->γ->List AV) (l:List β) (s:γ) (h:C l s) (e:∀ s,C [] s->Hn P Po Λ)
noncomputable def Hn.fr (t:∀ x l s,C (x::l) s->Hn P Po (Jf C M (fun l s=>(V l s).map id) l::Λ)):Hn P Po Λ:=.sup 15 ⟨β,γ,f,C,M,V,l,s,h⟩ fun i=>i.casesOn (fun x=>e x.1 x.2) fun x=>t x.x x.l x.s x.h
noncomputable def Hn.cm (t:∀ x l s,C (x::l) s->Hn P Po (Jf C M (fun l s=>(Y l s).map .v) l::Λ)):Hn P Po Λ:=.sup 16 ⟨β,γ,f,C,M,Y,l,s,h⟩ fun i=>i.casesOn (fun x=>e x.1 x.2) fun x=>t x.x x.l x.s x.h
end
noncomputable def Hn.go (k:Nat) {J:LJ} (e:Λ[k]?=some J) {M:HL} {V:List MV} (h:J M V):Hn P Po Λ:=.sup 17 ⟨⟨k,J,M,V,e,h⟩⟩ nofun
noncomputable def Hn.gq (k:Nat) {J:LJ} (e:Λ[k]?=some J) {M:HL} {V W:List AV} (q:W=V) (h:J M (V.map .v)):Hn P Po Λ:=.go k e (M:=M) (V:=W.map .v) (q▸h)
end
inductive Tr:Type 1
 | lf (A:List Chk)
 | n1 (A:List Chk) (α:Type) (f:α->Tr)
 | nd (A:List Chk) (α:Type) (f:α->Tr) (β:Type) (g:β->Tr)
noncomputable def Tr.ctorIdx:Tr->Nat:=fun t=>Tr.casesOn t (fun U=>0) (fun U U U=>1) (fun U U U U U=>2)
noncomputable def Tr.sd (k:Chk->Chk) (t:Tr):Tr:=Tr.rec (motive:=fun U=>Tr) (fun A=>.lf (A.map k)) (fun A α U f=>.n1 (A.map k) α f) (fun A α U β U f g=>.nd (A.map k) α f β g) t
noncomputable def Chk.l (c:Chk):Chk:=⟨c.a,c.a⟩
noncomputable def Chk.r (c:Chk):Chk:=⟨c.b,c.b⟩
noncomputable abbrev Good (t:Tr):Prop:=t.sd Chk.l=t.sd Chk.r
theorem eqA_of:∀ {A:List Chk},A.map Chk.l=A.map Chk.r->EqA A
 | [],_=>trivial
 | c::A,h=>⟨eq_of_heq (Chk.mk.inj (List.cons.inj h).1).2.1,eqA_of (List.cons.inj h).2⟩
theorem good_nd {A:List Chk} {α β:Type} {f:α->Tr} {g:β->Tr} (h:Good (.nd A α f β g)):EqA A∧(∀ x,Good (f x))∧∀ y,Good (g y):=by
 obtain ⟨h1,h2,h3,h4,h5⟩:=Tr.nd.inj h
 exact ⟨eqA_of h1,congrFun (eq_of_heq h3),congrFun (eq_of_heq h5)⟩
theorem good_n1 {A:List Chk} {α:Type} {f:α->Tr} (h:Good (.n1 A α f)):EqA A∧∀ x,Good (f x):=by
 obtain ⟨h1,h2,h3⟩:=Tr.n1.inj h
 exact ⟨eqA_of h1,congrFun (eq_of_heq h3)⟩
theorem good_lf {A:List Chk} (h:Good (.lf A)):EqA A:=eqA_of (Tr.lf.inj h)
noncomputable def bad:Tr:=.lf [⟨0,1⟩]
theorem bad_no {B:Prop} (h:Good bad):B:=absurd (good_lf h).1 (by decide)
noncomputable def onO {α:Type _} (o:Option α) (f:α->Tr):Tr:=match o with
 | some x=>f x
 | none=>bad
theorem onO_ok {α:Type _} {o:Option α} {f:α->Tr} {B:Prop} (g:Good (onO o f)) (k:∀ x,o=some x->Good (f x)->B):B:=match o,g,k with
 | some x,g,k=>k x rfl g
 | none,g,_=>bad_no g
noncomputable def onH {α:Type _} (A:List Chk) (o:Option α) (f:α->Tr):Tr:=match o with
 | some x=>f x
 | none=>.lf (⟨0,1⟩::A)
theorem onH_ok {α:Type _} {A:List Chk} {o:Option α} {f:α->Tr} {B:Prop} (g:Good (onH A o f)) (k:∀ x,o=some x->Good (f x)->B):B:=match o,g,k with
 | some x,g,k=>k x rfl g
 | none,g,_=>absurd (good_lf g).1 (by decide)
noncomputable def onB (b:Bool) (t:Tr):Tr:=match b with
 | true=>t
 | false=>bad
theorem onB_ok {b:Bool} {t:Tr} {B:Prop} (g:Good (onB b t)) (k:b=true->Good t->B):B:=match b,g,k with
 | true,g,k=>k rfl g
 | false,g,_=>bad_no g
section
variable {P:Params} {Po:Post}
structure St (P:Params) (Po:Post) where
 {Λ:List LJ}
 L:HL
 h:Hn P Po Λ
 A:List Chk
noncomputable def St.nh (s:St P Po) {Λ:List LJ} (h:Hn P Po Λ):St P Po:=⟨s.L,h,s.A⟩
noncomputable def St.chk (s:St P Po) {α:Type} (a b:α):St P Po:=⟨s.L,s.h,⟨a,b⟩::s.A⟩
noncomputable def St.wL (s:St P Po) (L:HL):St P Po:=⟨L,s.h,s.A⟩
noncomputable abbrev Ok (s:St P Po) (S:AHeap->Prop):Prop:=EqA s.A∧SP s.L S
variable {s:St P Po} {S:AHeap->Prop}
theorem Ok.out {α:Type} {a b:α} (o:Ok (s.chk a b) S):a=b∧Ok s S:=⟨o.1.1,o.1.2,o.2⟩
theorem Ok.im {S':AHeap->Prop} (o:Ok s S) (f:∀ σ,H σ s.L->S σ->S' σ):Ok s S':=⟨o.1,fun σ h=>f σ h (o.2 σ h)⟩
noncomputable abbrev KE (P:Params) (Po:Post):=AV->St P Po->Tr
noncomputable abbrev KX (P:Params) (Po:Post):=Nat->St P Po->Tr
noncomputable abbrev KB (P:Params) (Po:Post):=Bool->St P Po->Tr
noncomputable def KOf {α:Type} (K:α->St P Po->Tr) (Q:α->AHeap->Prop):Prop:=∀ v s,Good (K v s)->Ok s (Q v)
noncomputable def St.tk (s:St P Po) (x:Nd P Po s.Λ 2) (c:AV->Prop) (f:KE P Po):Tr:=f x.1.down.v ((s.nh (x.2 ())).chk x.1.down.c c)
theorem Ok.tk {x:Nd P Po s.Λ 2} {c:AV->Prop} {f:AV->St P Po->Tr} {Q:AV->AHeap->Prop} {B:Prop} (g:Good (s.tk x c f)) (k:KOf f Q) (z:∀ v,c v->Ok s (Q v)->B):B:=
 have o:=Ok.out (k _ _ g)
 z x.1.down.v (o.1▸x.1.down.h) o.2
noncomputable def St.v (s:St P Po) (c:AV->Prop) (f:AV->St P Po->Tr):Tr:=onH [⟨c,c⟩,⟨s.L,s.L⟩] (s.h.get 2) fun x=>s.tk x c f
theorem Ok.v {c:AV->Prop} {f:AV->St P Po->Tr} {Q:AV->AHeap->Prop} {B:Prop} (g:Good (s.v c f)) (k:KOf f Q) (z:∀ v,c v->Ok s (Q v)->B):B:=onH_ok g fun U U g=>Ok.tk g k z
noncomputable def St.fa (s:St P Po) (p:Prop) (f:St P Po->Tr):Tr:=s.v (fun U=>p) fun U s=>f s
theorem Ok.fa {p:Prop} {f:St P Po->Tr} {B:Prop} (g:Good (s.fa p f)) (k:∀ s,Good (f s)->Ok s S) (z:p->Ok s S->B):B:=Ok.v (Q:=fun U=>S) g (fun U=>k) fun U=>z
noncomputable def onE {α:Type _} (o:Option α) (t:Tr) (f:α->Tr):Tr:=match o with
 | some x=>f x
 | none=>t
theorem onE_ok {α:Type _} {o:Option α} {t:Tr} {f:α->Tr} {B:Prop} (g:Good (onE o t f)) (k:∀ x,o=some x->Good (f x)->B) (z:Good t->B):B:=match o,g,k with
 | some x,g,k=>k x rfl g
 | none,g,_=>z g
noncomputable def St.as (s:St P Po) (v:AV) (f:KE P Po):Tr:=onE (s.h.get 4) (f v s) fun x=>s.tk x (Eq v) f
theorem Ok.as {v:AV} {f:KE P Po} {Q:EQ} (g:Good (s.as v f)) (k:KOf f Q):Ok s (Q v):=onE_ok g (fun U U g=>Ok.tk g k fun U e o=>e▸o) (k _ _)
noncomputable def bv:AV->Option Bool
 | .bool b=>some b
 | _=>none
theorem bv_eq {v:AV} {b:Bool} (e:bv v=some b):v=.bool b:=by induction v using AV.casesOn <;> (first | (injection e; done) | (injection e with e1; subst e1)); rfl
noncomputable def St.iz (s:St P Po) (x:Option (Nd P Po s.Λ 2)) (v:Bool) (f:KB P Po):Tr:=onE x (f v s) fun x=>s.tk x (Eq (.bool v)) fun w s=>onO (bv w) fun b=>f b s
noncomputable def St.is (s:St P Po) (v:Bool) (f:KB P Po):Tr:=s.iz (s.h.get 5) v f
theorem Ok.is {x:Option (Nd P Po s.Λ 2)} {v:Bool} {f:KB P Po} {Q:Bool->AHeap->Prop} (g:Good (s.iz x v f)) (k:KOf f Q):Ok s (Q v):=onE_ok g
 (fun U U g=>Ok.tk (Q:=fun w σ=>∀ b,w=.bool b->Q b σ) g (fun w s g=>onO_ok g fun b hb g=>have o:=k _ _ g; ⟨o.1,fun σ h c hc=>by cases (bv_eq hb).symm.trans hc; exact o.2 σ h⟩)
  fun w e o=>⟨o.1,fun σ h=>o.2 σ h v e.symm⟩) (k _ _)
noncomputable def St.vo (s:St P Po) (c:AV->Prop) (o:Option AV) (f:KE P Po):Tr:=onE (s.h.get 13) (onO o fun v=>f v s) fun x=>s.tk x c f
theorem Ok.vo {c:AV->Prop} {o:Option AV} {f:KE P Po} {Q:EQ} {B:Prop} (g:Good (s.vo c o f)) (ho:∀ v,o=some v->c v) (k:KOf f Q) (z:∀ v,c v->Ok s (Q v)->B):B:=onE_ok g (fun U U g=>Ok.tk g k z) fun g=>onO_ok g fun v hv g=>z v (ho v hv) (k _ _ g)
noncomputable def St.nw (s:St P Po) (o:AObj) (f:Nat->St P Po->Tr):Tr:=onH [⟨o,o⟩,⟨s.L,s.L⟩] (s.h.get 8) fun r=>.n1 s.A Nat fun i=>f i ⟨(i,o)::s.L,r.2 i,[]⟩
theorem Ok.nw {o:AObj} {f:Nat->St P Po->Tr} {Q:Nat->AHeap->Prop} (g:Good (s.nw o f)) (k:KOf f Q):EqA s.A∧∀ i,SP ((i,o)::s.L) (Q i):=onH_ok g fun r U g=>
 have g:=good_n1 g
 ⟨g.1,fun i=>(k _ _ (g.2 i)).2⟩
noncomputable def St.ob (s:St P Po) (i:Nat) (f:Nat->AObj->St P Po->Tr):Tr:=onH [⟨i,i⟩,⟨s.L,s.L⟩] (s.h.get 1) fun x=>onO s.L[x.1.down]? fun e=>f x.1.down e.2 ((s.nh (x.2 ())).chk i e.1)
theorem Ok.ob {i:Nat} {f:Nat->AObj->St P Po->Tr} (g:Good (s.ob i f)) {B:Prop} (k:∀ k o s',s'.L=s.L->Good (f k o s')->(∀ S,Ok s' S->s.L[k]?=some (i,o)∧Ok s S)->B):B:=
 onH_ok g fun x U g=>onO_ok g fun e he g=>k x.1.down e.2 ((s.nh (x.2 ())).chk i e.1) rfl g fun S o=>have o:=Ok.out o; ⟨o.1▸he,o.2⟩
noncomputable abbrev PT' (P:Params) (Po:Post):=HL->List Chk->(St P Po->Tr)->Tr
noncomputable abbrev Nq (P:Params) (Po:Post) (Λ:List LJ) (k:Nat):=PSigma fun p:(kd P Po Λ k).D=>(kd P Po Λ k).α p->PT' P Po
noncomputable def pre {Λ:List LJ} (h:Hn P Po Λ):PT' P Po:=Hn.rec (motive:=fun Λ U=>PT' P Po) (fun {Λ} k p r ih L A f=>
 onE (castK (F:=Nq P Po Λ) 7 ⟨p,ih⟩) (onE (castK (F:=Nq P Po Λ) 9 ⟨p,ih⟩) (onE (castK (F:=Nq P Po Λ) 10 ⟨p,ih⟩) (f ⟨L,.sup k p r,A⟩)
  fun x=>.n1 A {y:x.1.α // x.1.R y} fun y=>x.2 y L [] f)
  fun x=>.nd A (PLift x.1.down.p) (fun y=>x.2 (.inl y) L [] f) (PLift x.1.down.q) fun y=>x.2 (.inr y) L [] f)
  fun x=>x.2 () (x.1.f L).1 ((x.1.f L).2++A) f) h
noncomputable def PreOk (S:AHeap->Prop) (t:PT' P Po):Prop:=∀ {L A f},Good (t L A f)->(∀ s,Good (f s)->Ok s S)->EqA A∧SP L S
theorem eqA_app:∀ {A B:List Chk},EqA (A++B)->EqA A∧EqA B
 | [],_,h=>⟨trivial,h⟩
 | _::_,_,h=>have q:=eqA_app h.2; ⟨⟨h.1,q.1⟩,q.2⟩
theorem pre_hp {Λ:List LJ} {x:Nq P Po Λ 7} {L:HL} {A:List Chk} {f:St P Po->Tr} (h:∀ i,PreOk S (x.2 i)) (g:Good (x.2 () (x.1.f L).1 ((x.1.f L).2++A) f)) (K:∀ s,Good (f s)->Ok s S):EqA A∧SP L S:=
 have o:=h () g K
 have e:=eqA_app o.1
 ⟨e.2,fun σ z=>o.2 σ (x.1.h L e.1 σ z)⟩
theorem pre_or {Λ:List LJ} {x:Nq P Po Λ 9} {L:HL} {A:List Chk} {f:St P Po->Tr} (h:∀ i,PreOk S (x.2 i)) (g:Good (.nd A (PLift x.1.down.p) (fun y=>x.2 (.inl y) L [] f) (PLift x.1.down.q) fun y=>x.2 (.inr y) L [] f)) (K:∀ s,Good (f s)->Ok s S):EqA A∧SP L S:=
 have g:=good_nd g
 ⟨g.1,x.1.down.h.elim (fun z=>(h _ (g.2.1 ⟨z⟩) K).2) fun z=>(h _ (g.2.2 ⟨z⟩) K).2⟩
theorem pre_ex {Λ:List LJ} {x:Nq P Po Λ 10} {L:HL} {A:List Chk} {f:St P Po->Tr} (h:∀ i,PreOk S (x.2 i)) (g:Good (.n1 A {y:x.1.α // x.1.R y} fun y=>x.2 y L [] f)) (K:∀ s,Good (f s)->Ok s S):EqA A∧SP L S:=
 have g:=good_n1 g
 ⟨g.1,x.1.h.elim fun y z=>(h _ (g.2 ⟨y,z⟩) K).2⟩
noncomputable abbrev Xq (P:Params) (Po:Post) (S:AHeap->Prop) (Λ:List LJ) (k:Nat) (x:Nq P Po Λ k):Prop:=∀ i,PreOk S (x.2 i)
theorem pre_ok {Λ:List LJ} {h:Hn P Po Λ}:PreOk S (pre h):=Hn.rec (motive:=fun Λ h=>PreOk S (pre h)) (fun {Λ} k p r ih {L A f} g K=>
 onE_ok g (fun x e g=>pre_hp (castK_some (X:=Xq P Po S Λ) e ih) g K) fun g=>
 onE_ok g (fun x e g=>pre_or (castK_some (X:=Xq P Po S Λ) e ih) g K) fun g=>
 onE_ok g (fun x e g=>pre_ex (castK_some (X:=Xq P Po S Λ) e ih) g K) fun g=>K _ g) h
noncomputable def St.pre (s:St P Po) (f:St P Po->Tr):Tr:=Mine.pre s.h s.L s.A f
theorem Ok.pre {f:St P Po->Tr} (g:Good (s.pre f)) (k:∀ s,Good (f s)->Ok s S):Ok s S:=pre_ok (h:=s.h) g k
end
end Mine
namespace Mine
open PySem PySem.W PyProof.Rows
section
variable {B:Prop}
noncomputable def onI (v:AV) (f:Int->Tr):Tr:=match v with
 | .int i=>f i
 | _=>bad
theorem onI_ok {v:AV} {f:Int->Tr} (g:Good (onI v f)) (k:∀ i,v=.int i->Good (f i)->B):B:=by induction v using AV.casesOn <;> first | exact bad_no g | exact k _ rfl g
noncomputable def onS (v:AV) (f:Str->Tr):Tr:=match v with
 | .str i=>f i
 | _=>bad
theorem onS_ok {v:AV} {f:Str->Tr} (g:Good (onS v f)) (k:∀ i,v=.str i->Good (f i)->B):B:=by induction v using AV.casesOn <;> first | exact bad_no g | exact k _ rfl g
noncomputable def onR (v:AV) (f:Nat->Tr):Tr:=match v with
 | .ref i=>f i
 | _=>bad
theorem onR_ok {v:AV} {f:Nat->Tr} (g:Good (onR v f)) (k:∀ i,v=.ref i->Good (f i)->B):B:=by induction v using AV.casesOn <;> first | exact bad_no g | exact k _ rfl g
noncomputable def onT (v:AV) (f:List AV->Tr):Tr:=match v with
 | .tup i=>f i
 | _=>bad
theorem onT_ok {v:AV} {f:List AV->Tr} (g:Good (onT v f)) (k:∀ i,v=.tup i->Good (f i)->B):B:=by induction v using AV.casesOn <;> first | exact bad_no g | exact k _ rfl g
noncomputable def onL (o:AObj) (f:List AV->Tr):Tr:=match o with
 | .list i=>f i
 | _=>bad
theorem onL_ok {o:AObj} {f:List AV->Tr} (g:Good (onL o f)) (k:∀ i,o=.list i->Good (f i)->B):B:=by induction o using AObj.casesOn <;> first | exact bad_no g | exact k _ rfl g
noncomputable def onD (o:AObj) (f:List (AV×AV)->Tr):Tr:=match o with
 | .dict i=>f i
 | _=>bad
theorem onD_ok {o:AObj} {f:List (AV×AV)->Tr} (g:Good (onD o f)) (k:∀ i,o=.dict i->Good (f i)->B):B:=by induction o using AObj.casesOn <;> first | exact bad_no g | exact k _ rfl g
noncomputable def elS (v:AV) (f:Str->Tr) (t:Tr):Tr:=match v with
 | .str i=>f i
 | _=>t
theorem elS_ok {v:AV} {f:Str->Tr} {t:Tr} (g:Good (elS v f t)) (k:∀ i,v=.str i->Good (f i)->B) (z:Good t->B):B:=by induction v using AV.casesOn <;> first | exact z g | exact k _ rfl g
noncomputable def elL (v:AV) (f:List AV->Tr) (t:Tr):Tr:=match v with
 | .lst i=>f i
 | _=>t
theorem elL_ok {v:AV} {f:List AV->Tr} {t:Tr} (g:Good (elL v f t)) (k:∀ i,v=.lst i->Good (f i)->B) (z:Good t->B):B:=by induction v using AV.casesOn <;> first | exact z g | exact k _ rfl g
noncomputable def elT (v:AV) (f:List AV->Tr) (t:Tr):Tr:=match v with
 | .tup i=>f i
 | _=>t
theorem elT_ok {v:AV} {f:List AV->Tr} {t:Tr} (g:Good (elT v f t)) (k:∀ i,v=.tup i->Good (f i)->B) (z:Good t->B):B:=by induction v using AV.casesOn <;> first | exact z g | exact k _ rfl g
noncomputable def el0 (v:AV) (f:Tr) (t:Tr):Tr:=match v with
 | .none=>f
 | _=>t
theorem el0_ok {v:AV} {f:Tr} {t:Tr} (g:Good (el0 v f t)) (k:v=.none->Good f->B) (z:Good t->B):B:=by induction v using AV.casesOn <;> first | exact z g | exact k rfl g
noncomputable def elI (v:AV) (f:Int->Tr) (t:Tr):Tr:=match v with
 | .int i=>f i
 | _=>t
theorem elI_ok {v:AV} {f:Int->Tr} {t:Tr} (g:Good (elI v f t)) (k:∀ i,v=.int i->Good (f i)->B) (z:Good t->B):B:=by induction v using AV.casesOn <;> first | exact z g | exact k _ rfl g
noncomputable def onN (i:Int) (f:Nat->Tr):Tr:=match i with
 | .ofNat n=>f n
 | .negSucc _=>bad
theorem onN_ok {i:Int} {f:Nat->Tr} (g:Good (onN i f)) (k:∀ n:Nat,i=n->Good (f n)->B):B:=by induction i using Int.casesOn <;> first | exact bad_no g | exact k _ rfl g
noncomputable def on1 {α:Type _} (l:List α) (f:α->Tr):Tr:=match l with
 | [a]=>f a
 | _=>bad
theorem on1_ok {α:Type _} {l:List α} {f:α->Tr} (g:Good (on1 l f)) (k:∀ a,l=[a]->Good (f a)->B):B:=match l,g,k with
 | [a],g,k=>k a rfl g
 | [],g,_=>bad_no g
 | _::_::_,g,_=>bad_no g
noncomputable def on2 {α:Type _} (l:List α) (f:α->α->Tr):Tr:=match l with
 | [a,b]=>f a b
 | _=>bad
theorem on2_ok {α:Type _} {l:List α} {f:α->α->Tr} (g:Good (on2 l f)) (k:∀ a b,l=[a,b]->Good (f a b)->B):B:=match l,g,k with
 | [a,b],g,k=>k a b rfl g
 | [],g,_=>bad_no g
 | [_],g,_=>bad_no g
 | _::_::_::_,g,_=>bad_no g
noncomputable def onZ {α:Type _} (l:List α) (t:Tr):Tr:=match l with
 | []=>t
 | _=>bad
theorem onZ_ok {α:Type _} {l:List α} {t:Tr} (g:Good (onZ l t)) (k:l=[]->Good t->B):B:=match l,g,k with
 | [],g,k=>k rfl g
 | _::_,g,_=>bad_no g
end
section
variable {P:Params} {Po:Post} {s:St P Po} {S A B:AHeap->Prop} {K:KE P Po} {Q:EQ} {E:EX} {z:Bool}
noncomputable def gNew (xs:List AV) (z:Bool) (s:St P Po) (K:KE P Po):Tr:=match z with
 | true=>s.as (.lst xs) K
 | false=>s.nw (.list xs) fun i s=>K (.ref i) s
theorem gNew_ok {xs:List AV} (g:Good (gNew xs z s K)) (k:KOf K Q):Ok s fun σ=>xs.length<=lim->NewL xs σ Q z:=by
 induction z using Bool.casesOn
 ·have o:=Ok.nw (Q:=fun i=>Q (.ref i)) g fun U=>k _
  exact ⟨o.1,fun σ h hl=>s_new hl o.2 σ h⟩
 ·exact (Ok.as g k).im fun U U q hl=>.f hl q
noncomputable def gNewF (xs:List AV) (z:Bool) (s:St P Po) (K:KE P Po):Tr:=s.fa (xs.length<=lim) fun s=>gNew xs z s K
theorem gNewF_ok {xs:List AV} (g:Good (gNewF xs z s K)) (k:KOf K Q):Ok s fun σ=>NewL xs σ Q z:=Ok.fa g (fun s g=>gNew_ok g k) fun hl o=>o.im fun U U q=>q hl
theorem headTail {L:HL} {e:Nat×AObj} (h:L.head?=some e):L=e::L.tail:=by induction L using List.casesOn <;> (first | (injection h; done) | (injection h with e1; subst e1)); rfl
noncomputable def gFrz (v:AV) (s:St P Po) (K:KE P Po):Tr:=onR v fun i=>onO s.L.head? fun e=>onL e.2 fun xs=>K (.lst xs) ((s.wL s.L.tail).chk i e.1)
theorem gFrz_ok {v:AV} (g:Good (gFrz v s K)) (k:KOf K Q):Ok s fun σ=>FreezeP σ Q v:=onR_ok g fun i hv g=>onO_ok g fun e he g=>onL_ok g fun xs ho g=>by
 have q:=Ok.out (k _ _ g)
 obtain ⟨j,o⟩:=e
 subst ho; cases q.1; subst hv
 refine ⟨q.2.1,?_⟩
 rw [headTail he]
 exact s_freeze q.2.2
noncomputable def gInts (f:Int->Int->Int) (a b:AV) (s:St P Po) (K:KE P Po):Tr:=onI a fun x=>onI b fun y=>s.as (.int (f x y)) K
theorem gInts_ok {f:Int->Int->Int} {a b:AV} {C:AV->AV->AHeap->Prop} (g:Good (gInts f a b s K)) (k:KOf K Q) (h:∀ x y σ,Q (.int (f x y)) σ->C (.int x) (.int y) σ):Ok s (C a b):=
 onI_ok g fun x ha g=>onI_ok g fun y hb g=>ha▸hb▸(Ok.as g k).im fun σ U=>h x y σ
noncomputable def gBin0 (z:Bool) (op:Operator) (a b:AV) (s:St P Po) (K:KE P Po):Tr:=match op with
 | .Add=>elL a (fun xs=>elL b (fun ys=>gNewF (xs++ys) z s K) bad) (gInts (·+·) a b s K)
 | .Sub=>gInts (· - ·) a b s K
 | .Mult=>elL a (fun xs=>on1 xs fun x=>onI b fun n=>onN n fun n=>s.fa (n<=1000) fun s=>gNewF (List.replicate n x) z s K) bad
 | _=>bad
theorem gBin0_ok {op:Operator} {a b:AV} (g:Good (gBin0 z op a b s K)) (k:KOf K Q):Ok s fun σ=>BinP z σ Q op a b:=by
 induction op using Operator.casesOn with
 | Add=>exact elL_ok g (fun xs ha g=>elL_ok g (fun ys hb g=>ha▸hb▸(gNewF_ok g k).im fun σ U q=>.al q) bad_no) fun g=>gInts_ok (C:=fun a b σ=>BinP z σ Q .Add a b) g k fun U U U q=>.ai q
 | Sub=>exact gInts_ok (C:=fun a b σ=>BinP z σ Q .Sub a b) g k fun U U U q=>.si q
 | Mult=>exact elL_ok g (fun xs ha g=>on1_ok g fun x hx g=>onI_ok g fun n hb g=>onN_ok g fun n hn g=>ha▸hx▸hb▸hn▸Ok.fa g (fun s g=>gNewF_ok g k) fun hl o=>o.im fun σ U q=>.ml hl q) bad_no
 | _=>exact bad_no g
noncomputable def gBin (z:Bool) (op:Operator) (a b:AV) (s:St P Po) (K:KE P Po):Tr:=onE (s.h.get 3) (gBin0 z op a b s K) fun x=>s.tk x (BinS op a b) K
theorem gBin_ok {op:Operator} {a b:AV} (g:Good (gBin z op a b s K)) (k:KOf K Q):Ok s fun σ=>BinP z σ Q op a b:=onE_ok g (fun U U g=>Ok.tk g k fun v h o=>o.im fun σ U q=>h z σ Q q) fun g=>gBin0_ok g k
noncomputable def gAug (op:Operator) (a b:AV) (s:St P Po) (K:KE P Po):Tr:=match op with
 | .Add=>gInts (·+·) a b s K
 | .Sub=>gInts (· - ·) a b s K
 | _=>bad
theorem gAug_ok {op:Operator} {a b:AV} (g:Good (gAug op a b s K)) (k:KOf K Q):Ok s fun σ=>AugP σ Q op a b:=by
 induction op using Operator.casesOn with
 | Add=>exact gInts_ok (C:=fun a b σ=>AugP σ Q .Add a b) g k fun U U U q=>.a q
 | Sub=>exact gInts_ok (C:=fun a b σ=>AugP σ Q .Sub a b) g k fun U U U q=>.s q
 | _=>exact bad_no g
variable {KB':KB P Po} {T:Bool->AHeap->Prop}
noncomputable def gTru (v:AV) (s:St P Po) (K:KB P Po):Tr:=match v with
 | .bool b=>s.iz (s.h.get 19) b K
 | .none=>K false s
 | _=>bad
theorem gTru_ok {v:AV} (g:Good (gTru v s KB')) (k:KOf KB' T):Ok s fun σ=>TruthP σ T v:=by
 induction v using AV.casesOn with
 | bool b=>exact (Ok.is g k).im fun U U q=>.b q
 | none=>exact (k _ _ g).im fun U U q=>.n q
 | _=>exact bad_no g
noncomputable def CmpH (L:HL) (op:CmpOp) (a b v:AV):Prop:=∃ r,v=.bool r∧∀ σ,H σ L->CmpR σ op a b r
noncomputable def CmpS (op:CmpOp) (a b v:AV):Prop:=∃ r,v=.bool r∧∀ σ,CmpR σ op a b r
noncomputable def strA:List AV->Option (List Str)
 | []=>some []
 | .str x::r=>(strA r).map (x::·)
 | _=>none
theorem strA_eq:∀ {l:List AV} {r:List Str},strA l=some r->l=r.map .str
 | [],r,h=>by (injection h with e1; subst e1); rfl
 | .str x::l,r,h=>by
  obtain ⟨t,ht,rfl⟩:=Option.map_eq_some_iff.mp h
  exact congrArg (_::·) (strA_eq ht)
noncomputable def gCmpT (s:St P Po) (x:Nd P Po s.Λ 2) (c:AV->Prop) (K:KB P Po):Tr:=s.tk x c fun v s=>onO (bv v) fun r=>K r s
theorem gCmpT_ok {x:Nd P Po s.Λ 2} {c:AV->Prop} {C:AHeap->Prop} (g:Good (gCmpT s x c KB')) (k:KOf KB' T) (h:∀ v r σ,c v->v=.bool r->H σ s.L->T r σ->C σ) (hc:∀ v,c v->∃ r,v=.bool r):Ok s C:=
 Ok.tk (Q:=fun v σ=>∀ r,v=.bool r->T r σ) g (fun v s g=>onO_ok g fun r hr g=>have o:=k _ _ g; ⟨o.1,fun σ h r' e=>by cases (bv_eq hr).symm.trans e; exact o.2 σ h⟩)
  fun v hv o=>(hc v hv).elim fun r e=>o.im fun σ z q=>h v r σ hv e z (q r e)
noncomputable def gCmpX (op:CmpOp) (a b:AV) (s:St P Po) (K:KB P Po):Tr:=onE (s.h.get 6) (onH [⟨op,op⟩,⟨a,a⟩,⟨b,b⟩,⟨s.L,s.L⟩] (s.h.get 20) fun x=>gCmpT s x (CmpH s.L op a b) K) fun x=>gCmpT s x (CmpS op a b) K
theorem gCmpX_ok {op:CmpOp} {a b:AV} (g:Good (gCmpX op a b s KB')) (k:KOf KB' T):Ok s fun σ=>CmpP op a b σ T:=
 onE_ok g (fun x U g=>gCmpT_ok g k (fun v r σ h e U q=>h.elim fun r' h=>by cases h.1.symm.trans e; exact ⟨h.2 σ,q⟩) fun v h=>h.elim fun r h=>⟨r,h.1⟩) fun g=>
 onH_ok g fun x U g=>gCmpT_ok g k (fun v r σ h e z q=>h.elim fun r' h=>by cases h.1.symm.trans e; exact ⟨h.2 σ z,q⟩) fun v h=>h.elim fun r h=>⟨r,h.1⟩
noncomputable def gEq (f:Bool->Bool) (op:CmpOp) (a b:AV) (s:St P Po) (K:KB P Po):Tr:=elS a (fun x=>elS b (fun y=>s.is (f (x==y)) K) (gCmpX op a b s K)) (elI a (fun x=>elI b (fun y=>s.is (f (x==y)) K) (gCmpX op a b s K)) (gCmpX op a b s K))
theorem gEq_ok {f:Bool->Bool} {op:CmpOp} {a b:AV} (g:Good (gEq f op a b s KB')) (k:KOf KB' T) (h:∀ σ a b r,EqR σ a b r->CmpR σ op a b (f r)):Ok s fun σ=>CmpP op a b σ T:=
 elS_ok g (fun x ha g=>elS_ok g (fun y hb g=>ha▸hb▸(Ok.is g k).im fun σ U q=>⟨h σ _ _ _ .s,q⟩) fun g=>gCmpX_ok g k) fun g=>elI_ok g (fun x ha g=>elI_ok g (fun y hb g=>ha▸hb▸(Ok.is g k).im fun σ U q=>⟨h σ _ _ _ .i,q⟩) fun g=>gCmpX_ok g k) fun g=>gCmpX_ok g k
noncomputable def gOrd (f:Int->Int->Bool) (a b:AV) (s:St P Po) (K:KB P Po):Tr:=onI a fun x=>onI b fun y=>s.is (f x y) K
theorem gOrd_ok {f:Int->Int->Bool} {op:CmpOp} {a b:AV} (g:Good (gOrd f a b s KB')) (k:KOf KB' T) (h:∀ x y σ,CmpR σ op (.int x) (.int y) (f x y)):Ok s fun σ=>CmpP op a b σ T:=
 onI_ok g fun x ha g=>onI_ok g fun y hb g=>ha▸hb▸(Ok.is g k).im fun σ U q=>⟨h x y σ,q⟩
noncomputable def gIn (f:Bool->Bool) (op:CmpOp) (a b:AV) (s:St P Po) (K:KB P Po):Tr:=elS a (fun x=>elT b (fun ys=>onO (strA ys) fun ys=>s.is (f (ys.any (·==x))) K) (elL b (fun ys=>onO (strA ys) fun ys=>s.is (f (ys.any (·==x))) K) (gCmpX op a b s K))) (gCmpX op a b s K)
theorem gIn_ok {f:Bool->Bool} {op:CmpOp} {a b:AV} (g:Good (gIn f op a b s KB')) (k:KOf KB' T) (h:∀ σ a b r,InR σ a b r->CmpR σ op a b (f r)):Ok s fun σ=>CmpP op a b σ T:=
 elS_ok g (fun x ha g=>elT_ok g (fun y hb g=>onO_ok g fun y hy g=>ha▸hb▸strA_eq hy▸(Ok.is g k).im fun σ U q=>⟨h σ _ _ _ .tt,q⟩) fun g=>elL_ok g (fun y hb g=>onO_ok g fun y hy g=>ha▸hb▸strA_eq hy▸(Ok.is g k).im fun σ U q=>⟨h σ _ _ _ .lt,q⟩) fun g=>gCmpX_ok g k) fun g=>gCmpX_ok g k
noncomputable def gCmp0 (op:CmpOp) (a b:AV) (s:St P Po) (K:KB P Po):Tr:=match op with
 | .Eq=>gEq id .Eq a b s K
 | .NotEq=>gEq (!·) .NotEq a b s K
 | .Lt=>gOrd (fun x y=>decide (x<y)) a b s K
 | .LtE=>gOrd (fun x y=>decide (x<=y)) a b s K
 | .Gt=>gOrd (fun x y=>decide (y<x)) a b s K
 | .GtE=>gOrd (fun x y=>decide (y<=x)) a b s K
 | .Is=>el0 b (s.is (isN a) K) bad
 | .IsNot=>el0 b (s.is (!isN a) K) bad
 | .In=>gIn id .In a b s K
 | .NotIn=>gIn (!·) .NotIn a b s K
theorem gCmp0_ok {op:CmpOp} {a b:AV} (g:Good (gCmp0 op a b s KB')) (k:KOf KB' T):Ok s fun σ=>CmpP op a b σ T:=by
 induction op using CmpOp.casesOn with
 | Eq=>exact gEq_ok g k fun U U U U=>.eq
 | NotEq=>exact gEq_ok g k fun U U U U=>.ne
 | Lt=>exact gOrd_ok g k fun U U U=>.lt
 | LtE=>exact gOrd_ok g k fun U U U=>.le
 | Gt=>exact gOrd_ok g k fun U U U=>.gt
 | GtE=>exact gOrd_ok g k fun U U U=>.ge
 | Is=>exact el0_ok g (fun h g=>h▸(Ok.is g k).im fun σ U q=>⟨.is,q⟩) bad_no
 | IsNot=>exact el0_ok g (fun h g=>h▸(Ok.is g k).im fun σ U q=>⟨.nis,q⟩) bad_no
 | In=>exact gIn_ok g k fun U U U U=>.inn
 | NotIn=>exact gIn_ok g k fun U U U U=>.nin
noncomputable def gCmp (op:CmpOp) (a b:AV) (s:St P Po) (K:KB P Po):Tr:=s.pre fun s=>gCmp0 op a b s K
theorem gCmp_ok {op:CmpOp} {a b:AV} (g:Good (gCmp op a b s KB')) (k:KOf KB' T):Ok s fun σ=>CmpP op a b σ T:=Ok.pre g fun s g=>gCmp0_ok g k
noncomputable def gIf (b:Bool) (t f:Tr):Tr:=match b with
 | true=>t
 | false=>f
theorem gIf_ok {b:Bool} {t f:Tr} (g:Good (gIf b t f)) (k1:Good t->Ok s A) (k2:Good f->Ok s B):Ok s fun σ=>(b=true->A σ)∧(b=false->B σ):=by
 induction b using Bool.casesOn
 ·exact (k2 g).im fun U U q=>⟨nofun,fun U=>q⟩
 ·exact (k1 g).im fun U U q=>⟨fun U=>q,nofun⟩
end
section
variable {P:Params} {Po:Post} {s:St P Po} {S A B:AHeap->Prop} {K:KE P Po} {KS:St P Po->Tr} {Q:EQ} {E:EX} {z:Bool} {cx:Cx}
theorem Ok.at {i:Nat} {f:Nat->AObj->St P Po->Tr} (g:Good (s.ob i f)) (k:∀ n o s,Good (f n o s)->Ok s fun σ=>s.L[n]?=some (i,o)->S σ):Ok s S:=
 Ok.ob g fun n o s' hL g h=>have q:=k n o s' g; have t:=h _ q; t.2.im fun σ U q=>q (hL▸t.1)
theorem Ok.up {n i:Nat} {o o':AObj} (q:Ok (s.wL (upd s.L n o')) S):Ok s fun σ=>s.L[n]?=some (i,o)->S (σ.set i o'):=⟨q.1,fun σ h e=>q.2 _ (h.upd e)⟩
noncomputable def fldsO:AObj->Option (List (Str×AV))
 | .inst _ fs=>some fs
 | .exc _ fs=>some fs
 | _=>none
theorem fldsO_ok {o:AObj} {fs:List (Str×AV)} (e:fldsO o=some fs) {σ:AHeap} {i:Nat} (h:σ.get i=some o):∃ c,FldsP σ i c fs:=by
 induction o using AObj.casesOn with
 | inst c fs=>(injection e with e1; subst e1); exact ⟨c,.inst h⟩
 | exc c fs=>(injection e with e1; subst e1); exact ⟨c,.exc h⟩
 | _=>injection e
noncomputable def gAttr (x:Str) (v:AV) (s:St P Po) (K:KE P Po):Tr:=onR v fun i=>s.ob i fun U o s=>onO (fldsO o) fun fs=>onO (fs.lookup x) fun v=>onB (notBi v) (K v s)
theorem gAttr_ok {x:Str} {v:AV} (g:Good (gAttr x v s K)) (k:KOf K Q):Ok s fun σ=>AttrP x σ Q v:=onR_ok g fun i hv g=>hv▸Ok.at g fun n o s g=>onO_ok g fun fs hf g=>onO_ok g fun v he g=>onB_ok g fun hn g=>
 (k _ _ g).im fun σ z q e=>(fldsO_ok hf (z.at e)).elim fun c hc=>⟨hc,he,hn,q⟩
noncomputable def IxS (xs:List AV) (n:Int) (v:AV):Prop:=∃ j,IdxR n xs.length j∧xs[j]?=some v
noncomputable def ixV (xs:List AV) (n:Int):Option AV:=match n with
 | .ofNat k=>if (Nat.ble (k+1) xs.length&&Nat.ble xs.length lim)=true then xs[k]? else none
 | _=>none
theorem ixV_ok {xs:List AV} {n:Int} {v:AV} (e:ixV xs n=some v):IxS xs n v:=by
 induction n using Int.casesOn with
 | negSucc n=>injection e
 | ofNat k=>
  have e:(if (Nat.ble (k+1) xs.length&&Nat.ble xs.length lim)=true then xs[k]? else none)=some v:=e
  by_cases z:(Nat.ble (k+1) xs.length&&Nat.ble xs.length lim)=true
  ·rw [if_pos z] at e
   rw [Bool.and_eq_true] at z
   exact ⟨k,.p (Nat.le_of_ble_eq_true z.1) (Nat.le_of_ble_eq_true z.2),e⟩
  ·rw [if_neg z] at e; injection e
noncomputable def gIx (xs:List AV) (k:AV) (s:St P Po) (K:KE P Po):Tr:=onI k fun n=>s.vo (IxS xs n) (ixV xs n) K
theorem gIx_ok {xs:List AV} {k:AV} {C:AV->AHeap->Prop} (g:Good (gIx xs k s K)) (kk:KOf K Q) (z:∀ n j v σ,IdxR n xs.length j->xs[j]?=some v->Q v σ->C (.int n) σ):Ok s (C k):=
 onI_ok g fun n hk g=>hk▸Ok.vo g (fun U=>ixV_ok) kk fun v h o=>h.elim fun j h=>o.im fun σ U=>z n j v σ h.1 h.2
noncomputable def GdS (kvs:List (AV×AV)) (k v:AV):Prop:=getD kvs k=some (some v)
noncomputable def gGd (kvs:List (AV×AV)) (k:AV) (s:St P Po) (K:KE P Po):Tr:=s.vo (GdS kvs k) ((getD kvs k).join) K
theorem join_eq {α:Type} {o:Option (Option α)} {v:α} (e:o.join=some v):o=some (some v):=by
 induction o using Option.casesOn with
 | none=>injection e
 | some o=>exact congrArg some e
theorem gGd_ok {kvs:List (AV×AV)} {k:AV} {C:AHeap->Prop} (g:Good (gGd kvs k s K)) (kk:KOf K Q) (z:∀ v σ,getD kvs k=some (some v)->Q v σ->C σ):Ok s C:=
 Ok.vo g (fun v=>join_eq) kk fun v h o=>o.im fun σ U=>z v σ h
noncomputable def SubS (o k v:AV):Prop:=∀ σ Q,Q v σ->SubP σ Q o k
noncomputable def subO (o:AObj) (k:AV) (s:St P Po) (K:KE P Po):Tr:=match o with
 | .list xs=>gIx xs k s K
 | .dict kvs=>elS k (fun U=>gGd kvs k s K) (onI k fun U=>gGd kvs k s K)
 | .kdict kvs=>onS k fun U=>gGd kvs k s K
 | _=>bad
theorem subO_ok {o:AObj} {k:AV} {i:Nat} (g:Good (subO o k s K)) (kk:KOf K Q):Ok s fun σ=>σ.get i=some o->SubP σ Q (.ref i) k:=by
 induction o using AObj.casesOn with
 | list xs=>exact gIx_ok (C:=fun k σ=>σ.get i=some (.list xs)->SubP σ Q (.ref i) k) g kk fun n j v σ h1 h2 q e=>.ref e h1 h2 q
 | dict kvs=>exact elS_ok g (fun x hk g=>gGd_ok g kk fun v σ h q e=>by subst hk; exact .ds e h q) fun g=>onI_ok g fun x hk g=>gGd_ok g kk fun v σ h q e=>by subst hk; exact .di e h q
 | kdict kvs=>exact onS_ok g fun x hk g=>gGd_ok g kk fun v σ h q e=>by subst hk; exact .ks e h q
 | _=>exact bad_no g
noncomputable def gSub (o k:AV) (s:St P Po) (K:KE P Po):Tr:=elS o (fun U=>s.v (SubS o k) K) (elL o (fun xs=>gIx xs k s K) (elT o (fun xs=>gIx xs k s K) (onR o fun i=>s.ob i fun U o s=>subO o k s K)))
theorem gSub_ok {o k:AV} (g:Good (gSub o k s K)) (kk:KOf K Q):Ok s fun σ=>SubP σ Q o k:=elS_ok g (fun U U g=>Ok.v g kk fun v h o=>o.im fun σ U q=>h σ Q q) fun g=>
 elL_ok g (fun xs ho g=>ho▸gIx_ok (C:=fun k σ=>SubP σ Q (.lst xs) k) g kk fun n j v σ h1 h2 q=>.lst h1 h2 q) fun g=>
 elT_ok g (fun xs ho g=>ho▸gIx_ok (C:=fun k σ=>SubP σ Q (.tup xs) k) g kk fun n j v σ h1 h2 q=>.tup h1 h2 q) fun g=>
 onR_ok g fun i hv g=>hv▸Ok.at g fun n o s g=>(subO_ok g kk).im fun σ z q e=>q (z.at e)
noncomputable def SlcS (o a b v:AV):Prop:=∀ z σ Q,Q v σ->SliceP z σ Q o a b
noncomputable def gLs (v:AV) (s:St P Po) (f:List AV->St P Po->Tr):Tr:=elL v (fun xs=>f xs s) (onR v fun i=>s.ob i fun U o s=>onL o fun xs=>f xs s)
theorem gLs_ok {v:AV} {f:List AV->St P Po->Tr} {F:List AV->AHeap->Prop} (g:Good (gLs v s f)) (k:∀ xs s,Good (f xs s)->Ok s (F xs)):Ok s fun σ=>∃ xs,ListR σ v xs∧F xs σ:=
 elL_ok g (fun xs hv g=>hv▸(k _ _ g).im fun σ U q=>⟨xs,.lst,q⟩) fun g=>onR_ok g fun i hv g=>hv▸Ok.at g fun n o s g=>onL_ok g fun xs ho g=>(k _ _ g).im fun σ z q e=>⟨xs,.ref (ho▸z.at e),q⟩
noncomputable def gCut (z:Bool) (xs:List AV) (a b:AV) (s:St P Po) (K:KE P Po):Tr:=el0 a (onI b fun n=>onN n fun n=>gNew (xs.take n) z s K) (el0 b (onI a fun n=>onN n fun n=>gNew (xs.drop n) z s K) bad)
theorem gCut_ok {xs:List AV} {a b:AV} (g:Good (gCut z xs a b s K)) (k:KOf K Q):Ok s fun σ=>xs.length<=lim->∀ o,ListR σ o xs->SliceP z σ Q o a b:=
 el0_ok g (fun ha g=>onI_ok g fun n hb g=>onN_ok g fun n hn g=>ha▸hb▸hn▸(gNew_ok g k).im fun σ U q hl o h=>.tk h hl (q (Nat.le_trans (by rw [List.length_take]; exact Nat.min_le_right ..) hl))) fun g=>
 el0_ok g (fun hb g=>onI_ok g fun n ha g=>onN_ok g fun n hn g=>ha▸hb▸hn▸(gNew_ok g k).im fun σ U q hl o h=>.dr h hl (q (Nat.le_trans (by rw [List.length_drop]; exact Nat.sub_le ..) hl))) bad_no
noncomputable def gSlc (z:Bool) (o a b:AV) (s:St P Po) (K:KE P Po):Tr:=elS o (fun U=>s.v (SlcS o a b) K) (gLs o s fun xs s=>s.fa (xs.length<=lim) fun s=>gCut z xs a b s K)
theorem gSlc_ok {o a b:AV} (g:Good (gSlc z o a b s K)) (k:KOf K Q):Ok s fun σ=>SliceP z σ Q o a b:=elS_ok g (fun U U g=>Ok.v g k fun v h o=>o.im fun σ U q=>h z σ Q q) fun g=>
 (gLs_ok g fun xs s g=>Ok.fa g (fun s g=>gCut_ok g k) fun hl o=>o.im (S':=fun σ=>∀ o,ListR σ o xs->SliceP z σ Q o a b) fun σ U q=>q hl).im fun σ U q=>q.elim fun xs q=>q.2 o q.1
noncomputable def gSet (x:Str) (w v:AV) (s:St P Po) (K:St P Po->Tr):Tr:=onR v fun i=>s.ob i fun k o s=>onB (okO (KF P) x o) (K (s.wL (upd s.L k (putO x w o))))
theorem setP_of {x:Str} {w:AV} {i:Nat} {o:AObj} {σ:AHeap} (h:σ.get i=some o) (k:okO (KF P) x o=true) (q:S (σ.set i (putO x w o))):SetP (KF P) x w σ S (.ref i):=by
 induction o using AObj.casesOn with
 | inst c fs=>exact .inst h k q
 | exc c fs=>exact .exc h k q
 | _=>injection k
theorem gSet_ok {x:Str} {w v:AV} (g:Good (gSet x w v s KS)) (k:∀ s,Good (KS s)->Ok s S):Ok s fun σ=>SetP (KF P) x w σ S v:=onR_ok g fun i hv g=>hv▸Ok.at g fun n o s g=>onB_ok g fun hn g=>
 (Ok.up (k _ g)).im fun σ z q e=>setP_of (z.at e) hn (q e)
structure DkS (kvs:List (AV×AV)) (k:AV):Prop where
 y:keyOk k k=true
 g:∃ r,getD kvs k=some r
 l:kvs.length<=1000
structure IkS (xs:List AV) (n:Nat):Prop where
 n:n<xs.length
 l:xs.length<=lim
noncomputable def gSetI (w o k:AV) (s:St P Po) (K:St P Po->Tr):Tr:=onR o fun i=>s.ob i fun p o s=>match o with
 | .list xs=>onI k fun n=>onN n fun n=>s.fa (IkS xs n) fun s=>K (s.wL (upd s.L p (.list (xs.set n w))))
 | .dict kvs=>s.fa (DkS kvs k) fun s=>K (s.wL (upd s.L p (.dict (putD kvs k w))))
 | _=>bad
theorem Ok.faU {p:Prop} {n i:Nat} {o o':AObj} (g:Good (s.fa p fun s=>KS (s.wL (upd s.L n o')))) (k:∀ s,Good (KS s)->Ok s S) (z:p->∀ σ,σ.get i=some o->S (σ.set i o')->A σ):Ok s fun σ=>s.L[n]?=some (i,o)->A σ:=
 onH_ok g fun x U g=>have o:=Ok.out (Ok.up (i:=i) (o:=o) (k _ g)); ⟨o.2.1,fun σ h e=>z ((congrFun o.1 x.1.down.v).mp x.1.down.h) σ (h.at e) (o.2.2 σ h e)⟩
theorem gSetI_ok {w o k:AV} (g:Good (gSetI w o k s KS)) (kk:∀ s,Good (KS s)->Ok s S):Ok s fun σ=>SetItP w σ S o k:=onR_ok g fun i hv g=>hv▸Ok.at g fun n o s g=>by
 induction o using AObj.casesOn with
 | list xs=>exact onI_ok g fun m hk g=>onN_ok g fun m hm g=>hk▸hm▸Ok.faU g kk fun h σ e q=>.lst e h.n h.l q
 | dict kvs=>exact Ok.faU g kk fun h σ e q=>h.g.elim fun r hr=>.d e h.y hr h.l q
 | _=>exact bad_no g
noncomputable def gNewD (kvs:List (AV×AV)) (s:St P Po) (K:KE P Po):Tr:=onB (kvs.all fun e=>isStrA e.1) (s.nw (.dict (kvs.foldl (fun d e=>putD d e.1 e.2) [])) fun i s=>K (.ref i) s)
theorem gNewD_ok {kvs:List (AV×AV)} (g:Good (gNewD kvs s K)) (k:KOf K Q):Ok s fun σ=>NewD kvs σ Q:=onB_ok g fun h g=>have o:=Ok.nw (Q:=fun i=>Q (.ref i)) g fun U=>k _; ⟨o.1,s_newd h o.2⟩
variable {KM:Mt->St P Po->Tr} {R:Mt->AHeap->Prop}
noncomputable def mtO (K:Frag) (x:Str) (o:AObj):Option Mt:=match o with
 | .list _=>if x=="append" then some .append else if x=="pop" then some .lpop else none
 | .dict _=>if x=="get" then some .get else if x=="pop" then some .dpop else none
 | .inst c _=>(methA K c x).map .self
 | _=>none
theorem ifS {α:Type} {b:Bool} {x y:Option α} {v:α} {B:Prop} (e:(if b then x else y)=some v) (k:b=true->x=some v->B) (z:y=some v->B):B:=by
 induction b using Bool.casesOn
 ·exact z e
 ·exact k rfl e
theorem mtO_ok {K:Frag} {x:Str} {o:AObj} {m:Mt} (e:mtO K x o=some m) {σ:AHeap} {i:Nat} (h:σ.get i=some o) (q:R m σ):GetMP K σ R (.ref i) x:=by
 induction o using AObj.casesOn with
 | list xs=>exact ifS e (fun b e=>by (injection e with e1; subst e1); cases eq_of_beq b; exact .append h q) fun e=>ifS e (fun b e=>by (injection e with e1; subst e1); cases eq_of_beq b; exact .lpop h q) nofun
 | dict xs=>exact ifS e (fun b e=>by (injection e with e1; subst e1); cases eq_of_beq b; exact .get h q) fun e=>ifS e (fun b e=>by (injection e with e1; subst e1); cases eq_of_beq b; exact .dpop h q) nofun
 | inst c fs=>obtain ⟨f,hf,rfl⟩:=Option.map_eq_some_iff.mp e; exact .inst h hf q
 | _=>injection e
noncomputable def mtS (x:Str):Option Mt:=if x=="join" then some .join else if x=="find" then some .find else if x=="count" then some .count else none
noncomputable def gMt (x:Str) (v:AV) (s:St P Po) (K:Mt->St P Po->Tr):Tr:=match v with
 | .ref i=>s.ob i fun U o s=>onO (mtO (KF P) x o) fun m=>K m s
 | .str _=>onO (mtS x) fun m=>K m s
 | .fn c=>onO (clsMeth (KF P) c x) fun f=>K (.fn f) s
 | .ty n=>onB (n=="Exception"&&x=="__init__") (K .exc s)
 | _=>bad
theorem gMt_ok {x:Str} {v:AV} (g:Good (gMt x v s KM)) (k:KOf KM R):Ok s fun σ=>GetMP (KF P) σ R v x:=by
 induction v using AV.casesOn with
 | ref i=>exact Ok.at (f:=fun U o s=>onO (mtO (KF P) x o) fun m=>KM m s) g fun n o s g=>onO_ok g fun m hm g=>(k _ _ g).im fun σ z q e=>mtO_ok hm (z.at e) q
 | str y=>exact onO_ok g fun m hm g=>(k _ _ g).im fun σ U q=>ifS hm (fun b e=>by (injection e with e1; subst e1); cases eq_of_beq b; exact .join q) fun e=>ifS e (fun b e=>by (injection e with e1; subst e1); cases eq_of_beq b; exact .find q) fun e=>ifS e (fun b e=>by (injection e with e1; subst e1); cases eq_of_beq b; exact .count q) nofun
 | fn c=>exact onO_ok g fun f hf g=>(k _ _ g).im fun σ U q=>.cls hf q
 | ty n=>exact onB_ok g fun h g=>(k _ _ g).im fun σ U q=>by have h:=Bool.and_eq_true_iff.mp h; cases eq_of_beq h.1; cases eq_of_beq h.2; exact .exc q
 | _=>exact bad_no g
inductive PopS:AObj->AV->Prop
 | mk {xs:List AV} {v:AV} (h:xs.length<lim):PopS (.list (xs++[v])) (.tup [v,.lst xs])
noncomputable def GeS (kvs:List (AV×AV)) (k d v:AV):Prop:=keyOk k k=true∧∃ r,getD kvs k=some r∧v=r.getD d
noncomputable def geV (kvs:List (AV×AV)) (k d:AV):Option AV:=if keyOk k k then (getD kvs k).map fun r=>r.getD d else none
noncomputable def JnS (x:Str) (xs:List AV) (v:AV):Prop:=∃ ss,xs=ss.map .str∧JoinOk x ss=true∧v=.str (Txt.join x ss)
structure DpS (kvs:List (AV×AV)) (k:AV) (v:AV):Prop where
 y:keyOk k k=true
 g:getD kvs k=some (some v)
 l:kvs.length<=1000
noncomputable def DnS (kvs:List (AV×AV)) (k:AV):Prop:=keyOk k k=true∧getD kvs k=some none
noncomputable def isX:AObj->Bool
 | .exc _ _=>true
 | _=>false
theorem isX_ok {o:AObj} (h:isX o=true):∃ c fs,o=.exc c fs:=by
 induction o using AObj.casesOn with
 | exc c fs=>exact ⟨c,fs,rfl⟩
 | _=>injection h
noncomputable def gPop (i n:Nat) (o:AObj) (args:List AV) (s:St P Po) (K:KE P Po):Tr:=match args with
 | []=>s.v (PopS o) fun w s=>onT w fun w=>on2 w fun v w=>elL w (fun xs=>K v (s.wL (upd s.L n (.list xs)))) bad
 | a::r=>onZ r (onI a fun a=>onB (a==0) (onL o fun xs=>match xs with
  | v::xs=>s.fa (xs.length<lim) fun s=>K v (s.wL (upd s.L n (.list xs)))
  | []=>bad))
noncomputable def gDpop (n:Nat) (kvs:List (AV×AV)) (args:List AV) (s:St P Po) (K:KE P Po):Tr:=match args with
 | k::[]=>s.v (DpS kvs k) fun v s=>K v (s.wL (upd s.L n (.dict (delD kvs k))))
 | k::d::r=>onZ r (s.fa (DnS kvs k) fun s=>K d s)
 | _=>bad
noncomputable def gMc (m:Mt) (o:AV) (args:List AV) (s:St P Po) (K:KE P Po):Tr:=match m with
 | .append=>on1 args fun v=>onR o fun i=>s.ob i fun n o s=>onL o fun xs=>s.fa (xs.length<lim) fun s=>K .none (s.wL (upd s.L n (.list (xs++[v]))))
 | .lpop=>onR o fun i=>s.ob i fun n o s=>gPop i n o args s K
 | .get=>on2 args fun k d=>onR o fun i=>s.ob i fun n o s=>onD o fun kvs=>s.vo (GeS kvs k d) (geV kvs k d) K
 | .dpop=>onR o fun i=>s.ob i fun n o s=>onD o fun kvs=>gDpop n kvs args s K
 | .join=>on1 args fun v=>onS o fun x=>gLs v s fun xs s=>s.v (JnS x xs) K
 | .find=>on1 args fun v=>onS o fun x=>onS v fun y=>s.as (.int (Txt.find x y)) K
 | .count=>on1 args fun v=>onS o fun x=>onS v fun y=>s.as (.int (Txt.count x y)) K
 | .exc=>on2 args fun v U=>onR v fun i=>s.ob i fun U o s=>onB (isX o) (K .none s)
 | _=>bad
theorem ge_ok {kvs:List (AV×AV)} {k d v:AV} (e:geV kvs k d=some v):GeS kvs k d v:=ifS e (fun h e=>let ⟨r,hr,hv⟩:=Option.map_eq_some_iff.mp e; ⟨h,r,hr,hv.symm⟩) nofun
theorem gPop_ok {i n:Nat} {o:AObj} {args:List AV} (g:Good (gPop i n o args s K)) (k:KOf K Q):Ok s fun σ=>s.L[n]?=some (i,o)->MtP σ Q .lpop (.ref i) args:=by
 induction args using List.casesOn with
 | nil=>
  refine onH_ok g fun x U g=>onT_ok g fun w hw g=>on2_ok g fun v w2 hv g=>elL_ok g (fun xs hx g=>?_) bad_no
  have q:=Ok.out (Ok.up (i:=i) (o:=o) (k _ _ g))
  have h:PopS o x.1.down.v:=(congrFun q.1 _).mp x.1.down.h
  rw [hw,hv,hx] at h
  exact ⟨q.2.1,fun σ y e=>by cases h with | mk h=>exact .lpop (y.at e) h (q.2.2 σ y e)⟩
 | cons a r=>
  refine onZ_ok g fun hr g=>onI_ok g fun a ha g=>onB_ok g fun h0 g=>onL_ok g fun xs hx g=>?_
  subst hr; subst ha; cases eq_of_beq h0; subst hx
  induction xs using List.casesOn with
  | nil=>exact bad_no g
  | cons v xs=>exact Ok.faU (KS:=K v) g (k v) fun h σ e q=>.lpop0 e h q
theorem gDpop_ok {i n:Nat} {kvs:List (AV×AV)} {args:List AV} (g:Good (gDpop n kvs args s K)) (k:KOf K Q):Ok s fun σ=>s.L[n]?=some (i,.dict kvs)->MtP σ Q .dpop (.ref i) args:=by
 induction args using List.casesOn with
 | nil=>exact bad_no g
 | cons a r=>
  induction r using List.casesOn with
  | nil=>
   refine onH_ok g fun x U g=>?_
   have q:=Ok.out (Ok.up (i:=i) (o:=.dict kvs) (k _ _ g))
   have h:DpS kvs a x.1.down.v:=(congrFun q.1 _).mp x.1.down.h
   exact ⟨q.2.1,fun σ y e=>.dpop (y.at e) h.y h.g h.l (q.2.2 σ y e)⟩
  | cons d r=>exact onZ_ok g fun hr g=>hr▸Ok.fa g (k d) fun h o=>o.im fun σ y q e=>.dpopd (y.at e) h.1 h.2 q
theorem gMc_ok {m:Mt} {o:AV} {args:List AV} (g:Good (gMc m o args s K)) (k:KOf K Q):Ok s fun σ=>MtP σ Q m o args:=by
 induction m using Mt.casesOn with
 | append=>exact on1_ok g fun v ha g=>onR_ok g fun i hv g=>ha▸hv▸Ok.at g fun n o s g=>onL_ok g fun xs hx g=>hx▸Ok.faU (KS:=K .none) g (k .none) fun h σ e q=>.append e h q
 | lpop=>exact onR_ok g fun i hv g=>hv▸Ok.at g fun n o s g=>gPop_ok g k
 | get=>exact on2_ok g fun a d ha g=>onR_ok g fun i hv g=>ha▸hv▸Ok.at g fun n o s g=>onD_ok g fun kvs hx g=>hx▸Ok.vo g (fun U=>ge_ok) k fun v h o=>h.2.elim fun r hr=>o.im fun σ y q e=>.get (y.at e) h.1 hr.1 (hr.2▸q)
 | dpop=>exact onR_ok g fun i hv g=>hv▸Ok.at g fun n o s g=>onD_ok g fun kvs hx g=>hx▸gDpop_ok g k
 | join=>exact on1_ok g fun v ha g=>onS_ok g fun x hv g=>ha▸hv▸(gLs_ok g fun xs s g=>Ok.v g k (fun v h o=>o.im (S':=fun σ=>∀ u,ListR σ u xs->MtP σ Q .join (.str x) [u]) fun σ U q u hu=>h.elim fun ss h=>.join (h.1▸hu) h.2.1 (h.2.2▸q))).im fun σ U q=>q.elim fun xs q=>q.2 v q.1
 | find=>exact on1_ok g fun v ha g=>onS_ok g fun x hx g=>onS_ok g fun y hy g=>ha▸hx▸hy▸(Ok.as g k).im fun σ U q=>.find q
 | count=>exact on1_ok g fun v ha g=>onS_ok g fun x hx g=>onS_ok g fun y hy g=>ha▸hx▸hy▸(Ok.as g k).im fun σ U q=>.count q
 | exc=>exact on2_ok g fun v w ha g=>onR_ok g fun i hv g=>ha▸hv▸Ok.at g fun n o s g=>onB_ok g fun h g=>(isX_ok h).elim fun c h=>h.elim fun fs h=>(k _ _ g).im fun σ y q e=>.exc (h▸y.at e) q
 | _=>exact bad_no g
end
noncomputable abbrev CallG (P:Params) (Po:Post):=Option Nat->Addr->List AV->St P Po->KE P Po->KX P Po->Tr
noncomputable abbrev GE (P:Params) (Po:Post):=Scope->Loc->Expr->St P Po->KE P Po->KX P Po->Tr
noncomputable abbrev GT (P:Params) (Po:Post):=Scope->Loc->Expr->St P Po->KB P Po->KX P Po->Tr
section
variable {P:Params} {Po:Post} (gc:CallG P Po) (d:Nat) (hd:Option Nat)
noncomputable def outT (o:Out) (f:AV->Tr) (g:Nat->Tr):Tr:=match o with
 | .ok v=>f v
 | .er i=>g i
noncomputable def useC (c:CD P) (a:Addr) (args:List AV) (L:HL) (A:List Chk):List Chk:=⟨c.dd d+c.n,d⟩::⟨c.a,a⟩::⟨c.xs,args⟩::⟨c.A++c.fr L,L⟩::(match c.z with
 | true=>⟨hd,none⟩::A
 | false=>A)
noncomputable def gFn (a:Addr) (args:List AV) (s:St P Po) (K:KE P Po) (X:KX P Po):Tr:=s.pre fun s=>onE (s.h.get 12) (onH [⟨d,d⟩,⟨hd,hd⟩,⟨a,a⟩,⟨args,args⟩,⟨s.L,s.L⟩] (s.h.get 11) fun x=>gc hd a args (s.nh (x.2 ())) K X) fun x=>
 .n1 (useC d hd x.1 a args s.L s.A) {y:x.1.p.α // x.1.p.R y} fun y=>outT (x.1.p.o y.1) (fun v=>K v ⟨x.1.p.M y.1++x.1.fr s.L,x.2 y,[]⟩) fun i=>X i ⟨x.1.p.M y.1++x.1.fr s.L,x.2 y,[]⟩
noncomputable def insO (K:Frag) (a:Addr):Option (Addr×AObj):=if isExcIn K a then (excInit K a).map fun i=>(i,.exc a []) else (methA K a "__init__").bind fun i=>if clsInst K a then some (i,.inst a []) else none
noncomputable def gInst (a:Addr) (args:List AV) (s:St P Po) (K:KE P Po) (X:KX P Po):Tr:=onO (insO (KF P) a) fun x=>s.nw x.2 fun i s=>gFn gc d hd x.1 (.ref i::args) s (fun r s=>el0 r (K (.ref i) s) bad) X
noncomputable def SumS (xs:List AV) (v:AV):Prop:=∃ ns:List Int,xs=ns.map .int∧v=.int ns.sum
noncomputable def gLen (v:AV) (s:St P Po) (K:KE P Po):Tr:=elS v (fun x=>s.fa (x.length<=lim) fun s=>s.as (.int x.length) K) (elT v (fun x=>s.fa (x.length<=lim) fun s=>s.as (.int x.length) K) (gLs v s fun x s=>s.fa (x.length<=lim) fun s=>s.as (.int x.length) K))
noncomputable def gIsI (a b:AV) (s:St P Po) (K:KE P Po):Tr:=match b with
 | .ty n=>onT a fun U=>onB (n=="tuple") (K (.bool true) s)
 | .fn c=>onS a fun U=>onB (isClsIn (KF P) c&&typeIn (KF P) (.ref c)==some (.type "type")) (K (.bool false) s)
 | _=>bad
noncomputable def gBi (n:String) (args:List AV) (s:St P Po) (K:KE P Po):Tr:=gIf (n=="len") (on1 args fun v=>gLen v s K) (gIf (n=="sum") (on1 args fun v=>elL v (fun xs=>onB hd.isNone (s.v (SumS xs) K)) bad) (onB (n=="isinstance") (on2 args fun a b=>gIsI a b s K)))
noncomputable def gTy (n:String) (args:List AV) (s:St P Po) (K:KE P Po):Tr:=on1 args fun v=>gIf (n=="range") (onI v fun n=>onN n fun n=>s.fa (n<=lim) fun s=>K (.rng n) s) (onB (n=="tuple") (gLs v s fun xs s=>s.fa (xs.length<=lim) fun s=>K (.tup xs) s))
noncomputable def gCallV (f:AV) (args:List AV) (s:St P Po) (K:KE P Po) (X:KX P Po):Tr:=match f with
 | .fn a=>gIf (fnIn (KF P) a) (gFn gc d hd a args s K X) (gInst gc d hd a args s K X)
 | .bi n=>gBi hd n args s K
 | .ty n=>gTy n args s K
 | _=>bad
noncomputable def gCallM (m:Mt) (o:AV) (args:List AV) (s:St P Po) (K:KE P Po) (X:KX P Po):Tr:=match m with
 | .fn f=>gFn gc d hd f args s K X
 | .self f=>gFn gc d hd f (o::args) s K X
 | m=>gMc m o args s K
variable {gc d hd} {s:St P Po} {S A B:AHeap->Prop} {K:KE P Po} {X:KX P Po} {KS:St P Po->Tr} {Q:EQ} {E:EX}
noncomputable def CallOk (gc:CallG P Po) (d:Nat):Prop:=∀ ⦃hd a args s K X Q E⦄,Good (gc hd a args s K X)->KOf K Q->KOf X E->Ok s fun σ=>callF P d hd a args σ Q E
theorem outT_ok {o:Out} (g:Good (outT o (fun v=>K v s) fun i=>X i s)) (k:KOf K Q) (x:KOf X E):Ok s (o.on Q E):=by
 induction o using Out.casesOn with
 | ok v=>exact k _ _ g
 | er i=>exact x _ _ g
theorem useC_ok {c:CD P} {a:Addr} {args:List AV} {L:HL} {A:List Chk} (h:EqA (useC d hd c a args L A)):CX P d hd a args L (c.p.fr (c.fr L))∧EqA A:=by
 obtain ⟨e1,e2,e3,e4,e5⟩:=h
 have z:(c.z=true->hd=none)∧EqA A:=by
  induction q:c.z using Bool.casesOn with
  | true=>rw [q] at e5; exact ⟨fun U=>e5.1,e5.2⟩
  | false=>rw [q] at e5; exact ⟨nofun,e5⟩
 have h:=c.h (c.dd d) hd (c.fr L) z.1
 rw [show c.dd d+c.n=d from e1,show c.a=a from e2,show c.xs=args from e3,show c.A++c.fr L=L from e4] at h
 exact ⟨h,z.2⟩
theorem gFn_ok {a:Addr} {args:List AV} (hc:CallOk gc d) (g:Good (gFn gc d hd a args s K X)) (k:KOf K Q) (x:KOf X E):Ok s fun σ=>VW (callF P d hd a args) σ Q E:=Ok.pre g fun s g=>onE_ok g
 (fun c U g=>
  have g:=good_n1 g
  have e:=useC_ok g.1
  ⟨e.2,e.1 Q E fun y r=>(outT_ok (s:=⟨c.1.p.M y++c.1.fr s.L,c.2 ⟨y,r⟩,[]⟩) (g.2 ⟨y,r⟩) k x).2⟩)
 fun g=>onH_ok g fun U U g=>have o:=(hc g k x).im (S':=fun σ=>VW (callF P d hd a args) σ Q E) fun U U q=>⟨q⟩; o
theorem gInst_ok {a:Addr} {args:List AV} (hc:CallOk gc d) (g:Good (gInst gc d hd a args s K X)) (k:KOf K Q) (x:KOf X E) (n:fnIn (KF P) a=false) {sc:Scope}:Ok s fun σ=>VW (callV ⟨P,sc,hd,callF P d⟩ (.fn a) args) σ Q E:=onO_ok g fun p hp g=>by
 have o:=Ok.nw (Q:=fun i σ=>VW (callF P d hd p.1 (.ref i::args)) σ (fun r σ=>match r with | .none=>Q (.ref i) σ | _=>False) E) g fun i s g=>gFn_ok hc g (fun r s g=>el0_ok g (fun h g=>by subst h; exact k _ _ g) bad_no) x
 refine ⟨o.1,fun σ h=>⟨?_⟩⟩
 have e:callV ⟨P,sc,hd,callF P d⟩ (.fn a) args=initP ⟨P,sc,hd,callF P d⟩ p.1 args p.2:=by
  unfold callV
  funext σ Q E
  dsimp only
  rw [n]
  unfold insO at hp
  induction h1:isExcIn (KF P) a using Bool.casesOn <;> rw [h1] at hp
  ·obtain ⟨i,hi,hp⟩:=Option.bind_eq_some_iff.mp hp
   induction h2:clsInst (KF P) a using Bool.casesOn <;> rw [h2] at hp <;> (first | (injection hp; done) | (injection hp with e1; subst e1))
   rw [if_neg (by decide),if_neg (by decide),hi]
   exact if_pos rfl
  ·obtain ⟨i,hi,rfl⟩:=Option.map_eq_some_iff.mp hp
   rw [if_neg (by decide),if_pos rfl,hi]
 rw [e]
 exact o.2 _ _ (h.new _)
theorem gIfE {b:Bool} {t f:Tr} {B:Prop} (g:Good (gIf b t f)) (k:b=true->Good t->B) (z:b=false->Good f->B):B:=by
 induction b using Bool.casesOn
 ·exact z rfl g
 ·exact k rfl g
theorem gLen_ok {v:AV} (g:Good (gLen v s K)) (k:KOf K Q):Ok s fun σ=>∃ n,LenR σ v n∧Q (.int n) σ:=elS_ok g (fun x hv g=>hv▸Ok.fa g (fun s g=>Ok.as g k) fun h o=>o.im fun σ U q=>⟨_,.str h,q⟩) fun g=>
 elT_ok g (fun x hv g=>hv▸Ok.fa g (fun s g=>Ok.as g k) fun h o=>o.im fun σ U q=>⟨_,.tup h,q⟩) fun g=>
 (gLs_ok g fun xs s g=>Ok.fa g (S:=fun σ=>Q (.int xs.length) σ) (fun s g=>Ok.as g k) fun h o=>o.im (S':=fun σ=>xs.length<=lim∧Q (.int xs.length) σ) fun σ U q=>⟨h,q⟩).im fun σ U q=>q.elim fun xs q=>⟨_,.lst q.1 q.2.1,q.2.2⟩
theorem gIsI_ok {a b:AV} (g:Good (gIsI a b s K)) (k:KOf K Q):Ok s fun σ=>BiP hd (KF P) σ Q "isinstance" [a,b]:=by
 induction b using AV.casesOn with
 | ty n=>exact onT_ok g fun x hx g=>onB_ok g fun h g=>hx▸eq_of_beq h▸(k _ _ g).im fun σ U q=>.isT q
 | fn c=>exact onS_ok g fun x hx g=>onB_ok g fun h g=>hx▸(k _ _ g).im fun σ U q=>.isC h q
 | _=>exact bad_no g
theorem gSum_ok {args:List AV} (g:Good (on1 args fun v=>elL v (fun xs=>onB hd.isNone (s.v (SumS xs) K)) bad)) (k:KOf K Q):Ok s fun σ=>BiP hd (KF P) σ Q "sum" args:=on1_ok g fun v hv g=>elL_ok g (fun xs hx g=>onB_ok g fun hh g=>
 hv▸hx▸Ok.v g k fun v e o=>e.elim fun ns e=>o.im fun σ U q=>e.1▸.sum (Option.isNone_iff_eq_none.mp hh) (e.2▸q)) bad_no
theorem gBi_ok {n:String} {args:List AV} (g:Good (gBi hd n args s K)) (k:KOf K Q):Ok s fun σ=>BiP hd (KF P) σ Q n args:=gIfE g (fun h g=>on1_ok g fun v hv g=>eq_of_beq h▸hv▸(gLen_ok g k).im fun σ U q=>q.elim fun n q=>.len q.1 q.2) fun U g=>
 gIfE g (fun h g=>eq_of_beq h▸gSum_ok g k) fun U g=>onB_ok g fun h g=>on2_ok g fun a b hv g=>eq_of_beq h▸hv▸gIsI_ok g k
theorem gRng_ok {v:AV} (g:Good (onI v fun n=>onN n fun n=>s.fa (n<=lim) fun s=>K (.rng n) s)) (k:KOf K Q):Ok s fun σ=>TyP σ Q "range" [v]:=onI_ok g fun n hi g=>onN_ok g fun n hn g=>hi▸hn▸Ok.fa g (k _) fun h o=>o.im fun σ U q=>.range h q
theorem gTup_ok {v:AV} (g:Good (gLs v s fun xs s=>s.fa (xs.length<=lim) fun s=>K (.tup xs) s)) (k:KOf K Q):Ok s fun σ=>TyP σ Q "tuple" [v]:=
 (gLs_ok g fun xs s g=>Ok.fa g (S:=Q (.tup xs)) (k _) fun h o=>o.im (S':=fun σ=>xs.length<=lim∧Q (.tup xs) σ) fun σ U q=>⟨h,q⟩).im fun σ U q=>q.elim fun xs q=>.tuple q.1 q.2.1 q.2.2
theorem gTy_ok {n:String} {args:List AV} (g:Good (gTy n args s K)) (k:KOf K Q):Ok s fun σ=>TyP σ Q n args:=on1_ok g fun v hv g=>hv▸gIfE g (fun h g=>eq_of_beq h▸gRng_ok g k) fun U g=>onB_ok g fun h g=>eq_of_beq h▸gTup_ok g k
theorem gCallV_ok {f:AV} {args:List AV} (hc:CallOk gc d) (g:Good (gCallV gc d hd f args s K X)) (k:KOf K Q) (x:KOf X E) {sc:Scope}:Ok s fun σ=>VW (callV ⟨P,sc,hd,callF P d⟩ f args) σ Q E:=by
 induction f using AV.casesOn with
 | fn a=>exact gIfE g (fun h g=>(gFn_ok hc g k x).im fun σ U q=>⟨(if_pos (α:=Prop) h).mpr q.r⟩) fun h g=>gInst_ok hc g k x h
 | bi n=>exact (gBi_ok g k).im fun σ U q=>⟨q⟩
 | ty n=>exact (gTy_ok g k).im fun σ U q=>⟨q⟩
 | _=>exact bad_no g
theorem gCallM_ok {m:Mt} {o:AV} {args:List AV} (hc:CallOk gc d) (g:Good (gCallM gc d hd m o args s K X)) (k:KOf K Q) (x:KOf X E) {sc:Scope}:Ok s fun σ=>VW (callMtA ⟨P,sc,hd,callF P d⟩ m o args) σ Q E:=by
 induction m using Mt.casesOn with
 | fn f=>exact gFn_ok hc g k x
 | self f=>exact gFn_ok hc g k x
 | append=>exact (gMc_ok (m:=.append) g k).im fun σ U q=>⟨q⟩
 | lpop=>exact (gMc_ok (m:=.lpop) g k).im fun σ U q=>⟨q⟩
 | get=>exact (gMc_ok (m:=.get) g k).im fun σ U q=>⟨q⟩
 | dpop=>exact (gMc_ok (m:=.dpop) g k).im fun σ U q=>⟨q⟩
 | join=>exact (gMc_ok (m:=.join) g k).im fun σ U q=>⟨q⟩
 | find=>exact (gMc_ok (m:=.find) g k).im fun σ U q=>⟨q⟩
 | count=>exact (gMc_ok (m:=.count) g k).im fun σ U q=>⟨q⟩
 | exc=>exact (gMc_ok (m:=.exc) g k).im fun σ U q=>⟨q⟩
end
section
variable {B:Prop} {σ:AHeap}
noncomputable def onNB (b:Bool) (t:Tr):Tr:=gIf b bad t
theorem onNB_ok {b:Bool} {t:Tr} (g:Good (onNB b t)) (k:¬ b=true->Good t->B):B:=gIfE g (fun U=>bad_no) fun h=>k (by rw [h]; decide)
noncomputable def onAttr (e:Expr) (f:Expr->Str->Pos->Tr):Tr:=match e with
 | .Attribute o x p=>f o x p
 | _=>bad
theorem ba0:∀ f:Expr->Str->Pos->Tr,bad=bad:=fun U=>rfl
theorem onAttr_ok {e:Expr} {f:Expr->Str->Pos->Tr} (g:Good (onAttr e f)) (k:∀ o x p,e=.Attribute o x p->Good (f o x p)->B):B:=by
 induction h:tagE e==8 using Bool.casesOn with
 | false=>exact bad_no (Gu.use (b:=!(tagE e==8)) (C:=∀ f,onAttr e f=bad) (by induction e using Expr.casesOn <;> first | exact trivial | exact ba0) (by rw [h]; rfl) f▸g)
 | true=>
  obtain ⟨o,x,p,rfl⟩:∃ o x p,e=.Attribute o x p:=Gu.use (by induction e using Expr.casesOn <;> first | exact trivial | exact ⟨_,_,_,rfl⟩) h
  exact k _ _ _ rfl g
noncomputable def onSlc (e:Expr) (f:Option Expr->Option Expr->Option Expr->Tr):Tr:=match e with
 | .Slice a b c _=>f a b c
 | _=>bad
theorem bs0:∀ f:Option Expr->Option Expr->Option Expr->Tr,bad=bad:=fun U=>rfl
theorem onSlc_ok {e:Expr} {f:Option Expr->Option Expr->Option Expr->Tr} (g:Good (onSlc e f)) (k:∀ a b c p,e=.Slice a b c p->Good (f a b c)->B):B:=by
 induction h:tagE e==7 using Bool.casesOn with
 | false=>exact bad_no (Gu.use (b:=!(tagE e==7)) (C:=∀ f,onSlc e f=bad) (by induction e using Expr.casesOn <;> first | exact trivial | exact bs0) (by rw [h]; rfl) f▸g)
 | true=>
  obtain ⟨a,b,c,p,rfl⟩:∃ a b c p,e=.Slice a b c p:=Gu.use (by induction e using Expr.casesOn <;> first | exact trivial | exact ⟨_,_,_,_,rfl⟩) h
  exact k _ _ _ _ rfl g
noncomputable def usubV (e:Expr):Option Int:=match e with
 | .Constant c _ _=>match c with
  | .int i=>some (-i)
  | _=>none
 | _=>none
noncomputable def constV:Const->Option AV
 | .none=>some .none
 | .bool b=>some (.bool b)
 | .int i=>some (.int i)
 | .str s=>some (.str s)
 | _=>none
theorem constV_ok {c:Const} {v:AV} {k:AV->Prop} (e:constV c=some v) (q:k v):constP k c:=by induction c using Const.casesOn <;> (first | (injection e; done) | (injection e with e1; subst e1)) <;> exact q
noncomputable def nameV (P:Params) (sc:Scope) (m:Loc) (x:Str):Option AV:=match sc.names.lookup x with
 | some .local | some .cell=>m x
 | some .globalImplicit=>glob (KF P) x
 | _=>none
theorem someP_of {α:Type} {o:Option α} {v:α} {k:α->Prop} (e:o=some v) (q:k v):someP o k:=by subst e; exact q
theorem nameV_ok {cx:Cx} {m:Loc} {x:Str} {v:AV} {k:AV->Prop} (e:nameV cx.P cx.sc m x=some v) (q:k v):nameP cx m x k:=by
 unfold nameV at e
 unfold nameP
 induction h:cx.sc.names.lookup x using Option.casesOn with
 | none=>rw [h] at e; injection e
 | some y=>rw [h] at e; induction y using NameKind.casesOn <;> first | exact someP_of e q | cases e
noncomputable def bindNs (m:Loc) (ns:List Str) (v:AV):Option Loc:=match v with
 | .tup vs=>if (ns.length==vs.length&&[2,3,4,6].contains vs.length)=true then some (m.puts ns vs) else none
 | _=>none
theorem bindNs_ok {m m':Loc} {ns:List Str} {v:AV} {k:Loc->Prop} (e:bindNs m ns v=some m') (q:k m'):vcNs v m k ns:=by
 induction v using AV.casesOn with
 | tup vs=>
  have e:(if (ns.length==vs.length&&[2,3,4,6].contains vs.length)=true then some (m.puts ns vs) else none)=some m':=e
  by_cases h:(ns.length==vs.length&&[2,3,4,6].contains vs.length)=true
  ·rw [if_pos h] at e
   (injection e with e1; subst e1)
   have h:=Bool.and_eq_true_iff.mp h
   unfold vcNs
   rw [eq_of_beq h.1]
   match vs,h.2,q with
   | [a,b],_,q=>exact ⟨a,b,rfl,q⟩
   | [a,b,c],_,q=>exact ⟨a,b,c,rfl,q⟩
   | [a,b,c,d],_,q=>exact ⟨a,b,c,d,rfl,q⟩
   | [a,b,c,d,e,f],_,q=>exact ⟨a,b,c,d,e,f,rfl,q⟩
  ·rw [if_neg h] at e; injection e
 | _=>injection e
noncomputable def bindV (sc:Scope) (t:Expr) (v:AV) (m:Loc):Option Loc:=match t with
 | .Name x _=>if locNm sc x then some (m.put x (some v)) else none
 | .Tuple ts _ _=>(names? ts).bind fun ns=>if ns.all (locNm sc) then bindNs m ns v else none
 | _=>none
theorem bindV_ok {sc:Scope} {t:Expr} {v:AV} {m m':Loc} {k:Loc->Prop} (e:bindV sc t v m=some m') (q:k m'):vcBind sc t v m k:=GuO.use (o:=bindV sc t v m) (C:=fun m'=>k m'->vcBind sc t v m k) (by
 induction t using Expr.casesOn with
 | Name x p=>exact GuO.ite fun h q=>(if_pos (α:=Prop) h).mpr q
 | Tuple ts n p=>
  unfold vcBind
  dsimp only
  show GuO ((names? ts).bind _) _
  induction names? ts using Option.casesOn with
  | none=>exact trivial
  | some ns=>exact GuO.ite fun h=>GuO.of fun m e q=>(if_pos (α:=Prop) h).mpr (bindNs_ok e q)
 | _=>exact trivial) e q
end
section
variable {P:Params} {Po:Post} {s:St P Po} {S:AHeap->Prop} {K:KE P Po} {X:KX P Po} {KK:KB P Po} {T:Bool->AHeap->Prop} {Q:EQ} {E:EX}
noncomputable abbrev Wt:=Option (Nat×(Nat×AObj))
noncomputable def chkW (W:Wt) (M:HL):List Chk:=match W with
 | none=>[]
 | some w=>[⟨M[w.1]?,some w.2⟩]
noncomputable def WtOk (W:Wt) (σ₀:AHeap) (v:AV):Prop:=∀ M σ,EqA (chkW W M)->H σ M->standsA σ₀ v σ
noncomputable def gItO (i n:Nat) (o:AObj) (s:St P Po) (f:List AV->Wt->St P Po->Tr):Tr:=match o with
 | .list xs=>s.fa (xs.length<=lim) fun s=>f xs (some (n,i,o)) s
 | .dict kvs=>onB (kvs.all fun e=>isStrA e.1) (s.fa (kvs.length<=lim) fun s=>(fun s=>f (kvs.map (·.1)) none s) (s.wL (upd s.L n (.kdict kvs))))
 | _=>bad
noncomputable def gIt (v:AV) (s:St P Po) (f:List AV->Wt->St P Po->Tr):Tr:=match v with
 | .lst xs=>s.fa (xs.length<=lim) fun s=>f xs none s
 | .tup xs=>s.fa (xs.length<=lim) fun s=>f xs none s
 | .rng n=>s.fa (n<=lim) fun s=>f ((List.range n).map fun (k:Nat)=>.int k) none s
 | .ref i=>s.ob i fun n o s=>gItO i n o s f
 | _=>bad
theorem stands_d {σ₀ σ:AHeap} {i:Nat} {kvs:List (AV×AV)} (h:σ₀.get i=some (.kdict kvs)):standsA σ₀ (.ref i) σ:=by unfold standsA; simp only [h]
theorem gItO_ok {i n:Nat} {o:AObj} {f:List AV->Wt->St P Po->Tr} {F:List AV->Wt->AHeap->Prop} (g:Good (gItO i n o s f)) (k:∀ xs W s,Good (f xs W s)->Ok s (F xs W)):Ok s fun σ=>s.L[n]?=some (i,o)->LoopP σ (fun xs σ=>∃ W,WtOk W σ (.ref i)∧F xs W σ) (.ref i):=by
 induction o using AObj.casesOn with
 | list xs=>exact Ok.fa g (k xs _) fun h o=>o.im fun σ y q e=>.lst (.ref (y.at e)) h ⟨some (n,i,.list xs),fun M σ' c z=>stands_ref (y.at e) (z.at c.1),q⟩
 | dict kvs=>exact onB_ok g fun h g=>Ok.faU (KS:=fun s=>f (kvs.map (·.1)) none s) g (k _ none) fun hl σ e q=>.dict e h hl ⟨none,fun U U U U=>stands_d get_set_eq,q⟩
 | _=>exact bad_no g
theorem gIt_ok {v:AV} {f:List AV->Wt->St P Po->Tr} {F:List AV->Wt->AHeap->Prop} (g:Good (gIt v s f)) (k:∀ xs W s,Good (f xs W s)->Ok s (F xs W)):Ok s fun σ=>LoopP σ (fun xs σ=>∃ W,WtOk W σ v∧F xs W σ) v:=by
 induction v using AV.casesOn with
 | lst xs=>exact Ok.fa g (k xs none) fun h o=>o.im fun σ U q=>.lst .lst h ⟨none,fun U U U U=>trivial,q⟩
 | tup xs=>exact Ok.fa g (k xs none) fun h o=>o.im fun σ U q=>.tup h ⟨none,fun U U U U=>trivial,q⟩
 | rng n=>exact Ok.fa g (k _ none) fun h o=>o.im fun σ U q=>.rng h ⟨none,fun U U U U=>trivial,q⟩
 | ref i=>exact Ok.at (f:=fun n o s=>gItO i n o s f) g fun n o s g=>gItO_ok g k
 | _=>exact bad_no g
noncomputable def chkM:List MV->List OV->List Chk->List Chk
 | [],[],A=>A
 | .a::r,_::os,A=>chkM r os A
 | .n::r,o::os,A=>⟨none,o⟩::chkM r os A
 | .v v::r,o::os,A=>⟨some v,o⟩::chkM r os A
 | _,_,_=>[⟨0,1⟩]
inductive Mt':List MV->List OV->Prop
 | nil:Mt' [] []
 | a {r:List MV} {os:List OV} (o:OV) (h:Mt' r os):Mt' (.a::r) (o::os)
 | n {r:List MV} {os:List OV} (h:Mt' r os):Mt' (.n::r) (none::os)
 | v {r:List MV} {os:List OV} {v:AV} (h:Mt' r os):Mt' (.v v::r) (some v::os)
theorem zo {B:Prop} {A:List Chk} (h:EqA (⟨0,1⟩::A)):B:=absurd h.1 (by decide)
theorem chkM_ok:∀ {V:List MV} {os:List OV} {A:List Chk},EqA (chkM V os A)->Mt' V os∧EqA A
 | [],[],_,h=>⟨.nil,h⟩
 | .a::r,o::os,_,h=>have q:=chkM_ok (V:=r) (os:=os) h; ⟨.a o q.1,q.2⟩
 | .n::r,o::os,_,h=>have q:=chkM_ok (V:=r) (os:=os) h.2; ⟨(show none=o from h.1)▸.n q.1,q.2⟩
 | .v v::r,o::os,_,h=>have q:=chkM_ok (V:=r) (os:=os) h.2; ⟨(show some v=o from h.1)▸.v q.1,q.2⟩
 | [],_::_,_,h=>zo h
 | .a::_,[],_,h=>zo h
 | .n::_,[],_,h=>zo h
 | .v _::_,[],_,h=>zo h
noncomputable def fill:List MV->(Nat->OV)->Nat->List OV
 | [],_,_=>[]
 | .a::r,f,n=>f n::fill r f (n+1)
 | .n::r,f,n=>none::fill r f (n+1)
 | .v v::r,f,n=>some v::fill r f (n+1)
theorem fill_of {V:List MV} {os:List OV} (h:Mt' V os):∀ n,∃ f:Nat->OV,∀ g:Nat->OV,(∀ k,n<=k->g k=f k)->os=fill V g n:=by
 induction h with
 | nil=>exact fun n=>⟨fun U=>none,fun U U=>rfl⟩
 | a o h ih=>exact fun n=>(ih (n+1)).elim fun f hf=>⟨fun k=>if k=n then o else f k,fun g hg=>by rw [fill,← hf g fun k hk=>(hg k (by lia)).trans (if_neg (by lia)),hg n (Nat.le_refl _),show (fun k=>if k=n then o else f k) n=o from if_pos rfl]⟩
 | n h ih=>exact fun n=>(ih (n+1)).elim fun f hf=>⟨f,fun g hg=>by rw [fill,← hf g fun k hk=>hg k (by lia)]⟩
 | v h ih=>exact fun n=>(ih (n+1)).elim fun f hf=>⟨f,fun g hg=>by rw [fill,← hf g fun k hk=>hg k (by lia)]⟩
theorem fill_is {V:List MV} {os:List OV} (h:Mt' V os):∃ f,os=fill V f 0:=(fill_of h 0).elim fun f hf=>⟨f,hf f fun U U=>rfl⟩
noncomputable def gGo (J:LJ) (V:List OV) (s:St P Po):Tr:=onH [⟨J,J⟩,⟨V,V⟩,⟨s.L,s.L⟩] (s.h.get 17) fun x=>.lf (⟨x.1.down.J,J⟩::⟨x.1.down.M,s.L⟩::chkM x.1.down.V V s.A)
theorem gGo_ok {J:LJ} {V:List OV} (g:Good (gGo J V s)):EqA s.A∧∃ V',Mt' V' V∧J s.L V':=onH_ok g fun x U g=>by
 obtain ⟨h1,h2,h3⟩:=good_lf g
 have h:=x.1.down.h
 rw [show x.1.down.J=J from h1,show x.1.down.M=s.L from h2] at h
 have q:=chkM_ok h3
 exact ⟨q.2,_,q.1,h⟩
noncomputable def gGoC (J:LJ) (ys:List AV) (s:St P Po):Tr:=s.pre fun s=>onH [⟨J,J⟩,⟨ys,ys⟩,⟨s.L,s.L⟩] (s.h.get 17) fun x=>.lf (⟨x.1.down.J,J⟩::⟨x.1.down.M,s.L⟩::⟨x.1.down.V,ys.map .v⟩::s.A)
theorem gGoC_ok {J:LJ} {ys:List AV} (g:Good (gGoC J ys s)):Ok s fun σ=>∃ L,J L (ys.map .v)∧H σ L:=Ok.pre g fun s g=>onH_ok g fun x U g=>by
 obtain ⟨h1,h2,h3,h4⟩:=good_lf g
 have h:=x.1.down.h
 rw [show x.1.down.J=J from h1,show x.1.down.M=s.L from h2,show x.1.down.V=ys.map .v from h3] at h
 exact ⟨h4,fun σ z=>⟨_,h,z⟩⟩
noncomputable def gCmt (z:Bool) (xs:List AV) (W:Wt) (s:St P Po) (f:AV->St P Po->KE P Po->Tr) (K:KE P Po):Tr:=onH [⟨xs,xs⟩,⟨s.L,s.L⟩] (s.h.get 16) fun x=>
 .nd (⟨x.1.l.map x.1.f,xs⟩::⟨x.1.M x.1.l x.1.s,s.L⟩::⟨x.1.V x.1.l x.1.s,[]⟩::s.A) {y:x.1.γ // x.1.C [] y} (fun y=>gNewF (x.1.V [] y.1) z ⟨x.1.M [] y.1,x.2 (.inl y),chkW W (x.1.M [] y.1)⟩ K)
  x.1.B fun y=>f (x.1.f y.x) ⟨x.1.M (y.x::y.l) y.s,x.2 (.inr y),chkW W (x.1.M (y.x::y.l) y.s)⟩ fun v s=>s.as v fun v s=>gGoC (x.1.J .v y.l) (x.1.V (y.x::y.l) y.s++[v]) s
inductive FJ {Y:Type} (d:FD Y) (ys:List Y) (xs:List AV) (σ:AHeap):Prop
 | mk (l:List d.β) (t:d.γ) (c:d.C l t) (hx:xs=l.map d.f) (hy:ys=d.V l t) (h:H σ (d.M l t))
theorem map_v:∀ {l l':List AV},l.map MV.v=l'.map .v->l=l'
 | [],[],_=>rfl
 | [],_::_,h=>nomatch h
 | _::_,[],h=>nomatch h
 | a::l,b::l',h=>by rw [map_v (List.cons.inj h).2,show a=b from by injection h with h _; injection h]
theorem gCmt_ok {z:Bool} {v:AV} {xs:List AV} {W:Wt} {f:AV->St P Po->KE P Po->Tr} {B:AV->AHeap->EQ->Prop} (g:Good (gCmt z xs W s f K)) (k:KOf K Q) (hf:∀ x s (K:KE P Po) (Q:EQ),Good (f x s K)->KOf K Q->Ok s fun σ=>B x σ Q):Ok s fun σ=>WtOk W σ v->CompP z v xs σ B Q:=onH_ok g fun x U g=>by
 obtain ⟨⟨e1,e2,e3,e4⟩,g1,g2⟩:=good_nd g
 obtain ⟨d,r⟩:=x
 refine ⟨e4,fun σ h w=>.mk (FJ d) (.mk d.l d.s d.h (show d.l.map d.f=xs from e1).symm (show d.V d.l d.s=[] from e3).symm ((show d.M d.l d.s=s.L from e2)▸h)) (fun ys x r σ' j=>?_) fun ys σ' j=>?_⟩
 ·obtain ⟨l,t,c,hx,rfl,h⟩:=j
  induction l using List.casesOn with
  | nil=>injection hx
  | cons b l=>
   (injection hx with e1 e2; subst e1 e2)
   have o:=hf _ _ _ (fun y σ=>FJ d (d.V (b::l) t++[y]) (l.map d.f) σ) (g2 ⟨b,l,t,c⟩) fun y s g=>Ok.as (Q:=fun y σ=>FJ d (d.V (b::l) t++[y]) (l.map d.f) σ) g fun y s g=>(gGoC_ok g).im fun σ U q=>by
    obtain ⟨L,j,h⟩:=q
    generalize hV:(d.V (b::l) t++[y]).map MV.v=V at j
    induction j using Jf.casesOn with
    | mk t' c'=>exact .mk l t' c' rfl (map_v hV) h
   exact ⟨w _ _ o.1 h,o.2 _ h⟩
 ·obtain ⟨l,t,c,hx,rfl,h⟩:=j
  induction l using List.casesOn with
  | cons=>injection hx
  | nil=>
   have o:=gNewF_ok (g1 ⟨t,c⟩) k
   exact ⟨w _ _ o.1 h,o.2 _ h⟩
end
section
variable {P:Params} {Po:Post}
noncomputable abbrev GE1 (P:Params) (Po:Post):=Expr->St P Po->KE P Po->KX P Po->Tr
noncomputable abbrev GT1 (P:Params) (Po:Post):=Expr->St P Po->KB P Po->KX P Po->Tr
noncomputable def gSeq (e:GE1 P Po):List Expr->St P Po->(List AV->St P Po->Tr)->KX P Po->Tr
 | [],s,K,_=>K [] s
 | a::r,s,K,X=>e a s (fun v s=>gSeq e r s (fun vs s=>K (v::vs) s) X) X
noncomputable def gBo (e:GE1 P Po) (op:BoolOp):List Expr->St P Po->KE P Po->KX P Po->Tr
 | [],_,_,_=>bad
 | a::r,s,K,X=>match r with
  | []=>e a s K X
  | b::r'=>e a s (fun v s=>gTru v s fun t s=>match op with
   | .And=>gIf t (gBo e op r s K X) (K v s)
   | .Or=>gIf t (K v s) (gBo e op r s K X)) X
noncomputable def gTs (e:GT1 P Po) (op:BoolOp):List Expr->St P Po->KB P Po->KX P Po->Tr
 | [],s,K,_=>K (op==.And) s
 | a::r,s,K,X=>e a s (fun t s=>match op with
  | .And=>gIf t (gTs e op r s K X) (K false s)
  | .Or=>gIf t (K true s) (gTs e op r s K X)) X
noncomputable def gPairs (e:GE1 P Po):List (Option Expr)->List Expr->St P Po->(List (AV×AV)->St P Po->Tr)->KX P Po->Tr
 | [],[],s,K,_=>K [] s
 | some k::ks,v::vs,s,K,X=>e k s (fun kv s=>e v s (fun vv s=>gPairs e ks vs s (fun r s=>K ((kv,vv)::r) s) X) X) X
 | _,_,_,_,_=>bad
noncomputable def gOpt (e:GE1 P Po) (o:Option Expr) (s:St P Po) (K:KE P Po) (X:KX P Po):Tr:=match o with
 | some a=>e a s K X
 | none=>K .none s
noncomputable def EvOk (e:GE1 P Po) (x:Expr->PT):Prop:=∀ ⦃a s K X Q E⦄,Good (e a s K X)->KOf K Q->KOf X E->Ok s fun σ=>x a σ Q E
noncomputable def TsOk (e:GT1 P Po) (x:Expr->AHeap->(Bool->AHeap->Prop)->EX->Prop):Prop:=∀ ⦃a s K X Q E⦄,Good (e a s K X)->KOf K Q->KOf X E->Ok s fun σ=>x a σ Q E
variable {e:GE1 P Po} {x:Expr->PT} {te:GT1 P Po} {tx:Expr->AHeap->(Bool->AHeap->Prop)->EX->Prop} {X:KX P Po} {E:EX}
theorem gSeq_ok (ih:EvOk e x):∀ {es:List Expr} {s:St P Po} {K:List AV->St P Po->Tr} {Q:List AV->AHeap->Prop},Good (gSeq e es s K X)->KOf K Q->KOf X E->Ok s fun σ=>vcSeq x es σ Q E
 | [],_,_,_,g,k,_=>k _ _ g
 | _::_,_,_,_,g,k,xk=>ih g (fun v s g=>gSeq_ok ih g (fun vs s g=>k _ _ g) xk) xk
theorem gIf_ok' {s:St P Po} {A B:AHeap->Prop} {b:Bool} {t f:Tr} (g:Good (gIf b t f)) (k1:Good t->Ok s A) (k2:Good f->Ok s B):Ok s fun σ=>(b=false->B σ)∧(b=true->A σ):=(gIf_ok g k1 k2).im fun U U q=>q.symm
theorem gBo_ok (ih:EvOk e x) {op:BoolOp} {K:KE P Po} {Q:EQ} (k:KOf K Q) (xk:KOf X E):∀ {es:List Expr} {s:St P Po},Good (gBo e op es s K X)->Ok s fun σ=>vcBool x op es σ Q E
 | [],_,g=>bad_no g
 | [_],_,g=>ih g k xk
 | _::b::r,_,g=>ih g (fun v s g=>gTru_ok g fun t s g=>by
   induction op using BoolOp.casesOn with
   | And=>exact gIf_ok' g (gBo_ok ih k xk) (k v s)
   | Or=>exact gIf_ok g (k v s) (gBo_ok ih k xk)) xk
theorem gTs_ok (ih:TsOk te tx) {op:BoolOp} {K:KB P Po} {Q:Bool->AHeap->Prop} (k:KOf K Q) (xk:KOf X E):∀ {es:List Expr} {s:St P Po},Good (gTs te op es s K X)->Ok s fun σ=>vcTest tx op es σ Q E
 | [],_,g=>k _ _ g
 | _::r,_,g=>ih g (fun t s g=>by
   induction op using BoolOp.casesOn with
   | And=>exact gIf_ok' g (gTs_ok ih k xk) (k _ s)
   | Or=>exact gIf_ok g (k _ s) (gTs_ok ih k xk)) xk
theorem gPairs_ok (ih:EvOk e x):∀ {ks:List (Option Expr)} {vs:List Expr} {s:St P Po} {K:List (AV×AV)->St P Po->Tr} {Q:List (AV×AV)->AHeap->Prop},Good (gPairs e ks vs s K X)->KOf K Q->KOf X E->Ok s fun σ=>vcPairs x ks vs σ Q E
 | [],[],_,_,_,g,k,_=>k _ _ g
 | some _::_,_::_,_,_,_,g,k,xk=>ih g (fun v s g=>ih g (fun w s g=>gPairs_ok ih g (fun r s g=>k _ _ g) xk) xk) xk
 | [],_::_,_,_,_,g,_,_=>bad_no g
 | none::_,_,_,_,_,g,_,_=>bad_no g
 | some _::_,[],_,_,_,g,_,_=>bad_no g
theorem gOpt_ok (ih:EvOk e x) {o:Option Expr} {s:St P Po} {K:KE P Po} {Q:EQ} (g:Good (gOpt e o s K X)) (k:KOf K Q) (xk:KOf X E):Ok s fun σ=>vcOpt x o σ Q E:=by
 induction o using Option.casesOn with
 | none=>exact k _ _ g
 | some a=>exact ih g k xk
section
variable (gc:CallG P Po) (d:Nat) (hd:Option Nat) (ec:GE P Po) (tc:GT P Po) (sc:Scope) (m:Loc)
noncomputable def gCallE (f:Expr) (args:List Expr) (kws:List Keyword) (p:Pos) (s:St P Po) (K:KE P Po) (X:KX P Po):Tr:=onNB (!kws.isEmpty||args.any isStar||decide (20<args.length)) (gIf (isAttrE f)
 (onAttr f fun o x ap=>onNB (!(ap.endLine==p.line)||isCall0 o) (ec sc m o s (fun v s=>gMt x v s fun mt s=>gSeq (ec sc m) args s (fun vs s=>gCallM gc d hd mt v vs s K X) X) X))
 (ec sc m f s (fun g s=>gSeq (ec sc m) args s (fun vs s=>gCallV gc d hd g vs s K X) X) X))
noncomputable def gCompE (elt:Expr) (gens:List Comprehension) (sc':Scope) (p:Pos) (s:St P Po) (K:KE P Po) (X:KX P Po):Tr:=on1 gens fun gn=>onB (okComp sc' sc&&!isSetE gn.iter&&gn.ifs.isEmpty&&gn.is_async==0) (ec sc m gn.iter s (fun v s=>
 gIt v s fun xs W s=>gCmt (frzF p) xs W s (fun x s K=>onO (bindV sc' gn.target x (m.hide sc')) fun m'=>s.pre fun s=>ec (relab sc' sc) m' elt s K X) K) X)
noncomputable def gStepE (e:Expr) (s:St P Po) (K:KE P Po) (X:KX P Po):Tr:=match e with
 | .Constant c _ _=>onO (constV c) fun v=>K v s
 | .Name x p=>onO (nameV P sc m x) fun v=>gIf (frzF p) (gFrz v s K) (K v s)
 | .BoolOp op vs _=>gBo (ec sc m) op vs s K X
 | .BinOp l op r p=>ec sc m l s (fun a s=>ec sc m r s (fun b s=>gBin (frzF p) op a b s K) X) X
 | .UnaryOp op x _=>match op with
  | .USub=>onO (usubV x) fun i=>K (.int i) s
  | .Not=>ec sc m x s (fun v s=>gTru v s fun b s=>K (.bool (!b)) s) X
  | _=>bad
 | .IfExp t b o _=>tc sc m t s (fun c s=>gIf c (ec sc m b s K X) (ec sc m o s K X)) X
 | .Compare l ops rs _=>on1 ops fun op=>on1 rs fun r=>onNB (isSetE r) (ec sc m l s (fun a s=>ec sc m r s (fun b s=>gCmp op a b s fun r s=>K (.bool r) s) X) X)
 | .Attribute o x _=>onNB (isCall0 o) (ec sc m o s (fun v s=>gAttr x v s K) X)
 | .Subscript o i p=>gIf (isSliceE i) (onSlc i fun lo hi st=>onNB st.isSome (ec sc m o s (fun v s=>gOpt (ec sc m) lo s (fun a s=>gOpt (ec sc m) hi s (fun b s=>gSlc (frzF p) v a b s K) X) X) X))
  (ec sc m o s (fun v s=>ec sc m i s (fun k s=>gSub v k s K) X) X)
 | .Tuple es _ _=>onNB (es.any isStar||decide (lim<es.length)) (gSeq (ec sc m) es s (fun vs s=>K (.tup vs) s) X)
 | .List es p=>onNB (es.any isStar) (gSeq (ec sc m) es s (fun vs s=>onB (Nat.ble vs.length lim) (gNew vs (frzF p) s K)) X)
 | .Dict ks vs _=>onB (decide (ks.length<=15)&&ks.all (·.isSome)&&ks.length==vs.length) (gPairs (ec sc m) ks vs s (fun kvs s=>gNewD kvs s K) X)
 | .Call f args kws p=>gCallE gc d hd ec sc m f args kws p s K X
 | .ListComp elt gens sc' p=>gCompE ec sc m elt gens sc' p s K X
 | _=>bad
noncomputable def gStepT (e:Expr) (s:St P Po) (K:KB P Po) (X:KX P Po):Tr:=gIf (isTestE e) (match e with
  | .UnaryOp op x _=>(match op with
   | .Not=>tc sc m x s (fun b s=>K (!b) s) X
   | _=>bad)
  | .BoolOp op vs _=>gTs (tc sc m) op vs s K X
  | .IfExp t b o _=>tc sc m t s (fun c s=>gIf c (tc sc m b s K X) (tc sc m o s K X)) X
  | .Compare l ops rs _=>on1 ops fun op=>on1 rs fun r=>onNB (isSetE r) (ec sc m l s (fun a s=>ec sc m r s (fun b s=>gCmp op a b s K) X) X)
  | _=>bad)
 (ec sc m e s (fun v s=>gTru v s K) X)
end
noncomputable def gs (gc:CallG P Po) (d:Nat) (hd:Option Nat):Nat->GE P Po×GT P Po
 | 0=>(fun U U U U U U=>bad,fun U U U U U U=>bad)
 | n+1=>(gStepE gc d hd (gs gc d hd n).1 (gs gc d hd n).2,gStepT (gs gc d hd n).1 (gs gc d hd n).2)
variable {gc:CallG P Po} {d:Nat} {hd:Option Nat} {ec:GE P Po} {tc:GT P Po} {sc:Scope} {m:Loc} {s:St P Po} {K:KE P Po} {KK:KB P Po} {T:Bool->AHeap->Prop} {Q:EQ} {ecv:Cx->Vc} {tcv:Cx->Vt}
noncomputable abbrev gx (P:Params) (d:Nat) (hd:Option Nat) (sc:Scope):Cx:=⟨P,sc,hd,callF P d⟩
noncomputable def IhE (d:Nat) (hd:Option Nat) (ec:GE P Po) (ecv:Cx->Vc):Prop:=∀ sc m,EvOk (ec sc m) (ecv (gx P d hd sc) m)
noncomputable def IhT (d:Nat) (hd:Option Nat) (tc:GT P Po) (tcv:Cx->Vt):Prop:=∀ sc m,TsOk (tc sc m) (tcv (gx P d hd sc) m)
theorem usub_eq {e:Expr} {i:Int} (h:usubV e=some i):∃ j k p,e=.Constant (.int j) k p∧i = -j:=GuO.use (o:=usubV e) (C:=fun i=>∃ j k p,e=.Constant (.int j) k p∧i = -j) (by
 induction e using Expr.casesOn with
 | Constant c k p=>induction c using Const.casesOn <;> first | exact trivial | exact ⟨_,_,_,rfl,rfl⟩
 | _=>exact trivial) h
theorem gCallE_ok {f:Expr} {args:List Expr} {kws:List Keyword} {p:Pos} (hc:CallOk gc d) (ih:IhE d hd ec ecv) (g:Good (gCallE gc d hd ec sc m f args kws p s K X)) (k:KOf K Q) (xk:KOf X E):Ok s fun σ=>vcStepE (gx P d hd sc) ecv (tcv (gx P d hd sc)) m (.Call f args kws p) σ Q E:=onNB_ok g fun h g=>gIfE g
 (fun ha g=>onAttr_ok g fun o x ap hf g=>onNB_ok g fun h2 g=>hf▸(ih sc m g (fun v s g=>gMt_ok g fun mt s g=>gSeq_ok (ih sc m) g (fun vs s g=>gCallM_ok hc g k xk) xk) xk).im fun σ U q=>(if_neg (α:=Prop) h).mpr ((if_neg (α:=Prop) h2).mpr q))
 fun ha g=>(ih sc m g (fun v s g=>gSeq_ok (ih sc m) g (fun vs s g=>gCallV_ok hc g k xk) xk) xk).im fun σ U q=>(if_neg (α:=Prop) h).mpr ((if_neg (α:=Prop) (by rw [ha]; decide)).mpr q)
theorem loop_im {σ:AHeap} {v:AV} {A B:List AV->AHeap->Prop} (q:LoopP σ A v) (f:∀ xs σ,A xs σ->B xs σ):LoopP σ B v:=by
 induction q using LoopP.casesOn with
 | lst h hl q=>exact .lst h hl (f _ _ q)
 | tup hl q=>exact .tup hl (f _ _ q)
 | rng h q=>exact .rng h (f _ _ q)
 | dict h hs hl q=>exact .dict h hs hl (f _ _ q)
theorem gCompE_ok {elt:Expr} {gens:List Comprehension} {sc':Scope} {p:Pos} (ih:IhE d hd ec ecv) (g:Good (gCompE ec sc m elt gens sc' p s K X)) (k:KOf K Q) (xk:KOf X E):Ok s fun σ=>vcStepE (gx P d hd sc) ecv (tcv (gx P d hd sc)) m (.ListComp elt gens sc' p) σ Q E:=on1_ok g fun gn hg g=>onB_ok g fun h g=>
 hg▸(ih sc m g (fun v s g=>(gIt_ok g fun xs W s g=>gCmt_ok (v:=v) (B:=fun x σ' K=>vcBind sc' gn.target x (m.hide sc') fun m'=>ecv (gx P d hd (relab sc' sc)) m' elt σ' K E) g k fun x s K Q g k=>onO_ok g fun m' hm g=>(Ok.pre g fun s g=>ih _ m' g k xk).im fun σ U q=>bindV_ok hm q).im
  (S':=fun σ=>LoopP σ (fun xs σ=>CompP (frzF p) v xs σ (fun x σ' K=>vcBind sc' gn.target x (m.hide sc') fun m'=>ecv (gx P d hd (relab sc' sc)) m' elt σ' K E) Q) v) fun σ U q=>loop_im q fun xs σ q=>q.elim fun W q=>q.2 q.1) xk).im fun σ U q=>(if_pos (α:=Prop) h).mpr q
theorem gStepE_ok (hc:CallOk gc d) (ih:IhE d hd ec ecv) (it:IhT d hd tc tcv):IhE d hd (gStepE gc d hd ec tc) fun cx=>vcStepE cx ecv (tcv cx):=fun sc m e s K X Q E g k xk=>by
 induction e using Expr.casesOn with
 | Constant c n p=>exact onO_ok g fun v h g=>(k _ _ g).im fun σ U q=>constV_ok (k:=fun v=>Q v σ) h q
 | Name x p=>exact onO_ok g fun v h g=>gIfE g (fun hz g=>(gFrz_ok g k).im fun σ U q=>nameV_ok (cx:=gx P d hd sc) h ((if_pos (α:=Prop) hz).mpr q)) fun hz g=>(k _ _ g).im fun σ U q=>nameV_ok (cx:=gx P d hd sc) h ((if_neg (α:=Prop) (by rw [hz]; decide)).mpr q)
 | BoolOp op vs p=>exact gBo_ok (ih sc m) k xk g
 | BinOp l op r p=>exact ih sc m g (fun a s g=>ih sc m g (fun b s g=>gBin_ok g k) xk) xk
 | UnaryOp op x p=>
  induction op using UnaryOp.casesOn with
  | USub=>exact onO_ok g fun v h g=>(usub_eq h).elim fun j h=>h.elim fun n h=>h.elim fun p h=>h.1▸(k _ _ g).im fun σ U q=>show Q (.int (-j)) σ from h.2▸q
  | Not=>exact ih sc m g (fun a s g=>gTru_ok g fun b s g=>k _ _ g) xk
  | _=>exact bad_no g
 | IfExp t b o p=>exact it sc m g (fun c s g=>gIf_ok g (fun g=>ih sc m g k xk) fun g=>ih sc m g k xk) xk
 | Compare l ops rs p=>exact on1_ok g fun op ho g=>on1_ok g fun r hr g=>onNB_ok g fun h g=>ho▸hr▸(ih sc m g (fun a s g=>ih sc m g (fun b s g=>gCmp_ok g fun r s g=>k _ _ g) xk) xk).im fun σ U q=>(if_neg (α:=Prop) h).mpr q
 | Attribute o x p=>exact onNB_ok g fun h g=>(ih sc m g (fun v s g=>gAttr_ok g k) xk).im fun σ U q=>(if_neg (α:=Prop) h).mpr q
 | Subscript o i p=>exact gIfE g (fun hz g=>onSlc_ok g fun lo hi st p' hs g=>onNB_ok g fun h g=>hs▸(ih sc m g (fun v s g=>gOpt_ok (ih sc m) g (fun a s g=>gOpt_ok (ih sc m) g (fun b s g=>gSlc_ok g k) xk) xk) xk).im fun σ U q=>(if_neg (α:=Prop) h).mpr q) fun hz g=>(ih sc m g (fun v s g=>ih sc m g (fun a s g=>gSub_ok g k) xk) xk).im fun σ U q=>(if_neg (α:=Prop) (by rw [hz]; decide)).mpr q
 | Tuple es n p=>exact onNB_ok g fun h g=>(gSeq_ok (ih sc m) g (fun vs s g=>k _ _ g) xk).im fun σ U q=>(if_neg (α:=Prop) h).mpr q
 | List es p=>exact onNB_ok g fun h g=>(gSeq_ok (ih sc m) g (fun vs s g=>onB_ok g fun hl g=>(gNew_ok g k).im fun σ U q=>q (Nat.le_of_ble_eq_true hl)) xk).im fun σ U q=>(if_neg (α:=Prop) h).mpr q
 | Dict ks vs p=>exact onB_ok g fun h g=>(gPairs_ok (ih sc m) g (fun vs s g=>gNewD_ok g k) xk).im fun σ U q=>(if_pos (α:=Prop) h).mpr q
 | Call f args kws p=>exact gCallE_ok hc ih g k xk
 | ListComp elt gens sc' p=>exact gCompE_ok ih g k xk
 | _=>exact bad_no g
theorem gStepT_ok (ih:IhE d hd ec ecv) (it:IhT d hd tc tcv):IhT d hd (gStepT ec tc) fun cx=>vcStepT (ecv cx) (tcv cx):=fun sc m e s K X Q E g k xk=>gIfE g
 (fun hz g=>by
  have go:Ok s _->Ok s fun σ=>vcStepT (ecv (gx P d hd sc)) (tcv (gx P d hd sc)) m e σ Q E:=fun o=>o.im fun σ U q=>(if_pos (α:=Prop) hz).mpr q
  refine go ?_
  clear go
  revert g
  refine Gu.use ?_ hz
  clear hz
  induction e using Expr.casesOn with
  | UnaryOp op x p=>
   induction op using UnaryOp.casesOn with
   | Not=>exact fun g=>it sc m g (fun b s g=>k _ _ g) xk
   | _=>exact fun g=>bad_no g
  | BoolOp op vs p=>exact fun g=>gTs_ok (it sc m) k xk g
  | IfExp t b o p=>exact fun g=>it sc m g (fun c s g=>gIf_ok g (fun g=>it sc m g k xk) fun g=>it sc m g k xk) xk
  | Compare l ops rs p=>exact fun g=>on1_ok g fun op ho g=>on1_ok g fun r hr g=>onNB_ok g fun h g=>ho▸hr▸(ih sc m g (fun a s g=>ih sc m g (fun b s g=>gCmp_ok g k) xk) xk).im fun σ U q=>(if_neg (α:=Prop) h).mpr q
  | _=>exact trivial)
 fun hz g=>(ih sc m g (fun v s g=>gTru_ok g k) xk).im fun σ U q=>(if_neg (α:=Prop) (by rw [hz]; decide)).mpr q
theorem gs_ok (hc:CallOk gc d):∀ n,IhE d hd (gs gc d hd n).1 (vcs n).1∧IhT d hd (gs gc d hd n).2 (vcs n).2
 | 0=>⟨fun U U U U U U U U g=>bad_no g,fun U U U U U U U U g=>bad_no g⟩
 | n+1=>⟨gStepE_ok hc (gs_ok hc n).1 (gs_ok hc n).2,gStepT_ok (gs_ok hc n).1 (gs_ok hc n).2⟩
end
noncomputable abbrev KF' (P:Params) (Po:Post):=Fl->Loc->St P Po->Tr
noncomputable abbrev KY (P:Params) (Po:Post):=Loc->Nat->St P Po->Tr
noncomputable abbrev GS (P:Params) (Po:Post):=Option Nat->Stmt->Loc->St P Po->KF' P Po->KY P Po->Tr
section
variable {P:Params} {Po:Post}
noncomputable def mput:List Str->List OV->Loc->Loc
 | x::xs,v::vs,m=>mput xs vs (m.put x v)
 | _,_,m=>m
theorem allV_of:∀ {xs:List Str} {m:Loc} {k:List OV->Loc->Prop},(∀ vs,k vs (mput xs vs m))->allV xs m k
 | [],_,_,h=>h []
 | _::_,_,_,h=>fun v=>allV_of fun vs=>h (v::vs)
section
variable (gc:CallG P Po) (d:Nat) (gx':Option Nat->GE P Po) (gt:Option Nat->GT P Po) (gS:GS P Po) (md:Stmt->List Str) (hd:Option Nat) (sc:Scope)
noncomputable def gA (t:Expr) (v:AV) (m:Loc) (s:St P Po) (K:Loc->St P Po->Tr) (X:KY P Po):Tr:=match t with
 | .Attribute o x _=>gx' hd sc m o s (fun ov s=>gSet x v ov s (K m)) (X m)
 | .Subscript o i _=>onNB (isSliceE i) (gx' hd sc m o s (fun ov s=>gx' hd sc m i s (fun iv s=>gSetI v ov iv s (K m)) (X m)) (X m))
 | t=>onO (bindV sc t v m) fun m=>K m s
noncomputable def gLv1 (m:Loc) (s:St P Po) (f:Loc->St P Po->Tr):Tr:=s.pre fun s=>onE (s.h.get 18) (f m s) fun x=>f (m.put x.1.down.x (some x.1.down.b)) ((s.nh (x.2 ())).chk (m x.1.down.x) (some x.1.down.a))
noncomputable def gLv (m:Loc) (s:St P Po) (f:Loc->St P Po->Tr):Tr:=gLv1 m s fun m s=>gLv1 m s f
noncomputable def gBlk:List Stmt->Loc->St P Po->KF' P Po->KY P Po->Tr
 | [],m,s,K,_=>K .next m s
 | a::r,m,s,K,X=>gLv m s fun m s=>gS hd a m s (fun f m s=>match f with
  | .next=>gBlk r m s K X
  | f=>K f m s) X
noncomputable def catchV (e:Expr):Option Addr:=match e with
 | .Name x _=>if sc.names.lookup x==some .globalImplicit then (match glob (KF P) x with
  | some (.fn a)=>if isExcIn (KF P) a&&typeIn (KF P) (.ref a)==some (.type "type") then some a else none
  | _=>none) else none
 | _=>none
noncomputable def gLoop (J:LJ) (V:List Str) (K:KF' P Po):KF' P Po:=fun f m s=>match f with
 | .next=>s.pre (gGo J (V.map m))
 | .cont=>s.pre (gGo J (V.map m))
 | .brk=>K .next m s
 | .ret v=>K (.ret v) m s
noncomputable def gTurn (t:Expr) (b:List Stmt) (J:LJ) (K:KF' P Po) (X:KY P Po) (m:Loc) (s:St P Po):Tr:=gLv m s fun m s=>gt hd sc m t s (fun c s=>gIf c (gBlk gS hd b m s (gLoop J (loopV md b) K) X) (K .next m s)) (X m)
noncomputable def gWh (t:Expr) (b:List Stmt) (m:Loc) (s:St P Po) (K:KF' P Po) (X:KY P Po):Tr:=onH [⟨(loopV md b).map m,(loopV md b).map m⟩,⟨s.L,s.L⟩] (s.h.get 14) fun x=>
 .n1 (⟨x.1.M x.1.x,s.L⟩::chkM (x.1.V x.1.x) ((loopV md b).map m) s.A) ({y:x.1.ι // x.1.C y}×(Nat->OV)) fun y=>gTurn gt gS md hd sc t b (Jw x.1.N x.1.C x.1.M x.1.V (x.1.N y.1.1)) K X (mput (loopV md b) (fill (x.1.V y.1.1) y.2 0) m) ⟨x.1.M y.1.1,x.2 y.1,[]⟩
noncomputable def gFr (t:Expr) (b:List Stmt) (xs:List AV) (W:Wt) (m:Loc) (s:St P Po) (K:KF' P Po) (X:KY P Po):Tr:=onH [⟨xs,xs⟩,⟨(forV md t b).map m,(forV md t b).map m⟩,⟨s.L,s.L⟩] (s.h.get 15) fun x=>
 .nd (⟨x.1.l.map x.1.f,xs⟩::⟨x.1.M x.1.l x.1.s,s.L⟩::chkM (x.1.V x.1.l x.1.s) ((forV md t b).map m) s.A) ({y:x.1.γ // x.1.C [] y}×(Nat->OV)) (fun y=>K .next (mput (forV md t b) (fill (x.1.V [] y.1.1) y.2 0) m) ⟨x.1.M [] y.1.1,x.2 (.inl y.1),chkW W (x.1.M [] y.1.1)⟩)
  (x.1.B×(Nat->OV)) fun y=>onO (bindV sc t (x.1.f y.1.x) (mput (forV md t b) (fill (x.1.V (y.1.x::y.1.l) y.1.s) y.2 0) m)) fun m=>gBlk gS hd b m ⟨x.1.M (y.1.x::y.1.l) y.1.s,x.2 (.inr y.1),chkW W (x.1.M (y.1.x::y.1.l) y.1.s)⟩ (gLoop (x.1.J id y.1.l) (forV md t b) K) X
noncomputable def isC (P:Params) (a:Addr):AObj->Bool
 | .exc c _=>subIn (KF P) (.ref c) (.ref a)==some true
 | _=>false
noncomputable def St.reh (s:St P Po) (hd:Option Nat) (i:Nat):St P Po:=match hd with
 | none=>s
 | some j=>s.chk j i
noncomputable def gHan (t:Expr) (ox:Option Str) (hb:List Stmt) (K:KF' P Po) (X:KY P Po):KY P Po:=fun m i s=>onO (catchV (P:=P) sc t) fun a=>s.ob i fun U ob s=>onB (isC P a ob) (match ox with
 | none=>onNB hb.isEmpty (gBlk gS (some i) hb m s K X)
 | some x=>onNB (!(sc.names.lookup x==some .local)||hb.isEmpty) (gBlk gS (some i) hb (m.put x (some (.ref i))) s (fun f m s=>K f (m.put x none) s) fun m j s=>X (m.put x none) j s))
noncomputable def gTry (b:List Stmt) (hs:List ExceptHandler) (fb:List Stmt) (m:Loc) (s:St P Po) (K:KF' P Po) (X:KY P Po):Tr:=match hs with
 | []=>onNB fb.isEmpty (gBlk gS hd b m s (fun f m s=>gBlk gS hd fb m s (fun f' m s=>match f' with
   | .next=>K f m s
   | _=>bad) fun U U U=>bad) fun m i s=>gBlk gS (some i) fb m s (fun f' m s=>match f' with
   | .next=>X m i s
   | _=>bad) fun U U U=>bad)
 | h::r=>onNB (!fb.isEmpty) (onZ r (match h with
  | .ExceptHandler ot ox hb _=>onO ot fun t=>gBlk gS hd b m s K (gHan gS sc t ox hb K X)))
noncomputable def gStepS (st:Stmt) (m:Loc) (s:St P Po) (K:KF' P Po) (X:KY P Po):Tr:=match st with
 | .Expr e _=>onNB (isCompE e) (gx' hd sc m e s (fun U s=>K .next m s) (X m))
 | .Pass _=>K .next m s
 | .Break _=>K .brk m s
 | .Continue _=>K .cont m s
 | .Return oe _=>gOpt (gx' hd sc m) oe s (fun v s=>K (.ret v) m s) (X m)
 | .Assign ts e _=>on1 ts fun t=>onB (asgOk t e) (gx' hd sc m e s (fun v s=>gA gx' hd sc t v m s (fun m s=>K .next m s) X) (X m))
 | .AugAssign t op e _=>(match t with
  | .Name x _=>onO (nameV P sc m x) fun old=>gx' hd sc m e s (fun v s=>gAug op old v s fun w s=>onB (locNm sc x) (K .next (m.put x (some w)) s)) (X m)
  | .Attribute o x _=>gx' hd sc m o s (fun ov s=>gAttr x ov s fun old s=>gx' hd sc m e s (fun v s=>gAug op old v s fun w s=>gSet x w ov s fun s=>K .next m s) (X m)) (X m)
  | _=>bad)
 | .If t b o _=>gt hd sc m t s (fun c s=>gIf c (gBlk gS hd b m s K X) (gBlk gS hd o m s K X)) (X m)
 | .While t b o _=>onNB (!o.isEmpty) (gWh gt gS md hd sc t b m s K X)
 | .For tgt iter b o _=>onNB (!o.isEmpty||isSetE iter) (gx' hd sc m iter s (fun v s=>gIt v s fun xs W s=>gFr gS md hd sc tgt b xs W m s K X) (X m))
 | .Raise oe c _=>onO oe fun e=>onNB c.isSome (gx' hd sc m e s (fun v s=>onR v fun i=>s.ob i fun U o s=>match o with
  | .exc c _=>onB (typeIn (KF P) (.ref c)==some (.type "type")) (X m i (s.reh hd i))
  | _=>bad) (X m))
 | .Try b hs o fb _=>onNB (!o.isEmpty) (gTry gS hd sc b hs fb m s K X)
 | _=>bad
end
noncomputable def gN (gc:CallG P Po) (d:Nat) (sc:Scope):Nat->GS P Po
 | 0=>fun U U U U U U=>bad
 | n+1=>fun hd=>gStepS (fun hd=>(gs gc d hd 12).1) (fun hd=>(gs gc d hd 12).2) (gN gc d sc n) (modN n) hd sc
noncomputable def fnV (P:Params) (a:Addr) (args:List AV):Option (Scope×List Stmt×Loc):=match (KF P).lookup a with
 | some ⟨_,_,.func fd,_⟩=>match fd.body with
  | .stmts body=>if okFn (KF P) fd then (bindA (KF P) fd args).map fun m=>(fd.scope,body,m) else none
  | _=>none
 | _=>none
noncomputable def gcF (P:Params) (Po:Post):Nat->CallG P Po
 | 0=>fun U U U U U U=>bad
 | d+1=>fun hd a args s K X=>onO (fnV P a args) fun x=>gBlk (gN (gcF P Po d) d x.1 12) hd x.2.1 x.2.2 s (fun f U s=>match f with
  | .ret v=>K v s
  | .next=>K .none s
  | _=>bad) fun U i s=>X i s
noncomputable def gRet (v:AV) (s:St P Po) (K:KE P Po):Tr:=s.pre fun s=>s.as v K
noncomputable def gFin (o:Out) (s:St P Po):Tr:=s.pre fun s=>onH [⟨s.L,s.L⟩,⟨o,o⟩] (s.h.get 0) fun x=>.lf (⟨x.1.down.M,s.L⟩::⟨x.1.down.o,o⟩::s.A)
noncomputable def gTop (P:Params) (Po:Post) (d:Nat) (hd:Option Nat) (a:Addr) (args:List AV) (L:HL) (h:Hn P Po []):Tr:=gcF P Po d hd a args ⟨L,h,[]⟩ (fun v s=>gRet v s fun v=>gFin (.ok v)) fun i=>gFin (.er i)
theorem gFin_ok {o:Out} {s:St P Po} {Q:EQ} {E:EX} (h:∀ x,Po.R x->SP (Po.M x) ((Po.o x).on Q E)) (g:Good (gFin o s)):Ok s (o.on Q E):=Ok.pre g fun s g=>onH_ok g fun x U g=>by
 obtain ⟨e1,e2,e3⟩:=good_lf g
 have q:=h x.1.down.x x.1.down.h
 rw [← x.1.down.eM,← x.1.down.eo,show x.1.down.M=s.L from e1,show x.1.down.o=o from e2] at q
 exact ⟨e3,q⟩
end
section
variable {P:Params} {Po:Post} {gc:CallG P Po} {d:Nat} {ge:Option Nat->GE P Po} {gt:Option Nat->GT P Po} {gS:GS P Po} {md:Stmt->List Str} {hd:Option Nat} {sc:Scope} {ecv:Cx->Vc} {tcv:Cx->Vt} {xcv:Cx->Vs}
 {m:Loc} {s:St P Po} {K:KF' P Po} {X:KY P Po} {Q:SQ} {E:SX} {b:List Stmt}
noncomputable def KOk (K:KF' P Po) (Q:SQ):Prop:=∀ f m s,Good (K f m s)->Ok s fun σ=>Q f σ m
noncomputable def XOk (X:KY P Po) (E:SX):Prop:=∀ m,KOf (X m) fun i σ=>E i σ m
noncomputable def IhS (d:Nat) (sc:Scope) (gS:GS P Po) (xcv:Cx->Vs):Prop:=∀ hd st m s K X Q E,Good (gS hd st m s K X)->KOk K Q->XOk X E->Ok s fun σ=>xcv (gx P d hd sc) st σ m Q E
theorem gA_ok {t:Expr} {v:AV} {KS:Loc->St P Po->Tr} {k:AHeap->Loc->Prop} (ih:∀ hd,IhE d hd (ge hd) ecv) (g:Good (gA ge hd sc t v m s KS X)) (hk:∀ m s,Good (KS m s)->Ok s fun σ=>k σ m) (xk:XOk X E):Ok s fun σ=>vcA (gx P d hd sc) (ecv (gx P d hd sc)) t v σ m k E:=by
 induction t using Expr.casesOn with
 | Attribute o x p=>exact ih hd sc m g (fun ov s g=>gSet_ok g fun s g=>hk _ _ g) (xk m)
 | Subscript o i p=>exact onNB_ok g fun h g=>(ih hd sc m g (fun ov s g=>ih hd sc m g (fun iv s g=>gSetI_ok g fun s g=>hk _ _ g) (xk m)) (xk m)).im fun σ U q=>(if_neg (α:=Prop) h).mpr q
 | Name x p=>exact onO_ok g fun m' hm g=>(hk _ _ g).im fun σ U q=>bindV_ok (k:=fun m=>k σ m) hm q
 | Tuple ts n p=>exact onO_ok g fun m' hm g=>(hk _ _ g).im fun σ U q=>bindV_ok (k:=fun m=>k σ m) hm q
 | _=>exact bad_no g
theorem gLv1_ok {f:Loc->St P Po->Tr} {S:Loc->AHeap->Prop} (g:Good (gLv1 m s f)) (k:∀ m s,Good (f m s)->Ok s (S m)):Ok s (S m):=Ok.pre g fun s g=>onE_ok g (fun x U g=>by
 have o:=Ok.out (k _ _ g)
 have e:m.put x.1.down.x (some x.1.down.b)=m:=funext fun y=>by
  show (if y=x.1.down.x then some x.1.down.b else m y)=m y
  by_cases h:y=x.1.down.x
  ·rw [if_pos h,h,← x.1.down.h]; exact o.1.symm
  ·rw [if_neg h]
 rw [e] at o
 exact o.2) (k _ _)
theorem gLv_ok {f:Loc->St P Po->Tr} {S:Loc->AHeap->Prop} (g:Good (gLv m s f)) (k:∀ m s,Good (f m s)->Ok s (S m)):Ok s (S m):=gLv1_ok g fun m s g=>gLv1_ok g k
theorem gBlk_ok (ih:IhS d sc gS xcv) (k:KOk K Q) (xk:XOk X E):∀ {b:List Stmt} {m:Loc} {s:St P Po},Good (gBlk gS hd b m s K X)->Ok s fun σ=>vcBlk (xcv (gx P d hd sc)) b σ m Q E
 | [],m,s,g=>k _ _ _ g
 | a::r,m,s,g=>gLv_ok (S:=fun m σ=>vcBlk (xcv (gx P d hd sc)) (a::r) σ m Q E) g fun m s g=>ih hd a m s _ X _ E g (fun f m s g=>by
   induction f using Fl.casesOn with
   | next=>exact gBlk_ok ih k xk g
   | _=>exact k _ _ _ g) xk
theorem gLoop_ok {J:LJ} {V:List Str} {JS:AHeap->Loc->Prop} (k:KOk K Q) (h:∀ σ m L V',Mt' V' (V.map m)->J L V'->H σ L->JS σ m):KOk (gLoop J V K) (inLoop JS Q):=fun f m s g=>by
 have go:∀ s:St P Po,Good (gGo J (V.map m) s)->Ok s fun σ=>JS σ m:=fun s g=>have q:=gGo_ok g; ⟨q.1,fun σ z=>q.2.elim fun V' q=>h σ m _ V' q.1 q.2 z⟩
 induction f using Fl.casesOn with
 | next=>exact Ok.pre g go
 | cont=>exact Ok.pre g go
 | brk=>exact k _ _ _ g
 | ret v=>exact k _ _ _ g
inductive WJ (d:WD) (k:Nat) (σ:AHeap) (vs:List OV):Prop
 | mk (y:d.ι) (c:d.C y) (hk:k=d.N y) (hv:Mt' (d.V y) vs) (h:H σ (d.M y))
theorem gWh_ok {t:Expr} (it:∀ hd,IhT d hd (gt hd) tcv) (ih:IhS d sc gS xcv) (k:KOk K Q) (xk:XOk X E) (g:Good (gWh gt gS md hd sc t b m s K X)):Ok s fun σ=>∃ (J:Nat->AHeap->List (Option AV)->Prop) (n₀:Nat),J n₀ σ ((loopV md b).map m)∧∀ k σ,allV (loopV md b) m fun vs m=>J k σ vs->
   tcv (gx P d hd sc) m t σ (fun c σ=>(c=true->vcBlk (xcv (gx P d hd sc)) b σ m (inLoop (fun σ m=>∃ k',k'<k∧J k' σ ((loopV md b).map m)) Q) E)∧(c=false->Q .next σ m)) fun i σ=>E i σ m:=onH_ok g fun x U g=>by
 obtain ⟨e1,g⟩:=good_n1 g
 obtain ⟨w,r⟩:=x
 have e2:=chkM_ok e1.2
 refine ⟨e2.2,fun σ h=>⟨WJ w,w.N w.x,.mk w.x w.h rfl e2.1 ((show w.M w.x=s.L from e1.1)▸h),fun n σ=>allV_of fun vs j=>?_⟩⟩
 obtain ⟨y,c,rfl,hv,h⟩:=j
 obtain ⟨f,hf⟩:=fill_is hv
 subst hf
 refine (gLv_ok (S:=fun m σ=>tcv (gx P d hd sc) m t σ (fun c σ=>(c=true->vcBlk (xcv (gx P d hd sc)) b σ m (inLoop (fun σ m=>∃ k',k'<w.N y∧WJ w k' σ ((loopV md b).map m)) Q) E)∧(c=false->Q .next σ m)) fun i σ=>E i σ m) (g (⟨y,c⟩,f)) fun m s g=>it hd sc _ g (fun b s g=>gIf_ok g (fun g=>gBlk_ok ih (gLoop_ok k fun σ m L V' hv j h=>?_) xk g) fun g=>k _ _ _ g) (xk _)).2 σ h
 induction j using Jw.casesOn with
 | mk y' c' hn=>exact ⟨_,hn,.mk y' c' rfl hv h⟩
inductive GJ (d:FD MV) (xs:List AV) (σ:AHeap) (vs:List OV):Prop
 | mk (l:List d.β) (t:d.γ) (c:d.C l t) (hx:xs=l.map d.f) (hv:Mt' (d.V l t) vs) (h:H σ (d.M l t))
theorem gFr_ok {t:Expr} {v:AV} {xs:List AV} {W:Wt} (ih:IhS d sc gS xcv) (k:KOk K Q) (xk:XOk X E) (g:Good (gFr gS md hd sc t b xs W m s K X)):Ok s fun σ=>WtOk W σ v->∃ (J:List AV->AHeap->List (Option AV)->Prop),J xs σ ((forV md t b).map m)∧∀ σ',allV (forV md t b) m fun vs m=>
   (∀ x r,J (x::r) σ' vs->standsA σ v σ'∧vcBind sc t x m fun m=>vcBlk (xcv (gx P d hd sc)) b σ' m (inLoop (fun σ m=>J r σ ((forV md t b).map m)) Q) E)∧(J [] σ' vs->standsA σ v σ'∧Q .next σ' m):=onH_ok g fun x U g=>by
 obtain ⟨⟨e0,e1⟩,g1,g2⟩:=good_nd g
 obtain ⟨w,r⟩:=x
 have e2:=chkM_ok e1.2
 refine ⟨e2.2,fun σ h hw=>⟨GJ w,.mk w.l w.s w.h (show w.l.map w.f=xs from e0).symm e2.1 ((show w.M w.l w.s=s.L from e1.1)▸h),fun σ'=>allV_of fun vs=>⟨fun x r j=>?_,fun j=>?_⟩⟩⟩
 ·obtain ⟨l,u,c,hx,hv,h⟩:=j
  obtain ⟨f,rfl⟩:=fill_is hv
  induction l using List.casesOn with
  | nil=>injection hx
  | cons y l=>
   (injection hx with e1 e2; subst e1 e2)
   refine onO_ok (g2 (⟨y,l,u,c⟩,f)) fun m' hm g=>?_
   have lp:KOk (gLoop (w.J id l) (forV md t b) K) (inLoop (fun σ m=>GJ w (l.map w.f) σ ((forV md t b).map m)) Q):=gLoop_ok k fun σ m L V' hv j h=>by
    induction j using Jf.casesOn with
    | mk t' c'=>exact .mk l t' c' rfl (by rw [← List.map_id (w.V l t')]; exact hv) h
   have o:=gBlk_ok ih lp xk g
   exact ⟨hw _ _ o.1 h,bindV_ok (k:=fun m=>vcBlk _ b σ' m _ _) hm (o.2 _ h)⟩
 ·obtain ⟨l,u,c,hx,hv,h⟩:=j
  obtain ⟨f,rfl⟩:=fill_is hv
  induction l using List.casesOn with
  | cons=>injection hx
  | nil=>have o:=k _ _ _ (g1 (⟨u,c⟩,f)); exact ⟨hw _ _ o.1 h,o.2 _ h⟩
theorem onF {B:Prop} {f:Fl} {t:Tr} (g:Good (match f with | .next=>t | _=>bad)) (k:f=.next->Good t->B):B:=by induction f using Fl.casesOn <;> first | exact k rfl g | exact bad_no g
theorem catchV_ok {e:Expr} {a:Addr} {k:Addr->Prop} (h:catchV (P:=P) sc e=some a) (q:k a):vcCatch P sc e k:=GuO.use (o:=catchV (P:=P) sc e) (C:=fun a=>k a->vcCatch P sc e k) (by
 induction e using Expr.casesOn with
 | Name x p=>
  refine GuO.ite fun hl=>?_
  generalize hg:glob (KF P) x=o
  induction o using Option.casesOn with
  | none=>exact trivial
  | some v=>
   induction v using AV.casesOn with
   | fn c=>
    refine GuO.ite fun hc q=>(if_pos (α:=Prop) hl).mpr ?_
    rw [hg]
    exact (if_pos (α:=Prop) hc).mpr q
   | _=>exact trivial
 | _=>exact trivial) h q
theorem gFinally_ok {fb:List Stmt} (ih:IhS d sc gS xcv) (k:KOk K Q) (xk:XOk X E) (h:¬ fb.isEmpty=true) (g:Good (gBlk gS hd b m s (fun f m s=>gBlk gS hd fb m s (fun f' m s=>match f' with
   | .next=>K f m s
   | _=>bad) fun U U U=>bad) fun m i s=>gBlk gS (some i) fb m s (fun f' m s=>match f' with
   | .next=>X m i s
   | _=>bad) fun U U U=>bad)):Ok s fun σ=>vcBlk (xcv (gx P d hd sc)) b σ m (fun f σ m=>vcBlk (xcv (gx P d hd sc)) fb σ m (onNext fun σ m=>Q f σ m) fun U U U=>False) fun i σ m=>vcBlk (xcv (gx P d (some i) sc)) fb σ m (onNext fun σ m=>E i σ m) fun U U U=>False:=
 gBlk_ok ih (fun f m s g=>gBlk_ok ih (fun f' m s g=>onF g fun h g=>h▸k _ _ _ g) (fun U U U=>bad_no) g) (fun m i s g=>gBlk_ok ih (fun f' m s g=>onF g fun h g=>h▸xk _ _ _ g) (fun U U U=>bad_no) g) g
theorem gHan_ok {t:Expr} {ox:Option Str} {hb:List Stmt} (ih:IhS d sc gS xcv) (k:KOk K Q) (xk:XOk X E):XOk (gHan gS sc t ox hb K X) fun i σ m=>vcCatch P sc t fun a=>CatchP P i a σ (match ox with
  | none=>if hb.isEmpty then False else vcBlk (xcv (gx P d (some i) sc)) hb σ m Q E
  | some x=>if !(sc.names.lookup x==some .local)||hb.isEmpty then False else vcBlk (xcv (gx P d (some i) sc)) hb σ (m.put x (some (.ref i))) (fun f σ m=>Q f σ (m.put x none)) (fun j σ m=>E j σ (m.put x none))):=fun m i s g=>onO_ok g fun a ha g=>Ok.at g fun n ob s g=>onB_ok g fun hc g=>by
 have fin:∀ {A:AHeap->Prop},Ok s A->Ok s fun σ=>s.L[n]?=some (i,ob)->vcCatch P sc t fun a=>CatchP P i a σ (A σ):=fun q=>q.im fun σ z q e=>catchV_ok ha (by
  induction ob using AObj.casesOn with
  | exc c fs=>exact ⟨z.at e,eq_of_beq hc,q⟩
  | _=>injection hc)
 refine fin ?_
 induction ox using Option.casesOn with
 | none=>exact onNB_ok g fun h g=>(gBlk_ok ih k xk g).im fun σ U q=>(if_neg (α:=Prop) h).mpr q
 | some x=>exact onNB_ok g fun h g=>(gBlk_ok ih (Q:=fun f σ m=>Q f σ (m.put x none)) (E:=fun j σ m=>E j σ (m.put x none)) (fun f m s g=>k _ _ _ g) (fun m j s g=>xk _ _ _ g) g).im fun σ U q=>(if_neg (α:=Prop) h).mpr q
theorem gTry_ok {hs:List ExceptHandler} {o fb:List Stmt} {p:Pos} {ec:Cx->Vc} {tc:Cx->Vt} (ih:IhS d sc gS xcv) (k:KOk K Q) (xk:XOk X E) (ho:¬ (!o.isEmpty)=true) (g:Good (gTry gS hd sc b hs fb m s K X)):Ok s fun σ=>vcStepS (gx P d hd sc) ec tc xcv md (.Try b hs o fb p) σ m Q E:=by
 induction hs using List.casesOn with
 | nil=>exact onNB_ok g fun h g=>(gFinally_ok ih k xk h g).im fun σ U q=>(if_neg (α:=Prop) ho).mpr ((if_neg (α:=Prop) h).mpr q)
 | cons h r=>
  induction h using ExceptHandler.casesOn with
  | ExceptHandler ot ox hb hp=>exact onNB_ok g fun h g=>onZ_ok g fun hr g=>onO_ok g fun t ht g=>hr▸ht▸(gBlk_ok ih k (gHan_ok ih k xk) g).im fun σ U q=>(if_neg (α:=Prop) ho).mpr ((if_neg (α:=Prop) h).mpr q)
theorem Ok.reh {s:St P Po} {S:AHeap->Prop} {hd:Option Nat} {i:Nat} (o:Ok (s.reh hd i) S):(hd.isNone||hd==some i)=true∧Ok s S:=by
 induction hd using Option.casesOn with
 | none=>exact ⟨rfl,o⟩
 | some j=>exact ⟨by rw [(Ok.out o).1]; exact beq_self_eq_true _,(Ok.out o).2⟩
theorem gStepS_ok (ih:∀ hd,IhE d hd (ge hd) ecv) (it:∀ hd,IhT d hd (gt hd) tcv) (is:IhS d sc gS xcv):IhS d sc (fun hd=>gStepS ge gt gS md hd sc) fun cx=>vcStepS cx ecv tcv xcv md:=fun hd st m s K X Q E g k xk=>by
 induction st using Stmt.casesOn with
 | Expr e p=>exact onNB_ok g fun h g=>(ih hd sc m g (fun U s g=>k _ _ _ g) (xk m)).im fun σ U q=>(if_neg (α:=Prop) h).mpr q
 | Pass p=>exact k _ _ _ g
 | Break p=>exact k _ _ _ g
 | Continue p=>exact k _ _ _ g
 | Return oe p=>exact gOpt_ok (ih hd sc m) g (fun v s g=>k _ _ _ g) (xk m)
 | Assign ts e p=>exact on1_ok g fun t ht g=>onB_ok g fun h g=>ht▸(ih hd sc m g (fun v s g=>gA_ok ih g (fun m s g=>k _ _ _ g) xk) (xk m)).im fun σ U q=>(if_neg (α:=Prop) (by rw [h]; decide)).mpr q
 | AugAssign t op e p=>
  induction t using Expr.casesOn with
  | Name x p=>exact onO_ok g fun old hx g=>(ih hd sc m g (fun v s g=>gAug_ok (Q:=fun w σ=>if locNm sc x then Q .next σ (m.put x (some w)) else False) g fun w s g=>onB_ok g fun h g=>(k _ _ _ g).im fun σ U q=>(if_pos (α:=Prop) h).mpr q) (xk m)).im fun σ U q=>nameV_ok (cx:=gx P d hd sc) (k:=fun old=>ecv (gx P d hd sc) m e σ (fun v σ=>AugP σ (fun w σ=>if locNm sc x then Q .next σ (m.put x (some w)) else False) op old v) fun i σ=>E i σ m) hx q
  | Attribute o x p=>exact ih hd sc m g (fun ov s g=>gAttr_ok g fun old s g=>ih hd sc m g (fun v s g=>gAug_ok g fun w s g=>gSet_ok g fun s g=>k _ _ _ g) (xk m)) (xk m)
  | _=>exact bad_no g
 | If t b o p=>exact it hd sc m g (fun c s g=>gIf_ok g (gBlk_ok is k xk) (gBlk_ok is k xk)) (xk m)
 | While t b o p=>exact onNB_ok g fun h g=>(gWh_ok it is k xk g).im fun σ U q=>(if_neg (α:=Prop) h).mpr q
 | For t i b o p=>exact onNB_ok g fun h g=>(ih hd sc m g (fun v s g=>(gIt_ok g fun xs W s g=>gFr_ok (v:=v) is k xk g).im (S':=fun σ=>LoopP σ (fun xs σ=>∃ (J:List AV->AHeap->List (Option AV)->Prop),J xs σ ((forV md t b).map m)∧∀ σ',allV (forV md t b) m fun vs m=>
   (∀ x r,J (x::r) σ' vs->standsA σ v σ'∧vcBind sc t x m fun m=>vcBlk (xcv (gx P d hd sc)) b σ' m (inLoop (fun σ m=>J r σ ((forV md t b).map m)) Q) E)∧(J [] σ' vs->standsA σ v σ'∧Q .next σ' m)) v) fun σ U q=>loop_im q fun xs σ q=>q.elim fun W q=>q.2 q.1) (xk m)).im fun σ U q=>(if_neg (α:=Prop) h).mpr q
 | Raise oe c p=>exact onO_ok g fun e he g=>onNB_ok g fun h g=>he▸(ih hd sc m g (fun v s g=>onR_ok g fun i hv g=>hv▸Ok.at g fun n o s g=>by
   induction o using AObj.casesOn with
   | exc c fs=>exact onB_ok g fun ht g=>have o:=Ok.reh (xk _ _ _ g); o.2.im fun σ z q e=>⟨z.at e,eq_of_beq ht,o.1,q⟩
   | _=>exact bad_no g) (xk m)).im fun σ U q=>(if_neg (α:=Prop) h).mpr q
 | Try b hs o fb p=>exact onNB_ok g fun h g=>gTry_ok is k xk h g
 | _=>exact bad_no g
theorem gN_ok (hc:CallOk gc d):∀ n,IhS d sc (gN gc d sc n) (vcN n)
 | 0=>fun U U U U U U U U g=>bad_no g
 | n+1=>gStepS_ok (fun hd=>(gs_ok hc 12).1) (fun hd=>(gs_ok hc 12).2) (gN_ok hc n)
noncomputable def retQ (Q:EQ):SQ:=fun f σ U=>match f with
 | .ret v=>Q v σ
 | .next=>Q .none σ
 | _=>False
theorem fnV_ok {a:Addr} {args:List AV} {x:Scope×List Stmt×Loc} {call:CallT} {σ:AHeap} {Q:EQ} {E:EX} (h:fnV P a args=some x) (q:vcBlk (vcN 12 ⟨P,x.1,hd,call⟩) x.2.1 σ x.2.2 (retQ Q) fun i σ U=>E i σ):vcFn P call hd a args σ Q E:=by
 unfold fnV at h
 unfold vcFn
 induction hl:(KF P).lookup a using Option.casesOn with
 | none=>rw [hl] at h; injection h
 | some o=>
  rw [hl] at h
  obtain ⟨o1,o2,od,o3⟩:=o
  induction od using Data.casesOn with
  | func fd=>
   dsimp only at h ⊢
   induction hb:fd.body using FuncBody.casesOn with
   | stmts body=>
    rw [hb] at h
    refine ifS h (fun ho h=>(if_pos (α:=Prop) ho).mpr ?_) nofun
    obtain ⟨m,hm,rfl⟩:=Option.map_eq_some_iff.mp h
    exact someP_of hm q
   | _=>rw [hb] at h; injection h
  | _=>injection h
theorem gcF_ok:∀ d,CallOk (gcF P Po d) d
 | 0=>fun U U U U U U U U g=>bad_no g
 | d+1=>fun hd a args s K X Q E g k xk=>onO_ok g fun x hx g=>(gBlk_ok (gN_ok (gcF_ok d) 12) (Q:=retQ Q) (E:=fun i σ U=>E i σ) (fun f m s g=>by induction f using Fl.casesOn <;> first | exact k _ _ g | exact bad_no g) (fun m i s g=>xk _ _ g) g).im fun σ U q=>fnV_ok hx q
theorem cx_of {a:Addr} {args:List AV} {L:HL} (h:Hn P Po []) (g:(gTop P Po d hd a args L h).sd Chk.l=(gTop P Po d hd a args L h).sd Chk.r):CX P d hd a args L Po:=fun Q E q=>
 have o:=(gcF_ok d g (Q:=Q) (E:=E) (fun v s g=>Ok.pre g fun s g=>Ok.as (Q:=Q) g fun v s g=>gFin_ok q g) fun i s g=>gFin_ok q g).2
 fun σ h=>⟨o σ h⟩
noncomputable def gSe (c:Chk->Chk) (P:Params) (p:Post) (n:Nat) (a:Addr) (args:List AV) (A:HL) (h:∀ F,Hn P (p.fr F) []):Nat->Option Nat->HL->Tr:=fun d hd F=>(gTop P (p.fr F) (d+n) hd a args (A++F) (h F)).sd c
noncomputable def gSd (c:Chk->Chk) (P:Params) (p:Post) (n:Nat) (a:Addr) (args:List AV) (A:HL) (h:∀ (d:Nat) (F:HL),Hn P (p.fr F) []):Nat->Option Nat->HL->Tr:=fun d hd F=>(gTop P (p.fr F) (d+n) hd a args (A++F) (h d F)).sd c
noncomputable def gSn (c:Chk->Chk) (P:Params) (p:Post) (n:Nat) (a:Addr) (args:List AV) (A:HL) (h:∀ F,Hn P (p.fr F) []):Nat->HL->Tr:=fun d F=>(gTop P (p.fr F) (d+n) none a args (A++F) (h F)).sd c
noncomputable def gSm (c:Chk->Chk) (P:Params) (p:Post) (n:Nat) (a:Addr) (args:List AV) (A:HL) (h:∀ (d:Nat) (F:HL),Hn P (p.fr F) []):Nat->HL->Tr:=fun d F=>(gTop P (p.fr F) (d+n) none a args (A++F) (h d F)).sd c
theorem cf_of {n:Nat} {a:Addr} {args:List AV} {A:HL} {p:Post} {z:Bool} (h:∀ F,Hn P (p.fr F) []) (g:gSe Chk.l P p n a args A h=gSe Chk.r P p n a args A h):CF P n a args A p z:=fun d hd F q=>cx_of (h F) (congrFun (congrFun (congrFun g d) hd) F)
theorem cfd_of {n:Nat} {a:Addr} {args:List AV} {A:HL} {p:Post} {z:Bool} (h:∀ (d:Nat) (F:HL),Hn P (p.fr F) []) (g:gSd Chk.l P p n a args A h=gSd Chk.r P p n a args A h):CF P n a args A p z:=fun d hd F q=>cx_of (h d F) (congrFun (congrFun (congrFun g d) hd) F)
theorem CF.up {n m:Nat} {a:Addr} {args:List AV} {A:HL} {p:Post} {z:Bool} (h:CF P n a args A p z):CF P (n+m) a args A p z:=fun d hd F q=>by have:=h (d+m) hd F q; rwa [Nat.add_assoc,Nat.add_comm m] at this
theorem cfn_of {n:Nat} {a:Addr} {args:List AV} {A:HL} {p:Post} (h:∀ F,Hn P (p.fr F) []) (g:gSn Chk.l P p n a args A h=gSn Chk.r P p n a args A h):CF P n a args A p true:=fun d hd F q=>by cases q rfl; exact cx_of (h F) (congrFun (congrFun g d) F)
theorem cfnd_of {n:Nat} {a:Addr} {args:List AV} {A:HL} {p:Post} (h:∀ (d:Nat) (F:HL),Hn P (p.fr F) []) (g:gSm Chk.l P p n a args A h=gSm Chk.r P p n a args A h):CF P n a args A p true:=fun d hd F q=>by cases q rfl; exact cx_of (h d F) (congrFun (congrFun g d) F)
noncomputable def Hn.ok {M F:HL} {o:Out} {Λ:List LJ}:Hn P (Post.fr (.one M o) F) Λ:=.fin () trivial
noncomputable abbrev C1 (P:Params) (n:Nat) (a:Addr) (xs:List AV) (v:AV):Prop:=CF P n a xs [] (.one [] (.ok v)) false
theorem c1_of {n:Nat} {a:Addr} {args:List AV} {v:AV} (h:∀ F,Hn P (Post.fr (.one [] (.ok v)) F) []) (g:gSe Chk.l P (.one [] (.ok v)) n a args [] h=gSe Chk.r P (.one [] (.ok v)) n a args [] h):C1 P n a args v:=cf_of h g
end
noncomputable abbrev T:=List Nat
noncomputable def S (l:List Nat):Str:=⟨l.toArray⟩
theorem S_len (l:List Nat):(S l).length=l.length:=by simp [S,Str.length]
theorem S_append (a b:List Nat):S a++S b=S (a++b):=by
 show (⟨a.toArray++b.toArray⟩:Str)=⟨(a++b).toArray⟩
 simp
theorem S_inj {a b:List Nat} (h:S a=S b):a=b:=by
 have:=congrArg (fun s:Str=>s.cps.toList) h
 simpa [S] using this
theorem S_of (s:Str):s=S s.cps.toList:=by induction s using Str.casesOn; simp [S]
theorem item_S {l:List Nat} {k c:Nat} (h:l[k]?=some c):Txt.item (S l) k=S [c]:=by
 have hlt:k<l.length:=by
  rcases Nat.lt_or_ge k l.length with z | z
  ·exact z
  ·rw [List.getElem?_eq_none z] at h; injection h
 unfold Txt.item Txt.charAt
 have e:seqIndex? (k:Int) (S l).length=some k:=by
  rw [S_len]
  unfold seqIndex?
  have z:¬ ((k:Int)<0):=by lia
  simp only [z,if_false]
  simp [hlt]
 rw [e]
 have e2:(S l).cps[k]?=some c:=by simpa [S] using h
 rw [Option.bind_some,e2]
 rfl
theorem S_beq (a c:Nat):(S [a]==S [c])=(a==c):=by
 by_cases h:a=c
 ·subst h; simp
 ·have:S [a]≠S [c]:=fun q=>h (by have:=S_inj q; simpa using this)
  rw [beq_eq_false_iff_ne.mpr this,beq_eq_false_iff_ne.mpr h]
noncomputable def blankB (c:Str):Bool:=([" ","\t","\n","\x0b","\x0c","\r"]:List Str).any (·==c)
theorem blank_S (c:Nat):blankB (S [c])=([32,9,10,11,12,13]:List Nat).any (·==c):=by
 have e:([" ","\t","\n","\x0b","\x0c","\r"]:List Str)=[S [32],S [9],S [10],S [11],S [12],S [13]]:=by kernel_rfl
 unfold blankB
 rw [e]
 simp only [List.any_cons,List.any_nil,S_beq]
noncomputable def joinL (sep:List Nat):List (List Nat)->List Nat
 | []=>[]
 | [x]=>x
 | x::r=>x++sep++joinL sep r
theorem join_S (sep:List Nat):∀ ls:List (List Nat),Txt.join (S sep) (ls.map S)=S (joinL sep ls):=by
 have h:∀ ls:List (List Nat),Str.join (S sep) (ls.map S)=S (joinL sep ls):=by
  intro ls
  induction ls with
  | nil=>rfl
  | cons x r ih=>
   induction r using List.casesOn with
   | nil=>rfl
   | cons y r=>
    show S x++S sep++Str.join (S sep) ((y::r).map S)=S (x++sep++joinL sep (y::r))
    rw [ih,S_append,S_append]
 intro ls
 show Builtin.Str.glued (S sep) (ls.map S)=_
 rw [StrLaws.glued_eq_join]
 exact h ls
theorem joinOk_S {sep:List Nat} {ls:List (List Nat)} (h:(ls.map (·.length)).sum+ls.length*sep.length<=lim):JoinOk (S sep) (ls.map S)=true:=by
 unfold JoinOk Builtin.Str.tooLong
 rw [StrLaws.joinTotal]
 have e:((ls.map S).map (·.length)).sum=(ls.map (·.length)).sum:=by
  rw [List.map_map]
  refine congrArg List.sum (List.map_congr_left fun l U=>?_)
  exact S_len l
 rw [e,List.length_map,S_len]
 have:lim<=sizeLine:=by decide
 simp
 lia
noncomputable def goodC:List Nat:=[49,50,51,101,102,32,123,125]
noncomputable def bareC:List Nat:=[49,50,51,101,102]
theorem blank_g {c:Nat} (h:c∈goodC):blankB (S [c])=(c==32):=by
 rw [blank_S]
 simp only [goodC,List.mem_cons,List.not_mem_nil,or_false] at h
 rcases h with rfl | rfl | rfl | rfl | rfl | rfl | rfl | rfl <;> rfl
theorem slice_S {l:T} {i j:Nat} (hi:i<=l.length) (hij:i<=j):Txt.slice (S l) (some (i:Int)) (some (j:Int))=S ((l.drop i).take (j - i)):=by
 by_cases hj:j<=l.length
 ·have:=eq_of_beq (slice_closes (x:=S l) (i:=i) (j:=j) ⟨by lia,by lia,by simpa [S] using (by lia:(j:Int)<=l.length)⟩)
  rw [this]
  have e:((j:Int) - (i:Int)).toNat=j - i:=by lia
  rw [e]
  simp [S]
 ·have e1:Txt.slice (S l) (some (i:Int)) (some (j:Int))=Txt.slice (S l) (some (i:Int)) (some (l.length:Int)):=by
   have:Builtin.Str.strSliceIndices (some (i:Int)) (some (j:Int)) 1 (S l).length=Builtin.Str.strSliceIndices (some (i:Int)) (some (l.length:Int)) 1 (S l).length:=by
    unfold Builtin.Str.strSliceIndices
    rw [S_len]
    have h1:¬ (j:Int)<0:=by lia
    have h2:¬ (l.length:Int)<0:=by lia
    simp only [h1,h2,if_false]
    have e2:min (j:Int) (l.length:Int)=l.length:=by lia
    have e3:min (l.length:Int) (l.length:Int)=l.length:=by lia
    rw [e2,e3]
    simp only [show ((1:Int)>0)=True from eq_true (by decide),if_true]
   unfold Txt.slice
   rw [this]
  rw [e1]
  have:=eq_of_beq (slice_closes (x:=S l) (i:=i) (j:=l.length) ⟨by lia,by lia,by simp [S]⟩)
  rw [this]
  have e:((l.length:Int) - (i:Int)).toNat=l.length - i:=by lia
  rw [e]
  simp only [S,Int.toNat_natCast]
  rw [List.take_of_length_le (by simp),List.take_of_length_le (by simp; lia)]
theorem count_S {l:T} {c:Nat}:Txt.count (S l) (S [c])=(l.count c:Nat):=by
 have:∀ l:T,cnt c l=(l.count c:Nat):=by
  intro l
  induction l with
  | nil=>rfl
  | cons n r ih=>
   rw [cnt_cons,ih,List.count_cons]
   by_cases h:n=c
   ·subst h; simp; lia
   ·simp [h]
 rw [← this]
 exact count_is (S l) c
noncomputable def strL (l:T):List AV:=l.map fun c=>.str (S [c])
theorem strL_join {l:T}:joinL [] (l.map fun c=>[c])=l:=by
 induction l with
 | nil=>rfl
 | cons x r ih=>
  induction r using List.casesOn with
  | nil=>rfl
  | cons y r=>show [x]++[]++joinL [] ((y::r).map fun c=>[c])=_; rw [ih]; rfl
theorem take_succ_get {l:T} {j:Nat} (h:j<l.length):l.take (j+1)=l.take j++[l[j]]:=by
 rw [List.take_add_one,List.getElem?_eq_getElem h]; rfl
theorem q_sp:(" ":Str)=S [32]:=by kernel_rfl
theorem q_ob:("{":Str)=S [123]:=by kernel_rfl
theorem q_cb:("}":Str)=S [125]:=by kernel_rfl
theorem q_qt:("\"":Str)=S [34]:=by kernel_rfl
theorem q_em:("":Str)=S []:=by kernel_rfl
section
variable {P:Params} {F:HL} {t:T} {k:Nat}
theorem chrS {l:T} {k c:Nat} (h:l[k]?=some c) (hl:l.length<=lim):SubS (.str (S l)) (.int k) (.str (S [c])):=fun σ Q q=>.str (.p (by rw [S_len]; exact getElem_lt h) (by rw [S_len]; exact hl)) (item_S h▸q)
theorem slcS {l w:T} {i j:Nat} (hi:i<=l.length) (hij:i<=j) (hl:l.length<=lim) (e:(l.drop i).take (j - i)=w):SlcS (.str (S l)) (.int i) (.int j) (.str (S w)):=fun z σ Q q=>.str .i .i (by rw [S_len]; exact hl) (slice_S hi hij▸e▸q)
theorem leT {x y:Nat} (h:x<=y):decide ((x:Int)<=y)=true:=decide_eq_true (Int.ofNat_le.mpr h)
theorem leF {x y:Nat} (h:¬ x<=y):decide ((x:Int)<=y)=false:=decide_eq_false fun z=>h (Int.ofNat_le.mp z)
theorem ltT {x y:Nat} (h:x<y):decide ((x:Int)<y)=true:=decide_eq_true (Int.ofNat_lt.mpr h)
theorem ltF {x y:Nat} (h:¬ x<y):decide ((x:Int)<y)=false:=decide_eq_false fun z=>h (Int.ofNat_lt.mp z)
theorem chF {c k:Nat} (h:c≠k):(S [c]==S [k])=false:=(S_beq c k).trans (beq_eq_false_iff_ne.mpr h)
theorem is_blank_spec (c:Str):C1 P 1 602 [.str c] (.bool (blankB c)):=c1_of (fun U=>.ok) (by kernel_rfl)
theorem blankC {c:Nat} {b:Bool} (h:blankB (S [c])=b):C1 P 1 602 [.str (S [c])] (.bool b):=h▸is_blank_spec _
theorem blankG {c:Nat} (h:c∈goodC) (n:c≠32):C1 P 1 602 [.str (S [c])] (.bool false):=blankC ((blank_g h).trans (beq_eq_false_iff_ne.mpr n))
theorem blank32:C1 P 1 602 [.str (S [32])] (.bool true):=blankC rfl
theorem hpE {L M:HL} (e:L=M):∀ σ,H σ L->H σ M:=fun σ h=>e▸h
theorem joinS {sep:T} {xs:List AV} {ls:List T} (e:xs=(ls.map S).map .str) (h:JoinOk (S sep) (ls.map S)=true):JnS (S sep) xs (.str (S (joinL sep ls))):=⟨_,e,h,congrArg _ (join_S sep ls).symm⟩
theorem strL_ok {l:T} (hl:l.length<=10000):JoinOk (S []) ((l.map fun c=>[c]).map S)=true:=by
 refine joinOk_S ?_
 have:((l.map fun c=>[c]).map (·.length)).sum=l.length:=by
  clear hl
  rw [List.map_map]
  induction l with
  | nil=>rfl
  | cons _ _ ih=>simp [ih]; lia
 rw [this]
 exact lim_le (by simpa using hl)
theorem joinC {l:T} (hl:l.length<=10000):JnS "" (strL l) (.str (S l)):=by
 have:=joinS (sep:=[]) (xs:=strL l) (by rw [List.map_map,List.map_map]; rfl) (strL_ok hl)
 rw [strL_join] at this
 exact this
theorem strL_take {tok:T} {j:Nat} (h:j<tok.length):strL (tok.take j)++[.str (S [tok[j]])]=strL (tok.take (j+1)):=by rw [take_succ_get h]; unfold strL; rw [List.map_append]; rfl
theorem strL_len {tok:T} {j:Nat} (h:tok.length<lim):(strL (tok.take j)).length<lim:=by rw [strL,List.length_map,List.length_take]; lia
end
section
variable {P:Params} {d:Nat} {hd:Option Nat} {F:HL} {t tok r:T} {k:Nat}
theorem behind_spec (w:AV) (h:t.length<=k∨t[k]?=some 32) (hl:t.length<=lim):C1 P 2 637 [.str (S t),.int k,w] .none:=
 c1_of (fun U=>.or h (fun h=>.fa hl<|.is (leT h) .ok) fun h=>.fa hl<|.is (leF (Nat.not_le.mpr (getElem_lt h)))<|.v (chrS h hl)<|.ca blank32 .ok) (by kernel_rfl)
theorem at_of {c:Nat} (ht:t.drop k=tok++c::r):t[k+tok.length]?=some c:=by rw [← List.getElem?_drop,ht]; simp
theorem in_of {j:Nat} (ht:t.drop k=tok++r) (h:j<tok.length):t[k+j]?=some tok[j]:=by rw [← List.getElem?_drop,ht,List.getElem?_append_left h,List.getElem?_eq_getElem h]
theorem len_of {c:Nat} (ht:t.drop k=tok++c::r):k+tok.length<t.length:=getElem_lt (at_of ht)
theorem drop_of {c:Nat} (ht:t.drop k=tok++c::r):t.drop (k+tok.length+1)=r:=by rw [Nat.add_assoc,← List.drop_drop,ht]; simp
theorem end_of (ht:t.drop k=r) (h:r=[]∨∃ r',r=32::r'):t.length<=k∨t[k]?=some 32:=by
 rcases h with rfl | ⟨r',rfl⟩
 ·exact .inl (List.drop_eq_nil_iff.mp ht)
 ·exact .inr (at_of (tok:=[]) ht)
theorem cut_of (ht:t.drop k=tok++r):(t.drop k).take (k+tok.length - k)=tok:=by rw [Nat.add_sub_cancel_left,ht,List.take_left]
theorem dropEnd (ht:t.drop k=tok++r):t.drop (k+tok.length)=r:=by rw [← List.drop_drop,ht,List.drop_left]
theorem j_lt {j n:Nat} (h:j<n):n+1 - (j+1)<n+1 - j:=Nat.sub_succ_lt_self _ _ (Nat.lt_succ_of_lt h)
theorem braced_spec (ht:t.drop k=tok++125::r) (h1:∀ c∈tok,c≠92∧c≠123∧c≠125) (h2:r=[]∨∃ r',r=32::r') (hl:t.length<=lim) :
  C1 P 3 644 [.str (S t),.int k] (.tup [.str (S tok),.int (k+tok.length+1:Nat)]):=
 have hn:=len_of ht
 c1_of (fun F=>.wh (fun j=>tok.length+1 - j) (fun j=>j<=tok.length) (fun U=>F) (fun j=>[.a,.v (.int 1),.v (.int (k+j:Nat))]) 0 (Nat.zero_le _) fun j hj=>
  .fa hl<|.is (ltT (x:=k+j) (y:=t.length) (Nat.lt_of_le_of_lt (Nat.add_le_add_left hj k) hn))<|.or (Nat.lt_or_eq_of_le hj)
  (fun h=>have z:=h1 _ (List.getElem_mem h); .v (chrS (in_of ht h) hl)<|.is (chF z.1)<|.is (chF z.2.1)<|.is (chF z.2.2)<|.go 0 rfl (.mk (j+1) h (j_lt h)))
  fun h=>.v (chrS (h▸at_of ht) hl)<|.ca (behind_spec (.str "braces") (k:=k+j+1) (end_of (h▸drop_of ht) h2) hl)<|
   .v (slcS (i:=k) (j:=k+j) (Nat.le_of_lt (Nat.lt_of_le_of_lt (Nat.le_add_right ..) hn)) (Nat.le_add_right ..) hl (h▸cut_of ht))<|.as (a:=.int (↑(k+j)+1)) (b:=.int (k+tok.length+1:Nat)) (h▸rfl) .ok) (by kernel_rfl)
theorem bareC_good {c:Nat} (h:c∈bareC):c∈goodC∧c≠32∧c≠92∧c≠123∧c≠34:=by simp only [bareC,goodC,List.mem_cons,List.not_mem_nil,or_false] at h ⊢; lia
theorem bare_spec (ht:t.drop k=tok++r) (h1:∀ c∈tok,c∈bareC) (h2:r=[]∨∃ r',r=32::r') (hl:t.length<=1000) :
  C1 P 2 658 [.str (S t),.int k] (.tup [.str (S tok),.int (k+tok.length:Nat)]):=
 have hl2:=lim_le (Nat.le_trans hl (by decide))
 have hn:tok.length<=1000:=by have:=congrArg List.length ht; rw [List.length_drop,List.length_append] at this; lia
 c1_of (fun F=>.nw fun i=>.wh (fun j=>tok.length+1 - j) (fun j=>j<=tok.length) (fun j=>(i,.list (strL (tok.take j)))::F) (fun j=>[.a,.v (.int (k+j:Nat))]) 0 (Nat.zero_le _) fun j hj=>
  .or (Nat.lt_or_eq_of_le hj)
  (fun h=>have z:=bareC_good (h1 _ (List.getElem_mem h)); .fa hl2<|.is (ltT (getElem_lt (in_of ht h)))<|.v (chrS (in_of ht h) hl2)<|.ca (blankG z.1 z.2.1)<|.v (chrS (in_of ht h) hl2)<|.is (chF z.2.2.1)<|.pl 0<|.pl 0<|.fa (strL_len (j:=j) (lim_lt (Nat.le_trans hn (by decide))))<|
   .ed 0 (congrArg AObj.list (strL_take h))<|.go 0 rfl (.mk (j+1) h (j_lt h)))
  fun h=>
   have e:AV.tup [.str (S (tok.take j)),.int (k+j:Nat)]=.tup [.str (S tok),.int (k+tok.length:Nat)]:=by rw [h,List.take_length]
   have tl:=.pl 0<|.v (joinC (l:=tok.take j) (Nat.le_trans (List.length_take_le' ..) (Nat.le_trans hn (by decide))))<|.dr 0<|.as e .ok
   .or (end_of (dropEnd ht) h2) (fun q=>.fa hl2<|.is (ltF (x:=k+j) (h▸Nat.not_lt.mpr q)) tl) fun q=>.fa hl2<|.is (ltT (x:=k+j) (h▸getElem_lt q))<|.v (chrS (h▸q) hl2)<|.ca blank32 tl) (by kernel_rfl)
end
set_option genCtorIdx true in
inductive V | emp | one | two | thr | e | f | ot
noncomputable def V.txt:V->T
 | .emp=>[] | .one=>[49] | .two=>[50] | .thr=>[51] | .e=>[101] | .f=>[102] | .ot=>[49,32,50]
set_option genCtorIdx true in
inductive Nm | re | put | stop | brk | cnt
inductive Tm
 | t (s:T)
 | v (y:Bool)
 | c (k:Tm)
 | word (ps:List Tm)
 | call (nm:Nm) (ws:List Tm) (sh:Str)
 | each (lm:Bool) (ns:List (List Bool)) (ws:List Tm) (b:Tm) (r:List Tm) (sh:Str)
noncomputable def Tm.ctorIdx:Tm->Nat:=fun t=>Tm.casesOn t (fun U=>0) (fun U=>1) (fun U=>2) (fun U=>3) (fun U U U=>4) (fun U U U U U U=>5)
noncomputable def vS (y:Bool):Str:=if y then "y" else "x"
noncomputable def vT (y:Bool):T:=if y then [121] else [120]
noncomputable def nmS:Nm->Str
 | .re=>"rec" | .put=>"put" | .stop=>"stop" | .brk=>"break" | .cnt=>"continue"
noncomputable def lmS (lm:Bool):Str:=if lm then "lmap" else "foreach"
noncomputable def namesAv (ns:List Bool):AV:=.tup (ns.map fun y=>.str (vS y))
noncomputable abbrev argF (m:List Bool) (w:AV):AV:=.tup [namesAv m,w]
mutual
noncomputable def Tm.av:Tm->AV
 | .t s=>.tup [.str "t",.str (S s)]
 | .v y=>.tup [.str "v",.str (vS y)]
 | .c k=>.tup [.str "c",k.av]
 | .word ps=>.lst (avs ps)
 | .call nm ws sh=>.tup [.str (nmS nm),.lst (avs ws),.lst [],.str sh]
 | .each lm ns ws b r sh=>.tup [.str (lmS lm),.lst (ns.zipWith argF (avs ws)),.lst (b.av::avs r),.str sh]
noncomputable def avs:List Tm->List AV
 | []=>[]
 | c::r=>c.av::avs r
end
theorem avs_map:∀ cs,avs cs=cs.map Tm.av
 | []=>rfl
 | c::r=>congrArg (c.av::·) (avs_map r)
structure RS where
 x:T
 nx:Nat
 y:T
 ny:Nat
 log:List (List T×Nat)
noncomputable def RS.var (s:RS) (y:Bool):T:=cond y s.y s.x
noncomputable def RS.cnt (s:RS) (y:Bool):Nat:=cond y s.ny s.nx
noncomputable def RS.wr (s:RS) (y:Bool) (t:T):RS:=cond y {s with y:=t,ny:=s.ny+1} {s with x:=t,nx:=s.nx+1}
inductive Ex (α:Type) | ok (v:α) | ex (code:Nat) (val:T)
noncomputable def Ex.ctorIdx {α:Type}:Ex α->Nat:=fun t=>Ex.casesOn t (fun U=>0) (fun U U=>1)
noncomputable abbrev PM (α:Type):=RS->Ex α×RS
noncomputable def bindR {α β:Type} (r:Ex α×RS) (f:α->PM β):Ex β×RS:=match r with
 | (.ok a,s)=>f a s
 | (.ex c v,s)=>(.ex c v,s)
noncomputable def PM.bind {α β:Type} (x:PM α) (f:α->PM β):PM β:=fun s=>bindR (x s) f
noncomputable def PM.pure {α:Type} (a:α):PM α:=fun s=>(.ok a,s)
noncomputable def PM.ex {α:Type} (c:Nat) (v:T):PM α:=fun s=>(.ex c v,s)
noncomputable def rq (t:T):T:=if t=[]∨32∈t∨123∈t then 123::t++[125] else t
noncomputable def joinT (ls:List T):T:=joinL [32] (ls.map rq)
noncomputable def isV (t:T):Prop:=∃ v:V,t=v.txt
noncomputable def IsJ (t:T) (ls:List V):Prop:=ls.length<=3∧t=joinT (ls.map V.txt)
noncomputable def isJ (t:T):Prop:=∃ ls,IsJ t ls
noncomputable def badT:T:=[123,101]
noncomputable def okArg (t:T):Prop:=isJ t∨t=badT
open Classical in
noncomputable def split (t:T):Option (List T):=if t=badT then none else if h:∃ ls,IsJ t ls then some (h.choose.map V.txt) else some []
noncomputable def splits:List T->Option (List (List T))
 | []=>some []
 | t::r=>(split t).bind fun l=>(splits r).map fun ls=>l::ls
noncomputable def uobT:T:=[117,110,109,97,116,99,104,101,100,32,111,112,101,110,32,98,114,97,99,101,32,105,110,32,108,105,115,116]
noncomputable def nmT:Nm->T
 | .re=>[114,101,99] | .put=>[112,117,116] | .stop=>[115,116,111,112] | .brk=>[98,114,101,97,107] | .cnt=>[99,111,110,116,105,110,117,101]
noncomputable def stopC (t:T):Nat:=if t=[50] then 3 else if t=[101] then 4 else if t=[102] then 5 else 0
noncomputable def doIt (nm:Nm) (ts:List T) (p:Nat):PM T:=fun s=>match nm with
 | .re=>(.ok (ts.getD 1 []),{s with log:=s.log++[(ts,p)]})
 | .put=>(.ok (ts.getD 1 []),s.wr (decide (ts.getD 0 []=[121])) (ts.getD 1 []))
 | .stop=>if stopC (ts.getD 0 [])=0 then (.ok (ts.getD 0 []),s) else (.ex (stopC (ts.getD 0 [])) [],s)
 | .brk=>(.ex 3 [],s)
 | .cnt=>(.ex 4 [],s)
noncomputable def nextG:List Bool->List T->RS->List T×RS
 | [],l,s=>(l,s)
 | n::ns,l,s=>nextG ns l.tail (s.wr n (l.headD []))
noncomputable def nextA:List (List Bool)->List (List T)->RS->List (List T)×RS
 | [],_,s=>([],s)
 | m::ns,ls,s=>((nextG m (ls.headD []) s).1::(nextA ns ls.tail (nextG m (ls.headD []) s).2).1,(nextA ns ls.tail (nextG m (ls.headD []) s).2).2)
noncomputable def leftT (items:List (List T)):Nat:=(items.map (·.length)).sum
noncomputable def turnR (rec:List T->PM (List T)) (kept:List T):Ex T×RS->Ex (List T)×RS
 | (.ok v,s)=>rec (kept++[v]) s
 | (.ex c v,s)=>if c=3 then (.ok kept,s) else if c=4 then rec kept s else (.ex c v,s)
noncomputable def loopF (b:PM T) (ns:List (List Bool)):Nat->List (List T)->List T->PM (List T)
 | 0,_=>PM.pure
 | n+1,items=>fun kept s=>if leftT items=0 then (.ok kept,s) else turnR (loopF b ns n (nextA ns items s).1) kept (b (nextA ns items s).2)
noncomputable def rsK (lm:Bool) (kp:List T):T:=cond lm (joinT kp) []
noncomputable def eachM (lm:Bool) (ns:List (List Bool)) (b:PM T) (ts:List T):PM T:=match splits ts with
 | none=>PM.ex 1 uobT
 | some its=>PM.bind (loopF b ns 4 its []) fun kp=>PM.pure (rsK lm kp)
mutual
noncomputable def run (p:Nat):Tm->PM T
 | .t s=>PM.pure s
 | .v y=>fun s=>(.ok (s.var y),s)
 | .c k=>run p k
 | .word ps=>PM.bind (runL p ps) fun vs=>PM.pure vs.flatten
 | .call nm ws _=>PM.bind (runL (p+1) ws) fun ts=>doIt nm ts p
 | .each lm ns ws b r _=>PM.bind (runL p ws) (eachM lm ns (PM.bind (run p b) fun v=>runR p v r))
noncomputable def runL (p:Nat):List Tm->PM (List T)
 | []=>PM.pure []
 | c::r=>PM.bind (run p c) fun v=>PM.bind (runL (p+1) r) fun vs=>PM.pure (v::vs)
noncomputable def runR (p:Nat) (out:T):List Tm->PM T
 | []=>PM.pure out
 | c::r=>PM.bind (run p c) fun v=>runR p v r
end
mutual
noncomputable def Tm.sz:Tm->Nat
 | .t _=>1
 | .v _=>1
 | .c k=>1+k.sz
 | .word ps=>1+szL ps
 | .call _ ws _=>3+szL ws
 | .each _ _ ws b r _=>8+szL ws+3*(1+b.sz+szL r)
noncomputable def szL:List Tm->Nat
 | []=>0
 | c::r=>1+c.sz+szL r
end
inductive Row
 | push (t:T) | load (y:Bool) | join (k:Nat) | estart (n:Nat) (ns:List (List Bool)) | estep (n to:Nat) | etake (n:Nat) | pop | jump (to:Nat) | hole (b:Bool) | eend (n:Nat) | invoke (k:Nat)
noncomputable def Row.ctorIdx:Row->Nat:=fun t=>Row.casesOn t (fun U=>0) (fun U=>1) (fun U=>2) (fun U U=>3) (fun U U=>4) (fun U=>5) 6 (fun U=>7) (fun U=>8) (fun U=>9) (fun U=>10)
structure Rg where
 fst:Nat
 beh:Nat
 fin:Nat
 aga:Nat
 dep:Nat
structure Out' where
 rows:List Row
 rgs:List Rg
 ss:List (Nat×Nat×Str)
 n:Nat
noncomputable def Out'.nil:Out':=⟨[],[],[],0⟩
noncomputable def Out'.row (r:Row):Out':=⟨[r],[],[],0⟩
noncomputable def Out'.add (a b:Out'):Out':=⟨a.rows++b.rows,a.rgs++b.rgs,a.ss++b.ss,a.n+b.n⟩
noncomputable def Out'.len (o:Out'):Nat:=o.rows.length
noncomputable def fillR (fin aga:Nat):Row->Row
 | .hole b=>.jump (cond b fin aga)
 | r=>r
noncomputable def isJmp:Nm->Option Bool
 | .brk=>some true
 | .cnt=>some false
 | _=>none
noncomputable def callO (nm:Nm) (k:Nat) (o:Out'):Out':=(Out'.row (.push (nmT nm))).add (o.add (.row (.invoke (1+k))))
noncomputable def loopG (a p k2:Nat):Rg:=⟨a+2,a+2+k2,a+2+k2+2,a+1,p⟩
noncomputable def takeR (lm:Bool) (num:Nat):Row:=cond lm (.etake num) .pop
noncomputable def loopO (lm:Bool) (ns:List (List Bool)) (num:Nat) (g:Rg) (o1 o2:Out'):Out':=
 ⟨o1.rows++(.estart num ns::.estep num g.fin::(o2.rows.map (fillR g.fin g.aga)++[takeR lm num,.jump g.aga,.eend num])),o1.rgs++(o2.rgs++[g]),o1.ss++o2.ss,o1.n+1+o2.n⟩
noncomputable def srcO (a:Nat) (sh:Str) (o:Out'):Out':={o with ss:=o.ss++[(a,a+o.len,sh)]}
noncomputable def callX (nm:Nm) (e:Bool) (o:Out'):Out':=match isJmp nm with
 | some b=>cond e (.row (.hole b)) o
 | none=>o
mutual
noncomputable def put (a n p:Nat) (lp:Option Nat):Tm->Out'
 | .t s=>.row (.push s)
 | .v y=>.row (.load y)
 | .c k=>put a n p lp k
 | .word ps=>(putL a n p lp ps).add (cond (decide (1<ps.length)) (.row (.join ps.length)) .nil)
 | .call nm ws sh=>srcO a sh (callX nm (lp==some p) (callO nm ws.length (putL (a+1) n (p+1) lp ws)))
 | .each lm ns ws b r sh=>
  let o1:=putL a n p lp ws
  let o2:=put (a+o1.len+2) (n+o1.n+1) p (some p) b
  let o:=o2.add (putR (a+o1.len+2+o2.len) (n+o1.n+1+o2.n) p (some p) r)
  srcO a sh (loopO lm ns (n+o1.n) (loopG (a+o1.len) p o.len) o1 o)
noncomputable def putL (a n p:Nat) (lp:Option Nat):List Tm->Out'
 | []=>.nil
 | c::r=>
  let o:=put a n p lp c
  o.add (putL (a+o.len) (n+o.n) (p+1) lp r)
noncomputable def putR (a n p:Nat) (lp:Option Nat):List Tm->Out'
 | []=>.nil
 | c::r=>
  let o:=put (a+1) n p lp c
  (Out'.row .pop).add (o.add (putR (a+1+o.len) (n+o.n) p lp r))
end
noncomputable def tok (v:V):T:=rq v.txt
noncomputable def tailT:List V->T
 | []=>[]
 | v::r=>32::(tok v++tailT r)
noncomputable def restT:List V->T
 | []=>[]
 | v::r=>tok v++tailT r
theorem joinT_rest:∀ r:List V,joinT (r.map V.txt)=restT r
 | []=>rfl
 | [v]=>(List.append_nil _).symm
 | v::u::r=>by
  show tok v++[32]++joinT ((u::r).map V.txt)=_
  rw [joinT_rest (u::r)]
  exact List.append_assoc ..
structure Bare (v:V):Prop where
 t:tok v=v.txt
 c:∀ c∈v.txt,c∈bareC
 h:∃ c r,tok v=c::r∧c∈bareC
structure Brace (v:V):Prop where
 t:tok v=123::(v.txt++[125])
 c:∀ c∈v.txt,c≠92∧c≠123∧c≠125
theorem tok_or (v:V):Bare v∨Brace v:=by
 induction v using V.casesOn with
 | emp=>exact .inr ⟨by decide,by decide⟩
 | ot=>exact .inr ⟨by decide,by decide⟩
 | _=>exact .inl ⟨by decide,by decide,⟨_,_,rfl,by decide⟩⟩
theorem tok_len (v:V):(tok v).length<=5:=by induction v using V.casesOn <;> decide
theorem tail_cases (r:List V):tailT r=[]∨∃ q,tailT r=32::q:=by induction r using List.casesOn; exact .inl rfl; exact .inr ⟨_,rfl⟩
section
variable {P:Params} {t r:T} {k:Nat} {v:V}
theorem word_spec {k':Nat} (hk:k=k'∨t[k]?=some 32∧k+1=k') (ht:t.drop k'=tok v++r) (h2:r=[]∨∃ r',r=32::r') (hl:t.length<=1000) :
  C1 P 4 665 [.str (S t),.int k] (.tup [.str (S v.txt),.int (k'+(tok v).length:Nat)]):=
 have hl2:=lim_le (Nat.le_trans hl (by decide))
 c1_of (fun F=>.wh (fun p=>k'+1 - p) (fun p=>p=k'∨t[p]?=some 32∧p+1=k') (fun U=>F) (fun p=>[.v (.int (p:Nat))]) k hk fun p hp=>.or hp (fun e=>have e:AV.int (p:Nat)=.int (k':Nat):=by rw [e]
  .or (tok_or v)
  (fun b=>.ex b.h fun c h=>.ex h fun q h=>
   have ha:t[k']?=some c:=at_of (tok:=[]) (r:=q++r) (by rw [ht,h.1]; rfl)
   have z:=bareC_good h.2
   .lv "at" e<|.fa hl2<|.is (ltT (getElem_lt ha))<|.v (chrS ha hl2)<|.ca (blankG z.1 z.2.1)<|.fa hl2<|.is (leF (Nat.not_le.mpr (getElem_lt ha)))<|.v (chrS ha hl2)<|.is (chF z.2.2.2.1)<|.v (chrS ha hl2)<|.is (chF z.2.2.2.2)<|
   .ca (bare_spec (b.t▸ht) b.c h2 hl)<|.as (show AV.tup [.str (S v.txt),.int (k'+v.txt.length:Nat)]=.tup [.str (S v.txt),.int (k'+(tok v).length:Nat)] by rw [b.t]) .ok)
  fun b=>
   have ha:t[k']?=some 123:=at_of (tok:=[]) (r:=v.txt++[125]++r) (by rw [ht,b.t]; rfl)
   have hd:t.drop (k'+1)=v.txt++125::r:=by rw [← List.drop_drop,ht,b.t,List.cons_append,List.drop_one,List.tail_cons,List.append_assoc]; rfl
   .lv "at" e<|.fa hl2<|.is (ltT (getElem_lt ha))<|.v (chrS ha hl2)<|.ca (blankG (c:=123) (by decide) (by decide))<|.fa hl2<|.is (leF (Nat.not_le.mpr (getElem_lt ha)))<|.v (chrS ha hl2)<|
   .ca (braced_spec hd b.c h2 hl2)<|.as (show AV.tup [.str (S v.txt),.int (k'+1+v.txt.length+1:Nat)]=.tup [.str (S v.txt),.int (k'+(tok v).length:Nat)] by rw [b.t,List.length_cons,List.length_append,Nat.add_assoc k' 1,Nat.add_comm 1,← Nat.add_assoc k']; rfl) .ok)
  fun e=>.fa hl2<|.is (ltT (getElem_lt e.1))<|.v (chrS e.1 hl2)<|.ca blank32<|.go 0 rfl (.mk (p+1) (.inl e.2) (by rw [e.2]; exact Nat.sub_lt_sub_left (Nat.lt_succ_of_lt (e.2▸Nat.lt_succ_self p)) (e.2▸Nat.lt_succ_self p)))) (by kernel_rfl)
theorem no_word (hl:t.length<=1000):C1 P 4 665 [.str (S t),.int t.length] .none:=
 have hl2:=lim_le (Nat.le_trans hl (by decide))
 c1_of (fun F=>.wh (fun U=>0) (fun U=>True) (fun U=>F) (fun U=>[.v (.int t.length)]) () trivial fun U U=>.fa hl2<|.is (ltF (Nat.lt_irrefl t.length))<|.fa hl2<|.is (leT (Nat.le_refl t.length)) .ok) (by kernel_rfl)
noncomputable def txtL (ls:List V):List AV:=ls.map fun v=>.str (S v.txt)
noncomputable def Post.nw (M:Nat->HL) (o:Nat->Out):Post:=⟨Nat,fun U=>True,M,o⟩
noncomputable abbrev newL (xs:List AV):Post:=.nw (fun i=>[(i,.list xs)]) fun i=>.ok (.ref i)
noncomputable def posW (ls:List V) (j:Nat):Nat:=(restT (ls.take j)).length
noncomputable def foundW (ls:List V) (j:Nat):AV:=match ls[j]? with
 | none=>.none
 | some v=>.tup [.str (S v.txt),.int (posW ls (j+1):Nat)]
theorem tail_take:∀ {ls:List V} {j:Nat},tailT ls=tailT (ls.take j)++tailT (ls.drop j)
 | [],_=>by rw [List.take_nil,List.drop_nil]; rfl
 | _::_,0=>rfl
 | v::r,j+1=>congrArg (32::·) ((congrArg (tok v++·) (tail_take (ls:=r) (j:=j))).trans (List.append_assoc ..).symm)
theorem tail_snoc {v:V}:∀ {l:List V},tailT (l++[v])=tailT l++32::tok v
 | []=>congrArg (32::·) (List.append_nil (tok v))
 | u::l=>congrArg (32::·) ((congrArg (tok u++·) (tail_snoc (l:=l))).trans (List.append_assoc ..).symm)
theorem tailT_len:∀ r:List V,(tailT r).length<=6*r.length
 | []=>Nat.le_refl _
 | v::r=>by
  have:=tailT_len r
  have:=tok_len v
  rw [tailT,List.length_cons,List.length_append,List.length_cons]
  lia
theorem rest_len {ls:List V} (h:ls.length<=3):(restT ls).length<=1000:=by
 induction ls using List.casesOn with
 | nil=>decide
 | cons v r=>
  have:=tailT_len r
  have:=tok_len v
  rw [List.length_cons] at h
  rw [restT,List.length_append]
  lia
theorem find_at {ls:List V} (h3:ls.length<=3) {j:Nat} (hj:j<=ls.length):C1 P 4 665 [.str (S (restT ls)),.int (posW ls j:Nat)] (foundW ls j):=by
 have hl:=rest_len h3
 induction ls using List.casesOn with
 | nil=>cases Nat.le_zero.mp hj; exact no_word hl
 | cons v r=>
  cases j with
  | zero=>
   have:=word_spec (P:=P) (t:=restT (v::r)) (k:=0) (k':=0) (v:=v) (.inl rfl) rfl (tail_cases r) hl
   rw [Nat.zero_add,show (tok v).length=posW (v::r) 1 from by unfold posW; rw [show restT ((v::r).take 1)=tok v++[] from rfl,List.append_nil]] at this
   exact this
  | succ j=>
   have ht:restT (v::r)=restT ((v::r).take (j+1))++tailT (r.drop j):=(congrArg (tok v++·) (tail_take (j:=j))).trans (List.append_assoc ..).symm
   have hd:(restT (v::r)).drop (posW (v::r) (j+1))=tailT (r.drop j):=by unfold posW; rw [ht,List.drop_left]
   rcases Nat.lt_or_eq_of_le (Nat.le_of_succ_le_succ hj) with h | h
   ·have hr:r.drop j=r[j]::r.drop (j+1):=List.drop_eq_getElem_cons h
    rw [hr] at hd ht
    have hd2:(restT (v::r)).drop (posW (v::r) (j+1)+1)=tok r[j]++tailT (r.drop (j+1)):=by rw [← List.drop_drop,hd]; rfl
    have:=word_spec (P:=P) (k:=posW (v::r) (j+1)) (.inr ⟨at_of (tok:=[]) hd,rfl⟩) hd2 (tail_cases _) hl
    have e:foundW (v::r) (j+1)=.tup [.str (S r[j].txt),.int (posW (v::r) (j+1)+1+(tok r[j]).length:Nat)]:=by
     unfold foundW
     rw [List.getElem?_cons_succ,List.getElem?_eq_getElem h]
     have:posW (v::r) (j+1+1)=posW (v::r) (j+1)+1+(tok r[j]).length:=by
      unfold posW
      rw [List.take_succ_cons,List.take_succ_cons,restT,restT,List.take_succ_eq_append_getElem h,tail_snoc,← List.append_assoc,List.length_append,List.length_cons,Nat.add_assoc,Nat.add_comm 1]
     rw [this]
    exact e▸this
   ·have e:posW (v::r) (j+1)=(restT (v::r)).length:=by unfold posW; rw [ht,h,List.drop_length,List.length_append]; rfl
    have e2:foundW (v::r) (j+1)=.none:=by unfold foundW; rw [List.getElem?_cons_succ,List.getElem?_eq_none (Nat.le_of_eq h.symm)]
    rw [e,e2]
    exact no_word hl
theorem txt_take {ls:List V} {j:Nat} (h:j<ls.length):txtL (ls.take j)++[.str (S ls[j].txt)]=txtL (ls.take (j+1)):=by rw [List.take_succ_eq_append_getElem h]; unfold txtL; rw [List.map_append]; rfl
theorem txt_len {ls:List V} (h:ls.length<=3) (j:Nat):(txtL (ls.take j)).length<lim:=by unfold txtL; rw [List.length_map,List.length_take]; exact Nat.lt_of_le_of_lt (Nat.min_le_right ..) (Nat.lt_of_le_of_lt h (by decide))
theorem split_spec {ls:List V} (ht:IsJ t ls):CF P 5 672 [.str (S t)] [] (newL (txtL ls)) false:=
 have e:t=restT ls:=ht.2.trans (joinT_rest ls)
 e▸cf_of (fun F=>.nw fun i=>.ca (find_at ht.1 (Nat.zero_le _))<|.wh (fun j=>ls.length+1 - j) (fun j=>j<=ls.length) (fun j=>(i,.list (txtL (ls.take j)))::F) (fun j=>[.v (foundW ls j)]) 0 (Nat.zero_le _) fun j hj=>.or (Nat.lt_or_eq_of_le hj)
  (fun h=>have e:foundW ls j=.tup [.str (S ls[j].txt),.int (posW ls (j+1):Nat)]:=by unfold foundW; rw [List.getElem?_eq_getElem h]
   .lv "found" e<|.pl 0<|.pl 0<|.fa (txt_len ht.1 j)<|.ca (find_at ht.1 h)<|.ed 0 (congrArg AObj.list (txt_take h))<|.go 0 rfl (.mk (j+1) h (j_lt h)))
  fun h=>have e:foundW ls j=.none:=by unfold foundW; rw [List.getElem?_eq_none (Nat.le_of_eq h.symm)]
   .lv "found" e<|.ed 0 (show AObj.list (txtL (ls.take j))=.list (txtL ls) by rw [h,List.take_length])<|.fin i trivial) (by kernel_rfl)
end
noncomputable def exc0 (c:Nat) (v:T) (ec:AV) (el:Nat):AObj:=.exc 84 [("code",.int c),("value",.str (S v)),("errorcode",ec),("level",.int 0),("ret",.int 0),("info",.str ""),("is_noted",.bool false),("line",.int 0),("extra",.ref el)]
noncomputable abbrev ecB:AV:=.tup [.str "TCL",.str "VALUE",.str "LIST",.str "BRACE"]
noncomputable abbrev ecN:AV:=.tup [.str "NONE"]
noncomputable def Post.ex (c:Nat) (v:T) (ec:AV):Post:=⟨Nat×Nat,fun U=>True,fun x=>[(x.1,exc0 c v ec x.2)],fun x=>.er x.1⟩
section
variable {P:Params} {Po:Post} {Λ:List LJ}
noncomputable def Hn.xc (f:Nat->Nat->Hn P Po Λ):Hn P Po Λ:=.nw fun i=>.il<|.pl 0<|.pl 0<|.pl 0<|.pl 0<|.pl 0<|.pl 0<|.pl 0<|.pl 0<|.pl 0<|.nw fun el=>.pl 1<|f i el
theorem bad_lim:badT.length<=lim:=by decide
theorem error_spec (v:T) (ec:AV):CF P 2 139 [.str (S v),ec] [] ⟨Nat×Nat,fun U=>True,fun x=>[(x.1,exc0 1 v ec x.2)],fun x=>.ok (.ref x.1)⟩ false:=cf_of (fun F=>.xc fun i el=>.dr 0<|.fin (i,el) trivial) (by kernel_rfl)
theorem braced_bad:CF P 3 644 [.str (S badT),.int 1] [] (.ex 1 uobT ecB) true:=
 cfn_of (fun F=>.wh (fun j=>2 - j) (fun j=>j=0∨j=1) (fun U=>F) (fun j=>[.a,.v (.int 1),.v (.int (1+j:Nat))]) 0 (.inl rfl) fun j hj=>.or hj
  (fun h=>.lv "at" (congrArg (fun j:Nat=>AV.int (1+j:Nat)) h)<|.fa bad_lim<|.v (chrS (c:=101) (k:=1) rfl bad_lim)<|.go 0 rfl (.mk 1 (.inr rfl) (by rw [h]; decide)))
  fun h=>.lv "at" (congrArg (fun j:Nat=>AV.int (1+j:Nat)) h)<|.fa bad_lim<|.cx (error_spec uobT ecB) fun x U=>.pl 0<|.fin x trivial) (by kernel_rfl)
theorem split_bad:CF P 5 672 [.str (S badT)] [] (.ex 1 uobT ecB) true:=
 cfn_of (fun F=>.nw fun i=>.il<|.wh (fun U=>0) (fun U=>True) (fun U=>(i,.list [])::F) (fun U=>[.v (.int 0)]) () trivial fun U U=>
  .fa bad_lim<|.v (chrS (c:=123) (k:=0) rfl bad_lim)<|.ca (blankG (c:=123) (by decide) (by decide))<|.fa bad_lim<|.v (chrS (c:=123) (k:=0) rfl bad_lim)<|.cx braced_bad fun x U=>.dr 1<|.fin x trivial) (by kernel_rfl)
end
noncomputable def stW (ls:List V):Nat->Nat
 | 0=>0
 | j+1=>posW ls (j+1)+1
theorem posW_succ {ls:List V} {j:Nat} (h:j<ls.length):posW ls (j+1)=stW ls j+(tok ls[j]).length:=by
 induction ls using List.casesOn with
 | nil=>cases h
 | cons v r=>
  cases j with
  | zero=>exact (congrArg List.length (List.append_nil (tok v))).trans (Nat.zero_add _).symm
  | succ j=>
   have h:j<r.length:=Nat.lt_of_succ_lt_succ h
   show (tok v++tailT (r.take (j+1))).length=(tok v++tailT (r.take j)).length+1+(tok r[j]).length
   rw [List.take_succ_eq_append_getElem h,tail_snoc,← List.append_assoc,List.length_append,List.length_cons,Nat.add_assoc,Nat.add_comm 1]
theorem st_drop {ls:List V} {j:Nat} (h:j<ls.length):(restT ls).drop (stW ls j)=tok ls[j]++tailT (ls.drop (j+1)):=by
 induction ls using List.casesOn with
 | nil=>cases h
 | cons v r=>
  cases j with
  | zero=>rfl
  | succ j=>
   have h:j<r.length:=Nat.lt_of_succ_lt_succ h
   have ht:restT (v::r)=restT ((v::r).take (j+1))++tailT (r.drop j):=(congrArg (tok v++·) (tail_take (j:=j))).trans (List.append_assoc ..).symm
   show (restT (v::r)).drop (posW (v::r) (j+1)+1)=_
   unfold posW
   rw [← List.drop_drop,ht,List.drop_left,List.drop_eq_getElem_cons h]
   rfl
theorem st_end {ls:List V}:¬ stW ls ls.length<(restT ls).length:=by
 induction ls using List.casesOn with
 | nil=>exact Nat.not_lt.mpr (Nat.le_refl _)
 | cons v r=>show ¬ posW (v::r) (r.length+1)+1<_; unfold posW; rw [show (r.length+1)=(v::r).length from rfl,List.take_length]; exact fun h=>Nat.lt_irrefl _ (Nat.lt_of_succ_lt h)
theorem cntE {l:T} {c n:Nat} {s:Str} (e:s=S [c]) (h:l.count c=n):AV.int (Txt.count (S l) s)=.int (n:Nat):=by rw [e,count_S,h]
theorem subE {x y n:Nat} (h:x=n+y):AV.int ((x:Int) - y)=.int (n:Nat):=congrArg _ (by rw [h,Int.natCast_add]; exact Int.add_sub_cancel ..)
theorem subB {x y n:Nat} (h:x=n+y):BinS .Sub (.int x) (.int y) (.int n):=fun z σ Q q=>.si (subE h▸q)
theorem eqF {x y:Nat} (h:x≠y):((x:Int)==(y:Int))=false:=beq_eq_false_iff_ne.mpr fun z=>h (Int.ofNat_inj.mp z)
theorem notin {c:Nat} (h:c≠32):(!([""," "]:List Str).any (·==S [c]))=true:=by
 rw [q_em,q_sp]
 simp only [List.any_cons,List.any_nil,Bool.or_false,S_beq,beq_eq_false_iff_ne.mpr (Ne.symm h)]
 rw [show (S []==S [c])=false from beq_eq_false_iff_ne.mpr fun z=>by injection S_inj z]; rfl
theorem bare_cnt {l:T} {c:Nat} (h:∀ c∈l,c∈bareC) (n:c ∉ bareC) (i:Nat):(l.take i).count c=0:=List.count_eq_zero.mpr fun z=>n (h c (List.mem_of_mem_take z))
structure WordI (t:T) (s:Nat) (v:V) (r:T):Prop where
 d:t.drop s=tok v++r
 l:s+(tok v).length<=t.length
 p:0<(tok v).length
section
variable {t r:T} {s:Nat} {v:V}
theorem WordI.sl (w:WordI t s v r) {i:Nat} (h:i<=(tok v).length):(t.drop s).take (s+i - s)=(tok v).take i:=by rw [Nat.add_sub_cancel_left,w.d,List.take_append_of_le_length h]
theorem WordI.nx (w:WordI t s v r) {i:Nat} (h:i<(tok v).length):(t.drop (s+i)).take (s+i+1 - (s+i))=[(tok v)[i]]:=by
 rw [Nat.add_sub_cancel_left,← List.drop_drop,w.d,List.drop_append_of_le_length (Nat.le_of_lt h),List.drop_eq_getElem_cons h]; rfl
theorem WordI.en (w:WordI t s v r) {i:Nat} (h:i=(tok v).length):(t.drop (s+i)).take (s+i+1 - (s+i))=r.take 1:=by rw [Nat.add_sub_cancel_left,← List.drop_drop,w.d,h,List.drop_left]
theorem Brace.cnt (b:Brace v) {i:Nat} (h0:1<=i) (h:i<(tok v).length):((tok v).take i).count 123=1∧((tok v).take i).count 125=0:=by
 rw [b.t] at h ⊢
 cases i with
 | zero=>cases h0
 | succ k=>
  rw [List.length_cons,List.length_append] at h
  have hk:k<=v.txt.length:=Nat.le_of_lt_succ (Nat.lt_of_succ_lt_succ h)
  have z:∀ c,(∀ a∈v.txt,a≠c)->(v.txt.take k).count c=0:=fun c q=>List.count_eq_zero.mpr fun z=>q _ (List.mem_of_mem_take z) rfl
  rw [List.take_succ_cons,List.take_append_of_le_length hk,List.count_cons,List.count_cons,z 123 fun a q=>(b.c a q).2.1,z 125 fun a q=>(b.c a q).2.2]
  exact ⟨rfl,rfl⟩
theorem Brace.all (b:Brace v):(tok v).count 123=1∧(tok v).count 125=1:=by
 have z:∀ c,(∀ a∈v.txt,a≠c)->v.txt.count c=0:=fun c q=>List.count_eq_zero.mpr fun z=>q _ z rfl
 rw [b.t,List.count_cons,List.count_cons,List.count_append,List.count_append,z 123 fun a q=>(b.c a q).2.1,z 125 fun a q=>(b.c a q).2.2]
 exact ⟨rfl,rfl⟩
theorem Brace.cut (b:Brace v):((tok v).drop 1).take ((tok v).length - 1 - 1)=v.txt:=by rw [b.t]; simp
theorem take_all {l:T} {i:Nat} (h:i=l.length):l.take i=l:=by rw [h,List.take_length]
end
theorem WordI.of {ls:List V} {j:Nat} (h:j<ls.length):WordI (restT ls) (stW ls j) ls[j] (tailT (ls.drop (j+1))):=by
 have d:=st_drop h
 have p:0<(tok ls[j]).length:=by induction ls[j] using V.casesOn <;> decide
 refine ⟨d,?_,p⟩
 have:=congrArg List.length d
 rw [List.length_drop,List.length_append] at this
 lia
theorem Bare.mem {v:V} (b:Bare v) {c:Nat} (h:c∈tok v):c∈bareC:=b.c c (b.t▸h)
theorem bare_all {v:V} {c:Nat} (b:Bare v) (n:c ∉ bareC):(tok v).count c=0:=List.count_eq_zero.mpr fun z=>n (b.c c (b.t▸z))
theorem stE {ls:List V} {i j:Nat} (h:j<ls.length) (h2:i=(tok ls[j]).length):AV.int (↑(stW ls j+i)+1)=.int (stW ls (j+1):Nat):=congrArg (fun x:Nat=>AV.int (x+1:Nat)) (by rw [h2,posW_succ h])
section
variable {P:Params} {t:T} {v:V} {ls:List V}
theorem law_split_spec (ht:IsJ t ls):CF P 3 956 [.str (S t)] [] (newL (txtL ls)) false:=
 have e:t=restT ls:=ht.2.trans (joinT_rest ls)
 have hl2:=lim_le (Nat.le_trans (rest_len ht.1) (by decide))
 e▸cf_of (fun F=>.nw fun a=>.wh (fun j=>ls.length+1 - j) (fun j=>j<=ls.length) (fun j=>(a,.list (txtL (ls.take j)))::F) (fun j=>[.a,.a,.v (.int (stW ls j:Nat))]) 0 (Nat.zero_le _) fun j hj=>.or (Nat.lt_or_eq_of_le hj)
  (fun h=>
   have w:=WordI.of h
   have hs:stW ls j<=(restT ls).length:=Nat.le_trans (Nat.le_add_right ..) w.l
   have ht2:(tok ls[j]).length<=lim:=Nat.le_trans (tok_len _) (by decide)
   .fa hl2<|.is (ltT (x:=stW ls j) (y:=(restT ls).length) (Nat.lt_of_lt_of_le (Nat.lt_add_of_pos_right w.p) w.l))<|.wh (fun i=>(tok ls[j]).length+1 - i) (fun i=>1<=i∧i<=(tok ls[j]).length) (fun U=>(a,.list (txtL (ls.take j)))::F) (fun i=>[.v (.int (stW ls j+i:Nat))]) 1 ⟨Nat.le_refl _,w.p⟩ fun i hi=>
    have hsi:stW ls j+i<=(restT ls).length:=Nat.le_trans (Nat.add_le_add_left hi.2 _) w.l
    have s1:SlcS (.str (S (restT ls))) (.int (stW ls j:Nat)) (.int (stW ls j+i:Nat)) (.str (S ((tok ls[j]).take i))):=slcS hs (Nat.le_add_right ..) hl2 (w.sl hi.2)
    .or (Nat.lt_or_eq_of_le hi.2)
    (fun h2=>
     have go:=.fa hl2<|.is (eqF (Nat.ne_of_lt (Nat.lt_of_lt_of_le (Nat.add_lt_add_left h2 _) w.l)))<|.go 0 rfl (.mk (i+1) ⟨Nat.le_succ_of_le hi.1,h2⟩ (j_lt h2))
     .or (tok_or ls[j])
     (fun b=>.v s1<|.as (cntE q_ob (bare_cnt (b.t.symm▸b.c) (by decide) i))<|.v s1<|.as (cntE q_cb (bare_cnt (b.t.symm▸b.c) (by decide) i))<|
      .v (slcS (j:=stW ls j+i+1) hsi (Nat.le_succ _) hl2 (w.nx h2))<|.is (notin (c:=(tok ls[j])[i]) (bareC_good (b.mem (List.getElem_mem h2))).2.1) go)
     fun b=>.v s1<|.as (cntE q_ob (b.cnt hi.1 h2).1)<|.v s1<|.as (cntE q_cb (b.cnt hi.1 h2).2) go)
    fun h2=>
     have s1:=(take_all h2)▸s1
     have fin (w':T) (e:(tailT (ls.drop (j+1))).take 1=w') (n:(!([""," "]:List Str).any (·==S w'))=false):Hn P _ _:=.or (tok_or ls[j])
      (fun b=>.ex b.h fun c h3=>.ex h3 fun q h3=>.v s1<|.as (cntE q_ob (bare_all b (by decide)))<|.v s1<|.as (cntE q_cb (bare_all b (by decide)))<|
       .v (slcS (j:=stW ls j+i+1) hsi (Nat.le_succ _) hl2 ((w.en h2).trans e))<|.is n<|.v s1<|.pl 0<|.v (chrS (k:=0) (c:=c) (by rw [h3.1]; rfl) ht2)<|.is (chF (bareC_good h3.2).2.2.2.1)<|.pl 0<|.fa (txt_len ht.1 j)<|
       .ed 0 (show AObj.list (txtL (ls.take j)++[.str (S (tok ls[j]))])=.list (txtL (ls.take (j+1))) by rw [b.t,txt_take h])<|.as (stE h h2)<|.go 1 rfl (.mk (j+1) h (j_lt h)))
      fun b=>.v s1<|.as (cntE q_ob b.all.1)<|.v s1<|.as (cntE q_cb b.all.2)<|
       .v (slcS (j:=stW ls j+i+1) hsi (Nat.le_succ _) hl2 ((w.en h2).trans e))<|.is n<|.v s1<|.pl 0<|.v (chrS (k:=0) (c:=123) (by rw [b.t]; rfl) ht2)<|.fa ht2<|.bi (subB (x:=(tok ls[j]).length) (y:=1) (n:=(tok ls[j]).length - 1) (Nat.succ_pred_eq_of_pos w.p).symm)<|
       .v (slcS (i:=1) w.p (j:=(tok ls[j]).length - 1) (by rw [b.t,List.length_cons,List.length_append]; exact Nat.le_add_left 1 _) ht2 b.cut)<|.pl 0<|.fa (txt_len ht.1 j)<|
       .ed 0 (congrArg AObj.list (txt_take h))<|.as (stE h h2)<|.go 1 rfl (.mk (j+1) h (j_lt h))
     .or (tail_cases (ls.drop (j+1))) (fun q=>fin [] (by rw [q]; rfl) (by kernel_rfl)) fun q=>fin [32] (by obtain ⟨_,q⟩:=q; rw [q]; rfl) (by kernel_rfl))
  fun h=>.lv "here" (congrArg (fun j=>AV.int (stW ls j:Nat)) h)<|.fa hl2<|.is (ltF (x:=stW ls ls.length) (y:=(restT ls).length) st_end)<|.ed 0 (show AObj.list (txtL (ls.take j))=.list (txtL ls) by rw [h,List.take_length])<|.fin a trivial) (by kernel_rfl)
theorem law_split_bad:CF P 3 956 [.str (S badT)] [] (.ex 1 uobT ecN) true:=
 have s1:SlcS (.str (S badT)) (.int 0) (.int 1) (.str (S [123])):=slcS (i:=0) (j:=1) (by decide) (by decide) bad_lim rfl
 have s2:SlcS (.str (S badT)) (.int 0) (.int 2) (.str (S badT)):=slcS (i:=0) (j:=2) (by decide) (by decide) bad_lim rfl
 cfn_of (fun F=>.nw fun a=>.wh (fun U=>0) (fun U=>True) (fun U=>(a,.list [])::F) (fun U=>[.a,.a,.v (.int 0)]) () trivial fun U U=>.fa bad_lim<|
  .wh (fun b=>2 - b) (fun b=>b=1∨b=2) (fun U=>(a,.list [])::F) (fun b=>[.v (.int (b:Nat))]) 1 (.inl rfl) fun b hb=>.or hb
  (fun h=>.lv "behind" (congrArg (fun b:Nat=>AV.int b) h)<|.v s1<|.as (cntE (l:=[123]) q_ob (n:=1) rfl)<|.v s1<|.as (cntE (l:=[123]) q_cb (n:=0) rfl)<|.fa bad_lim<|.go 0 rfl (.mk 2 (.inr rfl) (by rw [h]; decide)))
  fun h=>.lv "behind" (congrArg (fun b:Nat=>AV.int b) h)<|.v s2<|.as (cntE (l:=badT) q_ob (n:=1) rfl)<|.v s2<|.as (cntE (l:=badT) q_cb (n:=0) rfl)<|.fa bad_lim<|.xc fun i el=>.pl 1<|.dr 0<|.dr 1<|.fin (i,el) trivial) (by kernel_rfl)
end
noncomputable def okT (t:T):Bool:=t.all fun c=>decide (c<1114112)
structure okRS (s:RS):Prop where
 x:isV s.x
 y:isV s.y
 l:∀ e∈s.log,∀ t∈e.1,okT t=true
structure TR {α:Type} (N:Nat) (Q:α->Prop) (r:Ex α×RS):Prop where
 o:okRS r.2
 l:r.2.log.length<=N
 v:∀ v,r.1=.ok v->Q v
noncomputable def Trp {α:Type} (x:PM α) (b:Nat) (Q:α->Prop):Prop:=∀ s,okRS s->TR (s.log.length+b) Q (x s)
noncomputable def Lv:Nat->T->Prop
 | 0,t=>isV t
 | 1,t=>isJ t
 | _,t=>t.length<=100∧okT t=true
noncomputable def vAll:List V:=[.emp,.one,.two,.thr,.e,.f,.ot]
theorem mem_vAll (v:V):v∈vAll:=match v with
 | .emp=>.head _
 | .one=>.tail _ (.head _)
 | .two=>.tail _ (.tail _ (.head _))
 | .thr=>.tail _ (.tail _ (.tail _ (.head _)))
 | .e=>.tail _ (.tail _ (.tail _ (.tail _ (.head _))))
 | .f=>.tail _ (.tail _ (.tail _ (.tail _ (.tail _ (.head _)))))
 | .ot=>.tail _ (.tail _ (.tail _ (.tail _ (.tail _ (.tail _ (.head _))))))
noncomputable def all3 (P:List V->Bool):Nat->Bool
 | 0=>P []
 | n+1=>P []&&vAll.all fun a=>all3 (fun r=>P (a::r)) n
theorem of_all3:∀ {n:Nat} {P:List V->Bool},all3 P n=true->∀ ls:List V,ls.length<=n->P ls=true
 | 0,P,h,[],_=>h
 | n+1,P,h,[],_=>(Bool.and_eq_true_iff.mp h).1
 | n+1,P,h,a::r,hl=>of_all3 (n:=n) (P:=fun r=>P (a::r)) (List.all_eq_true.mp (Bool.and_eq_true_iff.mp h).2 a (mem_vAll a)) r (Nat.le_of_succ_le_succ hl)
theorem isJ_all {P:T->Bool} (h:all3 (fun ls=>P (joinT (ls.map V.txt))) 3=true) {t:T} (j:isJ t):P t=true:=by
 obtain ⟨ls,hl,rfl⟩:=j
 exact of_all3 h ls hl
theorem isJ_len {t:T} (h:isJ t):t.length<=20:=of_decide_eq_true (isJ_all (P:=fun t=>decide (t.length<=20)) (by decide +kernel) h)
theorem isJ_okT {t:T} (h:isJ t):okT t=true:=isJ_all (by decide +kernel) h
noncomputable def V.js:V->List V
 | .emp=>[]
 | .ot=>[.one,.two]
 | v=>[v]
theorem isV_isJ {t:T} (h:isV t):isJ t:=by
 obtain ⟨v,rfl⟩:=h
 exact ⟨v.js,by induction v using V.casesOn <;> decide,by induction v using V.casesOn <;> decide⟩
theorem isV_len {t:T} (h:isV t):t.length<=20:=isJ_len (isV_isJ h)
theorem isJ_2 {t:T} (h:isJ t):Lv 2 t:=⟨Nat.le_trans (isJ_len h) (by decide),isJ_okT h⟩
theorem Lv.to2:∀ {l:Nat} {t:T},Lv l t->Lv 2 t
 | 0,_,h=>isJ_2 (isV_isJ h)
 | 1,_,h=>isJ_2 h
 | _+2,_,h=>h
theorem Lv.ofV:∀ {l:Nat} {t:T},isV t->Lv l t
 | 0,_,h=>h
 | 1,_,h=>isV_isJ h
 | _+2,_,h=>isJ_2 (isV_isJ h)
theorem lv_J:∀ {l:Nat} {v:T},l<=1->Lv l v->isJ v
 | 0,_,_,h=>isV_isJ h
 | 1,_,_,h=>h
theorem isV_nil:isV []:=⟨.emp,rfl⟩
section
variable {α β:Type} {x:PM α} {b b' c N M:Nat} {Q Q':α->Prop} {R:β->Prop} {r:Ex α×RS} {s:RS}
theorem TR.mono (h:TR N Q r) (hb:N<=M) (hQ:∀ v,Q v->Q' v):TR M Q' r:=⟨h.o,Nat.le_trans h.l hb,fun v e=>hQ v (h.v v e)⟩
theorem Trp.mono (h:Trp x b Q) (hb:b<=b') (hQ:∀ v,Q v->Q' v):Trp x b' Q':=fun s hs=>(h s hs).mono (Nat.add_le_add_left hb _) hQ
theorem TR.okI {v:α} (h:Q v) (o:okRS s) (l:s.log.length<=N):TR N Q (.ok v,s):=⟨o,l,fun U e=>by (injection e with e1; subst e1); exact h⟩
theorem TR.exI {k:Nat} {t:T} (o:okRS s) (l:s.log.length<=N):TR (α:=α) N Q (.ex k t,s):=⟨o,l,fun U e=>by injection e⟩
theorem Trp.pure {a:α} (h:Q a):Trp (PM.pure a) b Q:=fun s hs=>.okI h hs (Nat.le_add_right ..)
theorem Trp.ex {k:Nat} {t:T}:Trp (PM.ex (α:=α) k t) b Q:=fun s hs=>.exI hs (Nat.le_add_right ..)
theorem TR.bind {f:α->PM β} (h:TR N Q r) (hN:N<=M) (hf:∀ v s,Q v->okRS s->s.log.length<=N->TR M R (f v s)):TR M R (bindR r f):=by
 obtain ⟨r,s⟩:=r
 induction r using Ex.casesOn with
 | ok v=>exact hf v s (h.v v rfl) h.o h.l
 | ex k t=>exact .exI h.o (Nat.le_trans h.l hN)
theorem Trp.bind {f:α->PM β} (h:Trp x b Q) (hf:∀ v,Q v->Trp (f v) c R):Trp (PM.bind x f) (b+c) R:=fun s hs=>
 (h s hs).bind (Nat.add_le_add_left (Nat.le_add_right ..) _) fun v s' q o l=>(hf v q s' o).mono (by rw [← Nat.add_assoc]; exact Nat.add_le_add_right l c) fun U q=>q
theorem Trp.use {s s':RS} {r:Ex α} (h:Trp x b Q) (hs:okRS s) (e:x s=(r,s')):okRS s'∧s'.log.length<=s.log.length+b:=by have:=h s hs; rw [e] at this; exact ⟨this.o,this.l⟩
theorem Trp.val {s s':RS} {v:α} (h:Trp x b Q) (hs:okRS s) (e:x s=(.ok v,s')):Q v:=(h s hs).v v (by rw [e])
end
theorem okRS.var {s:RS} (h:okRS s) (y:Bool):isV (s.var y):=by induction y using Bool.casesOn; exact h.x; exact h.y
theorem okRS.wr {s:RS} (h:okRS s) {y:Bool} {t:T} (ht:isV t):okRS (s.wr y t):=by induction y using Bool.casesOn; exact ⟨ht,h.y,h.l⟩; exact ⟨h.x,ht,h.l⟩
theorem wr_log {s:RS} {y:Bool} {t:T}:(s.wr y t).log=s.log:=by induction y using Bool.casesOn <;> rfl
theorem split_ok {t:T} {l:List T} (h:split t=some l):(∀ u∈l,isV u)∧l.length<=3:=by
 unfold split at h
 by_cases b:t=badT
 ·rw [if_pos b] at h; injection h
 ·rw [if_neg b] at h
  by_cases q:∃ ls,IsJ t ls
  ·rw [dif_pos q] at h
   (injection h with e1; subst e1)
   exact ⟨fun u hu=>(List.mem_map.mp hu).elim fun v h=>⟨v,h.2.symm⟩,(List.length_map ..).symm▸q.choose_spec.1⟩
  ·rw [dif_neg q] at h
   (injection h with e1; subst e1)
   exact ⟨nofun,Nat.zero_le _⟩
structure ItO (its:List (List T)):Prop where
 v:∀ l∈its,∀ u∈l,isV u
 k:∀ l∈its,l.length<=3
theorem splits_ok:∀ {ts:List T} {ls:List (List T)},splits ts=some ls->ls.length=ts.length∧ItO ls
 | [],ls,h=>by (injection h with e1; subst e1); exact ⟨rfl,nofun,nofun⟩
 | t::r,ls,h=>by
  obtain ⟨l,hl,h⟩:=Option.bind_eq_some_iff.mp h
  obtain ⟨ls',h',rfl⟩:=Option.map_eq_some_iff.mp h
  have k:=splits_ok h'
  have q:=split_ok hl
  exact ⟨congrArg (·+1) k.1,fun m hm=>(List.mem_cons.mp hm).elim (fun e=>e▸q.1) (k.2.v m),fun m hm=>(List.mem_cons.mp hm).elim (fun e=>e▸q.2) (k.2.k m)⟩
theorem nextG_1:∀ {m:List Bool} {l:List T} {s:RS},(nextG m l s).1=l.drop m.length
 | [],_,_=>rfl
 | n::m,l,s=>(nextG_1 (m:=m)).trans (List.drop_tail ..)
theorem hd_isV {l:List T} (h:∀ u∈l,isV u):isV (l.headD []):=by induction l using List.casesOn with | nil=>exact isV_nil | cons a _=>exact h a (.head _)
theorem nextG_ok:∀ {m:List Bool} {l:List T} {s:RS},okRS s->(∀ u∈l,isV u)->okRS (nextG m l s).2∧(nextG m l s).2.log=s.log
 | [],l,s,hs,hl=>⟨hs,rfl⟩
 | n::m,l,s,hs,hl=>
  have k:=nextG_ok (m:=m) (l:=l.tail) (hs.wr (y:=n) (hd_isV hl)) fun u hu=>hl u (List.mem_of_mem_tail hu)
  ⟨k.1,k.2.trans wr_log⟩
structure NxA (ns:List (List Bool)) (ls ls':List (List T)):Prop where
 n:ls'.length=ns.length
 d:∀ l'∈ls',∃ l∈ls,∃ m:Nat,0<m∧l'=l.drop m
theorem nextA_ok:∀ {ns:List (List Bool)} {ls:List (List T)} {s:RS},okRS s->(∀ l∈ls,∀ u∈l,isV u)->ns.length=ls.length->(∀ m∈ns,0<m.length)->
  okRS (nextA ns ls s).2∧(nextA ns ls s).2.log=s.log∧NxA ns ls (nextA ns ls s).1
 | [],_,s,hs,hl,hn,hm=>⟨hs,rfl,rfl,nofun⟩
 | m::ns,ls,s,hs,hl,hn,hm=>by
  induction ls using List.casesOn with | nil=>injection hn | cons l ls=>?_
  have k:=nextG_ok (m:=m) (l:=l) hs (hl l (.head _))
  have j:=nextA_ok (ns:=ns) (ls:=ls) k.1 (fun l h=>hl l (.tail _ h)) (Nat.succ.inj hn) fun m h=>hm m (.tail _ h)
  exact ⟨j.1,j.2.1.trans k.2,congrArg (·+1) j.2.2.n,fun l' h=>(List.mem_cons.mp h).elim (fun e=>⟨l,.head _,m.length,hm m (.head _),e.trans nextG_1⟩) fun h=>(j.2.2.d l' h).elim fun a h=>⟨a,.tail _ h.1,h.2⟩⟩
theorem NxA.v {ns:List (List Bool)} {ls ls':List (List T)} (h:NxA ns ls ls') (hl:∀ l∈ls,∀ u∈l,isV u):∀ l∈ls',∀ u∈l,isV u:=fun l' h' u hu=>(h.d l' h').elim fun l q=>q.2.elim fun m e=>hl l q.1 u (List.mem_of_mem_drop (e.2▸hu))
theorem NxA.k {ns:List (List Bool)} {ls ls':List (List T)} (h:NxA ns ls ls') {k:Nat} (hl:∀ l∈ls,l.length<=k+1):∀ l∈ls',l.length<=k:=fun l' h'=>(h.d l' h').elim fun l q=>q.2.elim fun m e=>by
 have:=hl l q.1
 have:=e.1
 rw [e.2,List.length_drop]; lia
theorem leftT_zero:∀ {ls:List (List T)},(∀ l∈ls,l.length<=0)->leftT ls=0
 | [],_=>rfl
 | l::r,h=>by
  show l.length+leftT r=0
  rw [Nat.le_zero.mp (h l (.head _)),leftT_zero fun l hl=>h l (.tail _ hl)]
structure LZ where
 b:PM T
 ns:List (List Bool)
 B:Nat
 l:Nat
 N:Nat
structure LoI (Z:LZ) (k:Nat) (it:List (List T)) (kp:List T) (s:RS):Prop where
 n:Z.ns.length=it.length
 v:∀ a∈it,∀ u∈a,isV u
 q:∀ a∈it,a.length<=k
 j:∀ u∈kp,Lv Z.l u
 e:kp.length+k<=3
 o:okRS s
 g:s.log.length+k*Z.B<=Z.N
structure Trn (Z:LZ) (k:Nat) (it:List (List T)) (kp:List T) (s:RS) (it':List (List T)) (s':RS):Prop where
 i:LoI Z (k+1) it kp s
 z:leftT it≠0
 e:nextA Z.ns it s=(it',s')
 o:okRS s'
 g:s'.log.length+Z.B<=Z.N
inductive LoopR (Z:LZ):Nat->List (List T)->List T->RS->Ex (List T)×RS->Prop
 | done {k it kp s} (i:LoI Z k it kp s) (z:leftT it=0):LoopR Z k it kp s (.ok kp,s)
 | ok {k it kp s it' s' v s2 x} (h:Trn Z k it kp s it' s') (e:Z.b s'=(.ok v,s2)) (r:LoopR Z k it' (kp++[v]) s2 x):LoopR Z (k+1) it kp s x
 | cn {k it kp s it' s' v s2 x} (h:Trn Z k it kp s it' s') (e:Z.b s'=(.ex 4 v,s2)) (r:LoopR Z k it' kp s2 x):LoopR Z (k+1) it kp s x
 | br {k it kp s it' s' v s2} (h:Trn Z k it kp s it' s') (e:Z.b s'=(.ex 3 v,s2)) (o:okRS s2) (l:s2.log.length<=Z.N):LoopR Z (k+1) it kp s (.ok kp,s2)
 | ex {k it kp s it' s' c v s2} (h:Trn Z k it kp s it' s') (e:Z.b s'=(.ex c v,s2)) (n:¬ (c=3∨c=4)) (o:okRS s2) (l:s2.log.length<=Z.N):LoopR Z (k+1) it kp s (.ex c v,s2)
section
variable {b:PM T} {ns:List (List Bool)} {n:Nat} {it:List (List T)} {kp:List T} {s:RS}
theorem loop0 (z:leftT it=0):loopF b ns (n+1) it kp s=(.ok kp,s):=if_pos z
theorem loopS (z:¬ leftT it=0):loopF b ns (n+1) it kp s=turnR (loopF b ns n (nextA ns it s).1) kp (b (nextA ns it s).2):=if_neg z
end
theorem loop_r {Z:LZ} (hb:Trp Z.b Z.B (Lv Z.l)) (hm:∀ m∈Z.ns,0<m.length):∀ {k:Nat} {it:List (List T)} {kp:List T} {s:RS},LoI Z k it kp s->LoopR Z k it kp s (loopF Z.b Z.ns (k+1) it kp s)
 | 0,it,kp,s,i=>have z:=leftT_zero i.q; loop0 z▸.done i z
 | k+1,it,kp,s,i=>by
  by_cases z:leftT it=0
  ·exact loop0 z▸.done i z
  rw [loopS z]
  have na:=nextA_ok i.o i.v i.n hm
  have ig:=i.g
  rw [Nat.succ_mul,← na.2.1] at ig
  have h:Trn Z k it kp s (nextA Z.ns it s).1 (nextA Z.ns it s).2:=⟨i,z,rfl,na.1,Nat.le_trans (Nat.add_le_add_left (Nat.le_add_left ..) _) ig⟩
  have hr:=hb _ na.1
  have nx {kp':List T} {s2:RS} (j:∀ u∈kp',Lv Z.l u) (e:kp'.length+k<=3) (o:okRS s2) (l:s2.log.length<=(nextA Z.ns it s).2.log.length+Z.B):LoI Z k (nextA Z.ns it s).1 kp' s2:=⟨na.2.2.n.symm,na.2.2.v i.v,na.2.2.k i.q,j,e,o,by lia⟩
  generalize eb:Z.b (nextA Z.ns it s).2=r at hr ⊢
  have hN:=Nat.le_trans hr.l h.g
  obtain ⟨r,s2⟩:=r
  induction r using Ex.casesOn with
  | ok v=>exact .ok h eb (loop_r hb hm (nx (fun u hu=>(List.mem_append.mp hu).elim (i.j u) fun hu=>List.mem_singleton.mp hu▸hr.v v rfl) (by rw [List.length_append,Nat.add_assoc,Nat.add_comm _ k]; exact i.e) hr.o hr.l))
  | ex c v=>
   unfold turnR
   by_cases h3:c=3
   ·subst h3; exact .br h eb hr.o hN
   by_cases h4:c=4
   ·subst h4; exact .cn h eb (loop_r hb hm (nx i.j (Nat.le_of_succ_le i.e) hr.o hr.l))
   dsimp only
   rw [if_neg h3,if_neg h4]
   exact .ex h eb (fun q=>q.elim h3 h4) hr.o hN
theorem loop_tr {Z:LZ} {k:Nat} {it:List (List T)} {kp:List T} {s:RS} {x:Ex (List T)×RS} (h:LoopR Z k it kp s x):TR Z.N (fun r=>(∀ v∈r,Lv Z.l v)∧r.length<=3) x:=by
 induction h with
 | done i z=>exact .okI ⟨i.j,Nat.le_trans (Nat.le_add_right ..) i.e⟩ i.o (Nat.le_trans (Nat.le_add_right ..) i.g)
 | ok h e r ih=>exact ih
 | cn h e r ih=>exact ih
 | br h e o l=>exact .okI ⟨h.i.j,Nat.le_trans (Nat.le_add_right ..) h.i.e⟩ o l
 | ex h e n o l=>exact .exI o l
noncomputable def Val (c:Tm) (v:T):Prop:=∀ R,(∀ p,Trp (run p c) c.sz R)->R v
inductive F2:List Tm->List T->Prop
 | nil:F2 [] []
 | cons {c v l vs} (h:Val c v) (r:F2 l vs):F2 (c::l) (v::vs)
theorem tr_L:∀ {l:List Tm},(∀ c∈l,∃ R,∀ p,Trp (run p c) c.sz R)->∀ p,Trp (runL p l) (szL l) (F2 l)
 | [],_,p=>.pure .nil
 | c::r,h,p=>by
  have hc:Trp (run p c) c.sz (Val c):=(h c (.head _)).elim fun R hR s hs=>⟨(hR p s hs).o,(hR p s hs).l,fun v e R' h'=>(h' p s hs).v v e⟩
  exact Trp.mono (b:=c.sz+(szL r+0)) (hc.bind fun v q=>(tr_L (fun c hc=>h c (.tail _ hc)) (p+1)).bind fun vs q2=>.pure (.cons q q2)) (by rw [szL]; lia) fun U q=>q
theorem tr_R {Q:T->Prop}:∀ {r:List Tm} {out:T} {p:Nat},(∀ c∈r,∀ p,Trp (run p c) c.sz Q)->Q out->Trp (runR p out r) (szL r) Q
 | [],out,p,_,ho=>.pure ho
 | c::r,out,p,h,ho=>Trp.mono (b:=c.sz+szL r) ((h c (.head _) p).bind fun v q=>tr_R (fun c hc=>h c (.tail _ hc)) q) (by rw [szL]; lia) fun U q=>q
theorem F2.all {R:T->Prop} {l:List Tm} {vs:List T} (h:F2 l vs) (hR:∀ c∈l,∀ p,Trp (run p c) c.sz R):vs.length=l.length∧∀ v∈vs,R v:=by
 induction h with
 | nil=>exact ⟨rfl,nofun⟩
 | cons h r ih=>
  have k:=ih fun c hc=>hR c (.tail _ hc)
  exact ⟨congrArg (·+1) k.1,fun v hv=>(List.mem_cons.mp hv).elim (fun e=>e▸h R (hR _ (.head _))) (k.2 v)⟩
inductive OkI (d:Nat):Nm->List T->Prop
 | re {a b:T} (h:a.length<=300) (o:okT a=true) (k:Lv d b):OkI d .re [a,b]
 | put {y:Bool} {v:T} (h:isV v):OkI d .put [vT y,v]
 | stop {a:T} (h:Lv d a):OkI d .stop [a]
 | brk:OkI d .brk []
 | cnt:OkI d .cnt []
theorem doIt_tr {nm:Nm} {ts:List T} {p d:Nat} (h:OkI d nm ts):Trp (doIt nm ts p) 1 (Lv d):=fun s hs=>by
 have le:s.log.length<=s.log.length+1:=Nat.le_succ _
 induction h using OkI.casesOn with
 | @re a b h o k=>exact .okI k ⟨hs.x,hs.y,fun e he t ht=>(List.mem_append.mp he).elim (fun he=>hs.l e he t ht) fun he=>by
   rw [List.mem_singleton.mp he] at ht
   exact (List.mem_cons.mp ht).elim (fun e=>e▸o) fun ht=>List.mem_singleton.mp ht▸k.to2.2⟩ (Nat.le_of_eq List.length_append)
 | put h=>exact .okI (.ofV h) (hs.wr h) (wr_log.symm▸le)
 | @stop a h=>
  show TR _ _ (if stopC a=0 then _ else _)
  by_cases z:stopC a=0
  ·rw [if_pos z]; exact .okI h hs le
  ·rw [if_neg z]; exact .exI hs le
 | brk=>exact .exI hs le
 | cnt=>exact .exI hs le
theorem rq_len (t:T):(rq t).length<=t.length+2:=by
 unfold rq
 split
 ·exact Nat.le_of_eq List.length_append
 ·exact Nat.le_add_right ..
theorem joinL_ok {k:Nat}:∀ {ls:List T},(∀ l∈ls,l.length<=k∧okT l=true)->(joinL [32] ls).length<=ls.length*(k+1)∧okT (joinL [32] ls)=true
 | [],_=>⟨Nat.zero_le _,rfl⟩
 | [x],h=>⟨by rw [List.length_singleton,Nat.one_mul]; exact Nat.le_succ_of_le (h x (.head _)).1,(h x (.head _)).2⟩
 | x::y::r,h=>by
  have h1:=h x (.head _)
  have h2:=joinL_ok (ls:=y::r) fun l hl=>h l (.tail _ hl)
  have e:joinL [32] (x::y::r)=x++[32]++joinL [32] (y::r):=rfl
  rw [e]
  refine ⟨?_,by unfold okT at *; rw [List.all_append,List.all_append,h1.2,h2.2]; rfl⟩
  rw [List.length_append,List.length_append,show (x::y::r).length*(k+1)=(y::r).length*(k+1)+(k+1) from Nat.succ_mul ..,Nat.add_comm _ (k+1)]
  exact Nat.add_le_add (Nat.succ_le_succ h1.1) h2.1
theorem rq_ok {t:T} (h:okT t=true):okT (rq t)=true:=by
 unfold rq
 split
 ·unfold okT at *; rw [List.cons_append,List.all_cons,List.all_append,h]; rfl
 ·exact h
theorem lvs_V:∀ {r:List T},(∀ v∈r,isV v)->∃ ls:List V,r=ls.map V.txt
 | [],_=>⟨[],rfl⟩
 | a::r,h=>(h a (.head _)).elim fun v hv=>(lvs_V fun v hr=>h v (.tail _ hr)).elim fun ls e=>⟨v::ls,by rw [hv,e]; rfl⟩
theorem join_lv:∀ {l:Nat},l<=1->∀ {r:List T},(∀ v∈r,Lv l v)∧r.length<=3->Lv (l+1) (joinT r)
 | 0,_,r,h=>(lvs_V h.1).elim fun ls e=>⟨ls,List.length_map (f:=V.txt)▸e▸h.2,by rw [e]⟩
 | 1,_,r,h=>by
  have k:=joinL_ok (k:=22) (ls:=r.map rq) fun l hl=>by
   obtain ⟨t,ht,rfl⟩:=List.mem_map.mp hl
   exact ⟨Nat.le_trans (rq_len t) (Nat.add_le_add_right (isJ_len (h.1 t ht)) 2),rq_ok (isJ_okT (h.1 t ht))⟩
  rw [List.length_map] at k
  exact ⟨Nat.le_trans k.1 (Nat.le_trans (Nat.mul_le_mul_right 23 h.2) (by decide)),k.2⟩
structure EachD (d:Nat) (ns:List (List Bool)) (ws:List Tm):Prop where
 d:d<=1
 n:ns.length=ws.length
 l:ws.length<=2
 g:∀ m∈ns,0<m.length∧m.length<=2
noncomputable abbrev bodyM (p:Nat) (b:Tm) (r:List Tm):PM T:=PM.bind (run p b) fun v=>runR p v r
theorem body_tr {d p:Nat} {b:Tm} {r:List Tm} (hb:∀ p,Trp (run p b) b.sz (Lv d)) (hr:∀ c∈r,∀ p,Trp (run p c) c.sz (Lv d)):Trp (bodyM p b r) (1+b.sz+szL r) (Lv d):=Trp.mono (b:=b.sz+szL r) ((hb p).bind fun v q=>tr_R hr q) (Nat.add_le_add_right (Nat.le_add_left ..) _) fun U q=>q
theorem each_lo {d p:Nat} {ns:List (List Bool)} {ws r:List Tm} {b:Tm} {ts:List T} {its:List (List T)} {s:RS} {N:Nat} (D:EachD d ns ws) (hb:Trp (bodyM p b r) (1+b.sz+szL r) (Lv d)) (hl:ts.length=ws.length) (e:splits ts=some its) (hs:okRS s) (hN:s.log.length+3*(1+b.sz+szL r)<=N):LoopR ⟨bodyM p b r,ns,1+b.sz+szL r,d,N⟩ 3 its [] s (loopF (bodyM p b r) ns 4 its [] s):=
 have k:=splits_ok e
 loop_r (Z:=⟨bodyM p b r,ns,1+b.sz+szL r,d,N⟩) hb (fun m hm=>(D.g m hm).1) ⟨D.n.trans (hl.symm.trans k.1.symm),k.2.v,k.2.k,nofun,Nat.le_refl _,hs,hN⟩
theorem each_tr {d p:Nat} {lm:Bool} {ns:List (List Bool)} {ws r:List Tm} {b:Tm} {sh:Str} (D:EachD d ns ws) (hw:∀ c∈ws,∀ p,Trp (run p c) c.sz okArg) (hb:∀ p,Trp (run p b) b.sz (Lv d)) (hr:∀ c∈r,∀ p,Trp (run p c) c.sz (Lv d)):Trp (run p (.each lm ns ws b r sh)) (Tm.each lm ns ws b r sh).sz (Lv (d+1)):=
 Trp.mono (b:=szL ws+3*(1+b.sz+szL r)) ((tr_L (fun c hc=>⟨_,hw c hc⟩) p).bind fun ts q=>by
  have k:=q.all hw
  unfold eachM
  induction e:splits ts using Option.casesOn with
  | none=>exact .ex
  | some its=>exact fun s hs=>(loop_tr (each_lo D (body_tr hb hr) k.1 e hs (Nat.le_refl _))).bind (Nat.le_refl _) fun kp s' q o l=>.okI (by induction lm using Bool.casesOn; exact .ofV isV_nil; exact join_lv D.d q) o l) (by rw [Tm.sz]; lia) fun U q=>q
noncomputable def bq (l:T):Bool:=decide (l.head?=some 123∨32∈l)
noncomputable def okQ (l:T):Bool:=l.all (fun c=>decide (c∈goodC))&&((List.range (l.length+1)).all fun j=>decide ((l.take j).count 125<=(l.take j).count 123))&&decide (l.count 123=l.count 125)&&decide (123∈l->bq l=true)
theorem isJ_okQ {t:T} (h:isJ t):okQ t=true:=isJ_all (by decide +kernel) h
structure OkJn (l:T):Prop where
 ch:∀ c∈l,c∈goodC
 le:∀ j,j<=l.length->(l.take j).count 125<=(l.take j).count 123
 eq:l.count 123=l.count 125
 br:123∈l->bq l=true
theorem isJ_ok {t:T} (h:isJ t):OkJn t:=by
 have:=isJ_okQ h
 unfold okQ at this
 simp only [Bool.and_eq_true,List.all_eq_true,decide_eq_true_eq,List.mem_range] at this
 obtain ⟨⟨⟨h1,h2⟩,h3⟩,h4⟩:=this
 exact ⟨h1,fun j hj=>h2 j (Nat.lt_succ_of_le hj),h3,h4⟩
noncomputable def modeS (l:T):Str:=if bq l=true then "brace" else "none"
noncomputable def dpQ (l:T) (j:Nat):Nat:=(l.take j).count 123 - (l.take j).count 125
noncomputable def bdQ (l:T) (j:Nat):Bool:=decide (l.head?=some 123)||decide (32∈l.take j)
section
variable {l:T} {j:Nat}
theorem good_cases {c:Nat} (h:c∈goodC):c=123∨c=125∨c=32∨c∈bareC:=by simp only [goodC,bareC,List.mem_cons,List.not_mem_nil,or_false] at h ⊢; lia
theorem cnt_succ (h:j<l.length) (k:Nat):(l.take (j+1)).count k=(l.take j).count k+if l[j]==k then 1 else 0:=by rw [take_succ_get h,List.count_append,List.count_singleton]
theorem bd_same (h:j<l.length) (n:l[j]≠32):AV.bool (bdQ l j)=.bool (bdQ l (j+1)):=by
 have e:32∈l.take j ↔ 32∈l.take (j+1):=by rw [take_succ_get h,List.mem_append,List.mem_singleton]; exact ⟨.inl,fun z=>z.elim id fun z=>(n z.symm).elim⟩
 unfold bdQ; rw [decide_eq_decide.mpr e]
theorem bd_sp (h:j<l.length) (n:l[j]=32):AV.bool true=.bool (bdQ l (j+1)):=by
 unfold bdQ; rw [decide_eq_true (show 32∈l.take (j+1) by rw [take_succ_get h,n]; exact List.mem_append_right _ (.head _)),Bool.or_true]
theorem dp_up (o:OkJn l) (h:j<l.length) (n:l[j]=123):AV.int (↑(dpQ l j)+1)=.int (dpQ l (j+1):Nat):=by
 have:=o.le j (Nat.le_of_lt h)
 unfold dpQ; rw [cnt_succ h,cnt_succ h,n]; exact congrArg AV.int (by simp; lia)
theorem dp_down (o:OkJn l) (h:j<l.length) (n:l[j]=125):AV.int (↑(dpQ l j) - 1)=.int (dpQ l (j+1):Nat):=by
 have:=o.le (j+1) h
 rw [cnt_succ h,cnt_succ h,n] at this
 simp at this
 unfold dpQ; rw [cnt_succ h,cnt_succ h,n]; exact congrArg AV.int (by simp; lia)
theorem dp_same (h:j<l.length) (n:l[j]≠123) (n2:l[j]≠125):dpQ l j=dpQ l (j+1):=by
 unfold dpQ; rw [cnt_succ h,cnt_succ h,beq_eq_false_iff_ne.mpr n,beq_eq_false_iff_ne.mpr n2]; rfl
theorem atE (j:Nat):AV.int (↑j+1)=.int (j+1:Nat):=rfl
theorem strE {a b:Nat} (h:a=b):AV.str (S [a])=.str (S [b]):=h▸rfl
end
section
variable {P:Params} {l:T}
theorem bareC_ne {c k:Nat} (h:c∈bareC) (hk:k ∉ bareC):c≠k:=fun z=>hk (z▸h)
theorem hd_any {c:Nat} (h0:l[0]?=some c) (o:OkJn l):(["{","\""]:List Str).any (·==S [c])=decide (l.head?=some 123):=by
 have g:=o.ch c (List.mem_of_getElem? h0)
 rw [q_ob,q_qt,List.head?_eq_getElem?,h0]
 simp only [goodC,List.mem_cons,List.not_mem_nil,or_false] at g
 simp only [List.any_cons,List.any_nil,S_beq]
 rcases g with rfl | rfl | rfl | rfl | rfl | rfl | rfl | rfl <;> rfl
theorem bool_or (b:Bool):b=true∨b=false:=by induction b using Bool.casesOn; exact .inr rfl; exact .inl rfl
theorem bd_zero:bdQ l 0=decide (l.head?=some 123):=Bool.or_false _
theorem bd_all:bdQ l l.length=bq l:=by unfold bdQ bq; rw [List.take_length,Bool.decide_or]
theorem inBr {c:Nat} (h:c∈bareC):(["]","\""]:List Str).any (·==S [c])=false∧(["[","$",";","\\"]:List Str).any (·==S [c])=false:=by
 simp only [bareC,List.mem_cons,List.not_mem_nil,or_false] at h
 rcases h with rfl | rfl | rfl | rfl | rfl <;> exact ⟨by kernel_rfl,by kernel_rfl⟩
theorem ne_em (h:l≠[]):(S l==("":Str))=false:=by rw [q_em]; exact beq_eq_false_iff_ne.mpr fun z=>h (S_inj z)
theorem mode_spec (b:Bool) (o:OkJn l) (hn:l≠[]) (hL:l.length<=lim):C1 P 2 679 [.str (S l),.bool b] (.str (modeS l)):=
 have h0:∃ c,l[0]?=some c:=⟨_,List.getElem?_eq_getElem (List.length_pos_iff.mpr hn)⟩
 c1_of (fun F=>.is (ne_em hn)<|.ex h0 fun c0 h0=>
  have tl:Hn P (Post.fr (.one [] (.ok (.str (modeS l)))) F) []:=.lv "is_bound" (congrArg AV.bool (bd_zero (l:=l)).symm)<|.wh (fun j=>l.length+1 - j) (fun j=>j<=l.length) (fun U=>F) (fun j=>[.a,.v (.int (dpQ l j:Nat)),.v (.bool false),.v (.bool (bdQ l j)),.a,.v (.int (j:Nat))]) 0 (Nat.zero_le _) fun j hj=>.or (Nat.lt_or_eq_of_le hj)
   (fun h=>
    have g:=good_cases (o.ch _ (List.getElem_mem h))
    have go:Hn P (Post.fr (.one [] (.ok (.str (modeS l)))) F) [Jw (fun j=>l.length+1 - j) (fun j=>j<=l.length) (fun U=>F) (fun j=>[.a,.v (.int (dpQ l j:Nat)),.v (.bool false),.v (.bool (bdQ l j)),.a,.v (.int (j:Nat))]) (l.length+1 - j)]:=.go 0 rfl (.mk (j+1) h (j_lt h))
    .fa hL<|.is (ltT h)<|.v (chrS (List.getElem?_eq_getElem h) hL)<|
    .or g (fun e=>.lv "c" (strE e)<|.lv "is_bound" (bd_same h (e▸by decide))<|.as (atE j)<|.as (dp_up o h e) go) fun g=>
    .or g (fun e=>.lv "c" (strE e)<|.lv "is_bound" (bd_same h (e▸by decide))<|.as (atE j)<|.as (dp_down o h e)<|.is (ltF (x:=dpQ l (j+1)) (y:=0) (Nat.not_lt_zero _)) go) fun g=>
    .or g (fun e=>.lv "c" (strE e)<|.as (atE j)<|.ca blank32<|.lv "depth" (congrArg (fun x:Nat=>AV.int x) (dp_same h (e▸by decide) (e▸by decide)))<|.lv "wants_escape" (rfl:AV.bool false=.bool false)<|.lv "is_bound" (bd_sp h e) go) fun e=>
     have z:=bareC_good e
     .lv "is_bound" (bd_same h z.2.1)<|.lv "depth" (congrArg (fun x:Nat=>AV.int x) (dp_same h z.2.2.2.1 (bareC_ne e (by decide))))<|.is (chF z.2.2.2.1)<|.is (chF (bareC_ne e (k:=125) (by decide)))<|.is (inBr e).1<|.is (inBr e).2<|.ca (blankG z.1 z.2.1) go)
   fun h=>
    have z:dpQ l j=0:=by unfold dpQ; rw [h,List.take_length,o.eq,Nat.sub_self]
    .fa hL<|.is (ltF (x:=j) (y:=l.length) (h▸Nat.lt_irrefl _))<|.is (ltF (x:=0) (y:=dpQ l j) (z▸Nat.lt_irrefl _))<|
    .or (bool_or (bq l)) (fun q=>.lv "is_bound" (congrArg AV.bool ((h▸bd_all).trans q))<|.as (show AV.str "brace"=.str (modeS l) from congrArg AV.str (if_pos q).symm) .ok) fun q=>.lv "is_bound" (congrArg AV.bool ((h▸bd_all).trans q))<|.as (show AV.str "none"=.str (modeS l) from congrArg AV.str (if_neg (by rw [q]; decide)).symm) .ok
  .v (chrS h0 hL)<|.is (hd_any h0 o)<|.or (bool_or b) (fun h=>.tr h<|.is (chF (c:=c0) (k:=35) fun z=>by have:=o.ch c0 (List.mem_of_getElem? h0); rw [z] at this; revert this; decide)<|.or (bool_or (decide (l.head?=some 123))) (fun h=>.tr h tl) fun h=>.tr h tl) fun h=>.tr h<|.lv "is_hashed" (congrArg AV.bool h)<|.or (bool_or (decide (l.head?=some 123))) (fun h=>.tr h tl) fun h=>.tr h tl) (by kernel_rfl)
theorem rq_bq (o:OkJn l) (hn:l≠[]):rq l=if bq l=true then 123::l++[125] else l:=by
 unfold rq
 by_cases hb:bq l=true
 ·rw [if_pos hb]
  refine if_pos (.inr ?_)
  unfold bq at hb
  rcases of_decide_eq_true hb with h | h
  ·right
   induction l using List.casesOn with
   | nil=>injection h
   | cons a r=>(injection h with e1; subst e1); exact .head _
  ·exact .inl h
 ·rw [if_neg hb]
  refine if_neg fun z=>?_
  rcases z with z | z | z
  ·exact hn z
  ·exact hb (decide_eq_true (.inr z))
  ·exact hb (o.br z)
theorem catB {x y:T} {s:Str} (e:s=S x) (h:x.length+y.length<=lim):BinS .Add (.str s) (.str (S y)) (.str (S (x++y))):=fun z σ Q q=>.as (by rw [e,S_len,S_len]; exact h) (by rw [e,S_append]; exact q)
theorem catC {x y w:T} {s:Str} (e:s=S y) (h:x.length+y.length<=lim) (i:x++y=w):BinS .Add (.str (S x)) (.str s) (.str (S w)):=i▸e▸catB rfl h
noncomputable def Hn.br {P:Params} {Po:Post} {Λ:List LJ} {l w:T} (h:l.length<=1000) (i:123::l++[125]=w) (r:Hn P Po Λ):Hn P Po Λ:=.bi (catB (x:=[123]) (y:=l) q_ob (lim_le (by rw [List.length_singleton]; lia)))<|.bi (catC (x:=123::l) (y:=[125]) q_cb (lim_le (by rw [List.length_cons,List.length_singleton]; lia)) i) r
theorem quote_spec (b:Bool) (hj:isJ l):C1 P 3 694 [.str (S l),.bool b] (.str (S (rq l))):=
 have hL:=isJ_len hj
 have o:=isJ_ok hj
 have go (m:Str) (e:m=modeS l) (hn:l≠[]):C1 P 2 679 [.str (S l),.bool b] (.str m):=e▸mode_spec b o hn (Nat.le_trans hL (by decide))
 c1_of (fun F=>.or (Classical.em (l=[]))
  (fun h=>.il<|.is (show (S l==("":Str))=true by rw [h]; kernel_rfl)<|.br (Nat.le_trans hL (by decide)) (show 123::l++[125]=rq l from (if_pos (.inl h)).symm) .ok)
  fun h=>.or (bool_or (bq l)) (fun q=>.ca (go "brace" (if_pos q).symm h)<|.br (Nat.le_trans hL (by decide)) ((if_pos q).symm.trans (rq_bq o h).symm) .ok)
   fun q=>.ca (go "none" (if_neg (by rw [q]; decide)).symm h)<|.as (congrArg (fun x=>AV.str (S x)) ((if_neg (by rw [q]; decide)).symm.trans (rq_bq o h).symm)) .ok) (by kernel_rfl)
noncomputable def strsL (ls:List T):List AV:=ls.map fun t=>.str (S t)
theorem strsL_len {ls:List T}:(strsL ls).length=ls.length:=List.length_map ..
theorem strsL_app {a b:List T}:strsL (a++b)=strsL a++strsL b:=List.map_append ..
theorem joinJ {ls:List T} (hj:∀ t∈ls,isJ t) (hl:ls.length<=50):JnS " " (strsL (ls.map rq)) (.str (S (joinT ls))):=by
 rw [q_sp]
 refine joinS (sep:=[32]) (ls:=ls.map rq) (List.map_map ..).symm (joinOk_S (lim_le ?_))
 have:((ls.map rq).map (·.length)).sum<=22*ls.length:=by
  clear hl
  induction ls with
  | nil=>simp
  | cons t r ih=>
   have:=ih fun u hu=>hj u (.tail _ hu)
   have:=rq_len t
   have:=isJ_len (hj t (.head _))
   simp only [List.map_cons,List.sum_cons,List.length_cons] at *
   lia
 refine Nat.le_trans (Nat.add_le_add_right this _) ?_
 rw [List.length_map]
 show 22*ls.length+ls.length*1<=10000
 lia
noncomputable abbrev rqA (l:List T):List AV:=strsL (l.map rq)
structure Suf {α:Type} (ls l:List α) (a:List α):Prop where
 e:ls=a++l
theorem Suf.mem {α:Type} {ls l a:List α} {x:α} (h:Suf ls (x::l) a):x∈ls:=by rw [h.e]; simp
theorem Suf.next {α:Type} {ls l a:List α} {x:α} (h:Suf ls (x::l) a):Suf ls l (a++[x]):=⟨by rw [h.e]; simp⟩
theorem Suf.len {α:Type} {ls l a:List α} (h:Suf ls l a):a.length<=ls.length:=by rw [h.e,List.length_append]; exact Nat.le_add_right ..
theorem Suf.all {α:Type} {ls a:List α} (h:Suf ls [] a):a=ls:=by rw [h.e,List.append_nil]
theorem rqA_len {a:List T} (h:a.length<=50):(rqA a).length<lim:=by rw [strsL_len,List.length_map]; exact Nat.lt_of_le_of_lt h (by decide)
theorem rqA_app (a:List T) (t:T):rqA a++[.str (S (rq t))]=rqA (a++[t]):=by unfold rqA strsL; rw [List.map_append,List.map_append]; rfl
theorem Suf.lim {α:Type} {ls l a:List α} (h:Suf ls l a) {β:Type} {g:α->β} (hl:ls.length<=lim):(a.map g).length<=lim:=List.length_map (f:=g)▸Nat.le_trans h.len hl
theorem goMap {β:Type} {ls l a:List β} {x:β} {g:β->AV} {L:HL} (h:Suf ls (x::l) a):Jf (fun l a=>Suf ls l a) (fun U U=>L) (fun U a=>(a.map g).map MV.v) l L ((a.map g++[g x]).map .v):=by
 have e:a.map g++[g x]=(a++[x]).map g:=by rw [List.map_append]; rfl
 exact e▸.mk _ h.next
noncomputable def Hn.mp {P:Params} {Po:Post} {Λ:List LJ} {β:Type} (L:HL) (f g:β->AV) {ls:List β} (hl:ls.length<=lim) (e:Hn P Po Λ):Hn P Po Λ:=
 .cm f (fun l a=>Suf ls l a) (fun U U=>L) (fun U a=>a.map g) ls [] ⟨rfl⟩ (fun a h=>.fa (h.lim (g:=g) hl)<|.as (congrArg (fun a=>AV.lst (a.map g)) h.all) e) fun x l a h=>.go 0 rfl (goMap h)
theorem join_list_spec (k:Nat) {ls:List T} (hj:∀ t∈ls,isJ t) (hl:ls.length<=50):CF P 4 701 [.ref k] [(k,.list (strsL ls))] (.one [(k,.list (strsL ls))] (.ok (.str (S (joinT ls))))) false:=
 have hll:(strsL ls).length<=lim:=strsL_len▸Nat.le_trans hl (by decide)
 cf_of (fun F=>.nw fun i=>.pl 1<|.fa hll<|.fr (fun t=>.str (S t)) (fun l a=>Suf ls l a) (fun U a=>(i,.list (rqA a))::(k,.list (strsL ls))::F) (fun U U=>[.a]) ls [] ⟨rfl⟩
  (fun a h=>.ed 0 (congrArg (fun a=>AObj.list (rqA a)) h.all)<|.pl 0<|.v (joinJ hj hl)<|.dr 0 .ok)
  fun t l a h=>have z:(rqA a).length<lim:=rqA_len (Nat.le_trans h.len hl)
   .pl 0<|.pl 0<|.fa (Nat.le_of_lt z)<|.ca (quote_spec (((rqA a).length:Int)==0) (hj t h.mem))<|.pl 0<|.fa z<|.ed 0 (congrArg AObj.list (rqA_app a t))<|.go 0 rfl (.mk _ h.next)) (by kernel_rfl)
theorem inS {l:T} {c:Nat} {s:Str} {b:Bool} (e:s=S [c]) (h:decide (c∈l)=b):CmpS .In (.str s) (.str (S l)) (.bool b):=⟨_,rfl,fun σ=>e▸.inn (by
 have:=StrLaws.found_one (S l) c
 rw [show (S l).cps.toList=l from rfl,h] at this
 exact this▸.s)⟩
theorem law_join_spec (k:Nat) {ls:List T} (hj:∀ t∈ls,isJ t) (hl:ls.length<=50):CF P 1 961 [.ref k] [(k,.list (strsL ls))] (.one [(k,.list (strsL ls))] (.ok (.str (S (joinT ls))))) false:=
 have hll:(strsL ls).length<=lim:=strsL_len▸Nat.le_trans hl (by decide)
 cf_of (fun F=>.pl 0<|.fa hll<|.cm (fun t=>.str (S t)) (fun l a=>Suf ls l a) (fun U a=>(k,.list (strsL ls))::F) (fun U a=>rqA a) ls [] ⟨rfl⟩
  (fun a h=>.fa (Nat.le_of_lt (rqA_len (Nat.le_trans h.len hl)))<|.v ((congrArg (fun a=>JnS " " (rqA a) (.str (S (joinT ls)))) h.all).mpr (joinJ hj hl)) .ok)
  fun t l a h=>
   have goJ:Jf (fun l a=>Suf ls l a) (fun U a=>(k,.list (strsL ls))::F) (fun U a=>(rqA a).map .v) l ((k,.list (strsL ls))::F) ((rqA a++[AV.str (S (rq t))]).map .v):=rqA_app a t▸.mk _ h.next
   have br (q:t=[]∨32∈t∨123∈t):=Hn.br (Nat.le_trans (isJ_len (hj t h.mem)) (by decide)) (show 123::t++[125]=rq t from (if_pos q).symm)<|.go 0 rfl goJ
   .or (Classical.em (t=[])) (fun q=>.is (show (S t==("":Str))=true by rw [q]; kernel_rfl)<|br (.inl q)) fun q=>
   .or (Classical.em (32∈t)) (fun q2=>.is (ne_em q)<|.cp (inS (c:=32) q_sp (decide_eq_true q2))<|br (.inr (.inl q2))) fun q2=>
   .or (Classical.em (123∈t)) (fun q3=>.is (ne_em q)<|.cp (inS (c:=32) q_sp (decide_eq_false q2))<|.cp (inS (c:=123) q_ob (decide_eq_true q3))<|br (.inr (.inr q3))) fun q3=>
   .is (ne_em q)<|.cp (inS (c:=32) q_sp (decide_eq_false q2))<|.cp (inS (c:=123) q_ob (decide_eq_false q3))<|.as (congrArg (fun x=>AV.str (S x)) (show t=rq t from (if_neg fun z=>z.elim q fun z=>z.elim q2 q3).symm))<|.go 0 rfl goJ) (by kernel_rfl)
end
inductive Kc:Nat->Nat->Nat->Tm->Prop
 | up {d i t} (h:Kc 0 d i t):Kc 0 d (i+1) t
 | pt {d i s} (h:Lv d s):Kc 1 d i (.t s)
 | pv {d i y}:Kc 1 d i (.v y)
 | pc {d i k} (h:Kc 0 d i k):Kc 1 d i (.c k)
 | at {d i s} (h:okArg s):Kc 2 d i (.t s)
 | av {d i y}:Kc 2 d i (.v y)
 | ac {d i k} (h:Kc 0 d i k) (l:d<=1):Kc 2 d i (.c k)
 | w3 {d i k} (h:Kc 0 d i k):Kc 3 d i (.word [.t [101],.c k,.v true])
 | wf {d i w} (h:Kc 4 d i w):Kc 3 d i w
 | w1 {d i c} (h:Kc 1 d i c):Kc 4 d i (.word [c])
 | wa {d i c} (h:Kc 2 d i c):Kc 5 d i (.word [c])
 | re {d i w u sh} (h:Kc 3 d i w) (k:Kc 4 d i u) (l:sh.length<=9000):Kc 0 d (i+1) (.call .re [w,u] sh)
 | put {d i y u sh} (h:Kc 4 0 0 u) (l:sh.length<=9000):Kc 0 d (i+1) (.call .put [.word [.t (vT y)],u] sh)
 | stop {d i u sh} (h:Kc 4 d i u) (l:sh.length<=9000):Kc 0 d (i+1) (.call .stop [u] sh)
 | brk {d i sh} (l:sh.length<=9000):Kc 0 d (i+1) (.call .brk [] sh)
 | cnt {d i sh} (l:sh.length<=9000):Kc 0 d (i+1) (.call .cnt [] sh)
 | each {d lm ns ws b r sh} (D:EachD d ns ws) (hw:∀ w∈ws,Kc 5 d 1 w) (hb:Kc 0 d 2 b) (hr:∀ c∈r,Kc 0 d 2 c) (rl:r.length<=1) (l:sh.length<=9000):Kc 0 (d+1) 0 (.each lm ns ws b r sh)
noncomputable def Tm.nm:Tm->AV
 | .each lm _ _ _ _ _=>.str (lmS lm)
 | .call nm _ _=>.str (nmS nm)
 | _=>.none
noncomputable def Tm.as:Tm->List AV
 | .each _ ns ws _ _ _=>ns.zipWith argF (avs ws)
 | .call _ ws _=>avs ws
 | _=>[]
noncomputable def Tm.bd:Tm->List AV
 | .each _ _ _ b r _=>b.av::avs r
 | _=>[]
noncomputable def Tm.sh:Tm->Str
 | .each _ _ _ _ _ s=>s
 | .call _ _ s=>s
 | _=>""
noncomputable abbrev Tm.avT (c:Tm):AV:=.tup [c.nm,.lst c.as,.lst c.bd,.str c.sh]
theorem Kc.eq {k d i:Nat} {t:Tm} (h:Kc k d i t):k=0->t.av=t.avT:=by
 induction h with
 | up _ ih=>exact ih
 | re=>exact fun U=>rfl
 | put=>exact fun U=>rfl
 | stop=>exact fun U=>rfl
 | brk=>exact fun U=>rfl
 | cnt=>exact fun U=>rfl
 | each=>exact fun U=>rfl
 | _=>exact nofun
noncomputable def dat' (xs:List Int):AV:=.lst (xs.map .int)
noncomputable abbrev atO (a k:Nat):Nat×AObj:=(a,.list [.int k])
section
variable {P:Params} {xs:List Int} {a k n:Nat}
theorem powB {y:Nat} (h:y<=1000):BinS .Pow (.int 3) (.int y) (.int (3 ^ y)):=fun z σ Q q=>.pw h q
theorem addB (x y:Int):BinS .Add (.int x) (.int y) (.int (x+y)):=fun z σ Q q=>.ai q
theorem modB {x y v:Int} (h:0<y) (e:x % y=v):BinS .Mod (.int x) (.int y) (.int v):=fun z σ Q q=>.mo h (e▸q)
theorem mod_nat {x:Int} {n:Nat} (h:0<n):x % n=((x % n).toNat:Nat)∧(x % n).toNat<n:=
 have h1:=Int.emod_nonneg x (Int.natCast_ne_zero.mpr (Nat.ne_of_gt h))
 ⟨(Int.toNat_of_nonneg h1).symm,(Int.toNat_lt h1).mpr (Int.emod_lt_of_pos x (Int.natCast_pos.mpr h))⟩
theorem ixS {xs:List AV} {k:Nat} {v:AV} (h:xs[k]?=some v) (hl:xs.length<=lim):IxS xs k v:=⟨k,.p (getElem_lt h) hl,h⟩
noncomputable abbrev drawP (a k n:Nat):Post:=⟨Nat,(·<n),fun U=>[atO a (k+1)],fun m=>.ok (.int (m:Nat))⟩
theorem draw_spec (hx:xs.length<=63) (hk:k<=900) (hn:0<n):CF P 1 897 [dat' xs,.ref a,.int n] [atO a k] (drawP a k n) false:=
 have hl:(xs.map AV.int).length<=lim:=(List.length_map (f:=AV.int)).symm▸Nat.le_trans hx (by decide)
 have tl (F:HL) (v:Int):Hn P ((drawP a k n).fr F) []:=.bi (powB (Nat.le_trans hk (by decide)))<|.bi (modB (x:=3 ^ k) (y:=1009) (by decide) rfl)<|.bi (addB v (3 ^ k % 1009))<|.bi (modB (x:=v+3 ^ k % 1009) (Int.natCast_pos.mpr hn) (mod_nat hn).1)<|.fin ((v+3 ^ k % 1009) % n).toNat (mod_nat hn).2
 cf_of (fun F=>.pl 0<|.pl 0<|.fa (⟨Nat.one_pos,Nat.le_of_ble_eq_true rfl⟩:IkS [AV.int k] 0)<|.or (Nat.lt_or_ge k xs.length)
  (fun h=>.fa hl<|.is (ltT (x:=k) (List.length_map (f:=AV.int)▸h))<|.ix (ixS (show (xs.map AV.int)[k]?=some (.int xs[k]) by rw [List.getElem?_map,List.getElem?_eq_getElem h]; rfl) hl)<|tl F (xs[k]))
  fun h=>.fa hl<|.is (ltF (x:=k) (List.length_map (f:=AV.int)▸Nat.not_lt.mpr h))<|tl F (0:Int)) (by kernel_rfl)
noncomputable abbrev genP (d i a k B s:Nat):Post:=⟨Nat×Tm,fun x=>Kc 0 d i x.2∧x.2.sh.length<=s∧x.1<=k+B,fun x=>[atO a x.1],fun x=>.ok x.2.av⟩
noncomputable def Gen (P:Params) (n:Nat) (addr:Addr) (xs:List Int) (D B s i:Nat):Prop:=∀ a k,k+B<=900->CF P n addr [dat' xs,.ref a,.int D] [atO a k] (genP D i a k B s) false
variable {D B s:Nat}
noncomputable abbrev stopX:Tm:=.call .stop [.word [.v false]] "stop $x"
theorem gen_bracket (hx:xs.length<=63) (hE:0<D->Gen P n 923 xs D B s 0):Gen P (n+2) 904 xs D (1+B) (10+s) 1:=fun a k hk=>
 have le {m:Nat} (h:m<=10):m<=10+s:=Nat.le_trans h (Nat.le_add_right ..)
 have k1:k+1<=k+(1+B):=Nat.add_le_add_left (Nat.le_add_right ..) k
 have kb {m:Nat} (h:Nat.ble m 10=true):m<=9000:=Nat.le_trans (Nat.le_of_ble_eq_true h) (by decide)
 cfd_of (fun d F=>.cx (draw_spec (a:=a) (n:=4) hx (Nat.le_trans (Nat.le_add_right ..) hk) (by decide)) fun m hm=>
  have simple:Hn P ((genP D 1 a k (1+B) (10+s)).fr F) []:=.or (Nat.lt_or_ge 1 m)
   (fun h=>.is (ltT (x:=1) (y:=m) h)<|.fin (k+1,stopX) ⟨.stop (.w1 .pv) (kb (by kernel_rfl)),le (Nat.le_of_ble_eq_true (by kernel_rfl)),k1⟩)
   fun h=>.or (show m=0∨m=1 by lia)
    (fun e=>.lv "kind" (congrArg (fun x:Nat=>AV.int x) e)<|.fin (k+1,.call .brk [] "break") ⟨.brk (kb (by kernel_rfl)),le (Nat.le_of_ble_eq_true (by kernel_rfl)),k1⟩)
    fun e=>.lv "kind" (congrArg (fun x:Nat=>AV.int x) e)<|.fin (k+1,.call .cnt [] "continue") ⟨.cnt (kb (by kernel_rfl)),le (Nat.le_of_ble_eq_true (by kernel_rfl)),k1⟩
  .or (Nat.lt_or_ge 0 D) (fun h=>.or (Nat.lt_or_ge 1 m)
   (fun h1=>.is (ltT (x:=0) (y:=D) h)<|.is (ltT (x:=1) (y:=m) h1)<|.ck (fun U=>d) ((hE h a (k+1) (by lia)).up (m:=1)) fun x q=>.fin x ⟨.up q.1,Nat.le_trans q.2.1 (Nat.le_add_left ..),Nat.le_trans q.2.2 (by lia)⟩)
   fun h1=>.is (ltT (x:=0) (y:=D) h)<|.is (ltF (x:=1) (y:=m) (Nat.not_lt.mpr h1)) simple)
  fun h=>.is (ltF (x:=0) (y:=D) (Nat.not_lt.mpr h)) simple) (by kernel_rfl)
noncomputable abbrev wordP (D:Nat) (fr:Bool) (a k B s:Nat):Post:=⟨Nat×Tm×Str,fun x=>Kc (cond fr 3 4) D 1 x.2.1∧x.2.2.length<=20+s∧x.1<=k+(2+B),fun x=>[atO a x.1],fun x=>.ok (.tup [x.2.1.av,.str x.2.2])⟩
theorem w_fr {fr:Bool} {D:Nat} {c:Tm} (h:Kc 1 D 1 c):Kc (cond fr 3 4) D 1 (.word [c]):=by induction fr using Bool.casesOn; exact .w1 h; exact .wf (.w1 h)
theorem strB {x y:Str} (h:x.length+y.length<=lim):BinS .Add (.str x) (.str y) (.str (x++y)):=fun z σ Q q=>.as h q
theorem str_app (x y:Str):(x++y).length=x.length+y.length:=by rw [S_of x,S_of y,S_append,S_len,S_len,S_len,List.length_append]
theorem leK {m n:Nat} (h:Nat.ble m n=true):m<=n:=Nat.le_of_ble_eq_true h
theorem chS {s:Str} {k:Nat} {c:Str} (h:k<s.length) (hl:s.length<=lim) (e:Txt.item s k=c):SubS (.str s) (.int k) (.str c):=fun σ Q q=>.str (.p h hl) (e▸q)
noncomputable def tkV:Nat->V
 | 0=>.two
 | 1=>.one
 | 2=>.e
 | _=>.f
theorem eqT {x y:Nat} (h:x=y):((x:Int)==(y:Int))=true:=by rw [h]; exact beq_self_eq_true _
theorem tkS:∀ {m:Nat},m<4->SubS (.str "21ef") (.int m) (.str (S (tkV m).txt))
 | 0,_=>chS (leK (by kernel_rfl)) (leK (by kernel_rfl)) (by kernel_rfl)
 | 1,_=>chS (leK (by kernel_rfl)) (leK (by kernel_rfl)) (by kernel_rfl)
 | 2,_=>chS (leK (by kernel_rfl)) (leK (by kernel_rfl)) (by kernel_rfl)
 | 3,_=>chS (leK (by kernel_rfl)) (leK (by kernel_rfl)) (by kernel_rfl)
theorem xyS (y:Bool):SubS (.str "xy") (.int (cond y 1 0:Nat)) (.str (vS y)):=by induction y using Bool.casesOn <;> exact chS (leK (by kernel_rfl)) (leK (by kernel_rfl)) (by kernel_rfl)
theorem kdE {m j:Nat} (h:m=j):AV.int (m:Nat)=.int (j:Nat):=congrArg (fun x:Nat=>AV.int x) h
theorem arB {p q sh:Str} {b c:Nat} (h:sh.length<=b) (hp:Nat.ble (p.length+q.length) c=true):(p++sh++q).length<=c+b:=by
 have:=leK hp
 rw [str_app,str_app]; lia
theorem arL {p q sh:Str} {b:Nat} (h:sh.length<=b) (hb:b<=9000) (hp:Nat.ble (p.length+q.length) 100=true):p.length+sh.length<=lim∧(p++sh).length+q.length<=lim:=by
 have:=leK hp
 have l:10000<=lim:=by decide
 rw [str_app]; constructor <;> lia
theorem gen_word (hx:xs.length<=63) (hE:0<D->Gen P n 923 xs D B s 0) (hs:s<=5000) (fr:Bool) (hk:k+(2+B)<=900):CF P (n+3) 911 [dat' xs,.ref a,.int D,.bool fr] [atO a k] (wordP D fr a k B s) false:=
 have k2:k+2<=k+(2+B):=Nat.add_le_add_left (Nat.le_add_right ..) k
 have k1:k+1<=k+(2+B):=Nat.le_of_succ_le k2
 have k9:k+2<=900:=Nat.le_trans k2 hk
 have le {m:Nat} (h:m<=20):m<=20+s:=Nat.le_trans h (Nat.le_add_right ..)
 cfd_of (fun d F=>.cx (draw_spec (a:=a) (n:=8) hx (Nat.le_of_succ_le (Nat.le_of_succ_le k9)) (by decide)) fun m hm=>
  have vr (y:Bool):Hn P ((wordP D fr a k B s).fr F) []:=.v (xyS y)<|.v (xyS y)<|.bi (strB (x:="$") (y:=vS y) (by induction y using Bool.casesOn <;> exact leK (by kernel_rfl)))<|.fin (k+1,.word [.v y],"$"++vS y) ⟨w_fr .pv,le (by induction y using Bool.casesOn <;> exact leK (by kernel_rfl)),k1⟩
  have brk (p q:Str) (w:Tm->Tm) (hw:∀ c,Kc 0 D 1 c->Kc (cond fr 3 4) D 1 (w c)) (hp:Nat.ble (p.length+q.length) 10=true) (hq:Nat.ble (p.length+q.length) 100=true) (e:∀ c:Tm,Kc 0 D 1 c->Hn P ((wordP D fr a k B s).fr F) []->Hn P ((wordP D fr a k B s).fr F) []):Hn P ((wordP D fr a k B s).fr F) []:=
   .ck (fun U=>d) (gen_bracket hx hE a (k+1) (by rw [Nat.add_assoc,← Nat.add_assoc 1]; exact hk)) fun x r=>have l:=arL (p:=p) (q:=q) r.2.1 (by lia) hq
   .lv "inner" (r.1.eq rfl)<|.bi (strB l.1)<|.bi (strB l.2)<|e x.2 r.1<|.fin (x.1,w x.2,p++x.2.sh++q) ⟨hw _ r.1,by have:=arB (p:=p) (q:=q) r.2.1 hp; lia,Nat.le_trans r.2.2 (by lia)⟩
  have tok:Hn P ((wordP D fr a k B s).fr F) []:=.cx (draw_spec (a:=a) (k:=k+1) (n:=4) hx (Nat.le_of_succ_le k9) (by decide)) fun m hm=>.v (tkS hm)<|.fin (k+2,.word [.t (tkV m).txt],S (tkV m).txt) ⟨w_fr (.pt (.ofV ⟨_,rfl⟩)),le (by rw [S_len]; unfold tkV; split <;> decide),k2⟩
  .or (show m=0∨m≠0 by lia) (fun h=>.lv "kind" (kdE h)<|vr false) fun h0=>
  .or (show m=1∨m≠1 by lia) (fun h=>.lv "kind" (kdE h)<|vr true) fun h1=>
  .or (show m=2∨m≠2 by lia) (fun h=>.lv "kind" (kdE h)<|brk "[" "]" (fun c=>.word [.c c]) (fun c h=>w_fr (.pc h)) (by kernel_rfl) (by kernel_rfl) fun c h r=>.as (congrArg (fun v=>AV.tup [.lst [.tup [.str "c",v]],.str ("["++c.sh++"]")]) (h.eq rfl).symm) r) fun h2=>
  .or (show m=3∨m≠3 by lia) (fun h=>.or (bool_or fr) (fun hf=>.lv "kind" (kdE h)<|.tr hf<|brk "e[" "]$y" (fun c=>.word [.t [101],.c c,.v true]) (fun c h=>hf.symm▸.w3 h) (by kernel_rfl) (by kernel_rfl) fun c h r=>.as (congrArg (fun v=>AV.tup [.lst [.tup [.str "t",.str "e"],.tup [.str "c",v],.tup [.str "v",.str "y"]],.str ("e["++c.sh++"]$y")]) (h.eq rfl).symm) r)
   fun hf=>.lv "kind" (kdE h)<|.tr hf tok) fun h3=>
  .or (show m=4∨m≠4 by lia) (fun h=>.lv "kind" (kdE h)<|.fin (k+1,.word [.t [49,32,50]],"{1 2}") ⟨w_fr (.pt (.ofV ⟨.ot,rfl⟩)),le (leK (by kernel_rfl)),k1⟩) fun h4=>
  .or (show m=5∨m≠5 by lia) (fun h=>.lv "kind" (kdE h) tok) fun h5=>
  .or (show m=6∨m=7 by lia) (fun h=>.lv "kind" (kdE h) tok) fun h=>.lv "kind" (kdE h) tok) (by kernel_rfl)
noncomputable abbrev listP (D a k B s:Nat):Post:=⟨Nat×Tm×Str,fun x=>Kc 5 D 1 x.2.1∧x.2.2.length<=20+s∧x.1<=k+(2+B),fun x=>[atO a x.1],fun x=>.ok (.tup [x.2.1.av,.str x.2.2])⟩
theorem gen_list (hx:xs.length<=63) (hE:0<D->Gen P n 923 xs D B s 0) (hs:s<=5000) (hD:D<=1) (hk:k+(2+B)<=900):CF P (n+3) 918 [dat' xs,.ref a,.int D] [atO a k] (listP D a k B s) false:=
 have k2:k+2<=k+(2+B):=Nat.add_le_add_left (Nat.le_add_right ..) k
 have k1:k+1<=k+(2+B):=Nat.le_of_succ_le k2
 have k9:k+2<=900:=Nat.le_trans k2 hk
 have le {m:Nat} (h:m<=20):m<=20+s:=Nat.le_trans h (Nat.le_add_right ..)
 cfd_of (fun d F=>.cx (draw_spec (a:=a) (n:=8) hx (Nat.le_of_succ_le (Nat.le_of_succ_le k9)) (by decide)) fun m hm=>
  have txt (j:Nat) (hj:j<=k+(2+B)) (u:Str) (ls:List V) (h3:ls.length<=3) (hu:u=S (joinT (ls.map V.txt))) (h:Nat.ble u.length 12=true):Hn P ((listP D a k B s).fr F) []:=
   have h:=leK h
   have h1:("{":Str).length+u.length<=13:=Nat.add_le_add (leK (m:=("{":Str).length) (n:=1) (by kernel_rfl)) h
   have h2:("{"++u).length+("}":Str).length<=14:=by rw [str_app]; exact Nat.add_le_add h1 (leK (n:=1) (by kernel_rfl))
   .bi (strB (x:="{") (y:=u) (Nat.le_trans h1 (by decide)))<|.bi (strB (x:="{"++u) (y:="}") (Nat.le_trans h2 (by decide)))<|
    .as (show AV.tup [.lst [.tup [.str "t",.str u]],.str ("{"++u++"}")]=.tup [.lst [.tup [.str "t",.str (S (joinT (ls.map V.txt)))]],.str ("{"++u++"}")] by rw [← hu])<|.fin (j,.word [.t (joinT (ls.map V.txt))],"{"++u++"}") ⟨.wa (.at (.inl ⟨ls,h3,rfl⟩)),le (str_app ("{"++u) "}"▸Nat.le_trans h2 (by decide)),hj⟩
  .or (show m=0∨m≠0 by lia) (fun h=>.lv "kind" (kdE h)<|txt (k+1) k1 "e 2" [.e,.two] (by decide) (by kernel_rfl) (by kernel_rfl)) fun h0=>
  .or (show m=1∨m≠1 by lia) (fun h=>.lv "kind" (kdE h)<|txt (k+1) k1 "{1 2} e {}" [.ot,.e,.emp] (by decide) (by kernel_rfl) (by kernel_rfl)) fun h1=>
  .or (show m=2∨m≠2 by lia) (fun h=>.lv "kind" (kdE h)<|txt (k+1) k1 "2 1" [.two,.one] (by decide) (by kernel_rfl) (by kernel_rfl)) fun h2=>
  .or (show m=3∨m≠3 by lia) (fun h=>.lv "kind" (kdE h)<|txt (k+1) k1 "1 2 3" [.one,.two,.thr] (by decide) (by kernel_rfl) (by kernel_rfl)) fun h3=>
  .or (show m=4∨m≠4 by lia) (fun h=>.lv "kind" (kdE h)<|.fin (k+1,.word [.v false],"$x") ⟨.wa .av,le (leK (by kernel_rfl)),k1⟩) fun h4=>
  .or (show m=5∨m≠5 by lia) (fun h=>.lv "kind" (kdE h)<|.ck (fun U=>d) (gen_bracket hx hE a (k+1) (by rw [Nat.add_assoc,← Nat.add_assoc 1]; exact hk)) fun x r=>have l:=arL (p:="[") (q:="]") r.2.1 (by lia) (by kernel_rfl)
   .lv "inner" (r.1.eq rfl)<|.bi (strB l.1)<|.bi (strB l.2)<|.as (congrArg (fun v=>AV.tup [.lst [.tup [.str "c",v]],.str ("["++x.2.sh++"]")]) (r.1.eq rfl).symm)<|
    .fin (x.1,.word [.c x.2],"["++x.2.sh++"]") ⟨.wa (.ac r.1 hD),by have:=arB (p:="[") (q:="]") (c:=10) r.2.1 (by kernel_rfl); lia,Nat.le_trans r.2.2 (by lia)⟩) fun h5=>
  .or (show m=6∨m=7 by lia) (fun h=>.lv "kind" (kdE h)<|txt (k+1) k1 "" [] (by decide) (by kernel_rfl) (by kernel_rfl))
  fun h=>.lv "kind" (kdE h)<|.cx (draw_spec (a:=a) (k:=k+1) (n:=3) hx (Nat.le_of_succ_le k9) (by decide)) fun m2 hm2=>
   .or (show m2=0∨m2≠0 by lia) (fun h=>.is (eqT (y:=0) h)<|.fin (k+2,.word [.t [123,101]],"\\{e") ⟨.wa (.at (.inr rfl)),le (leK (by kernel_rfl)),k2⟩) fun h=>.is (eqF (y:=0) h)<|txt (k+2) k2 "1 f" [.one,.f] (by decide) (by kernel_rfl) (by kernel_rfl)) (by kernel_rfl)
end
theorem joinB {sep:Str} {ss:List Str} {n b:Nat} (hb:∀ s∈ss,s.length<=b) (hn:ss.length<=n) (hs:sep.length<=2) (hnb:n*(b+2)<=10000):JoinOk sep ss=true∧(Txt.join sep ss).length<=n*(b+2):=by
 have e:ss=(ss.map (·.cps.toList)).map S:=by
  rw [List.map_map]
  exact (List.map_id' ss).symm.trans (List.map_congr_left fun s U=>S_of s)
 have hb2:∀ l∈ss.map (·.cps.toList),l.length<=b:=fun l hl=>by
  obtain ⟨s,hs,rfl⟩:=List.mem_map.mp hl
  rw [← S_len,← S_of]; exact hb s hs
 have hn2:(ss.map (·.cps.toList)).length<=n:=by rw [List.length_map]; exact hn
 have hsep:sep.cps.toList.length<=2:=by rw [← S_len,← S_of]; exact hs
 rw [e,S_of sep,join_S,S_len]
 generalize ss.map (·.cps.toList)=ls at hb2 hn2
 have h1:∀ ls:List T,(∀ l∈ls,l.length<=b)->(ls.map (·.length)).sum<=ls.length*b∧(joinL sep.cps.toList ls).length<=ls.length*(b+2):=by
  intro ls
  induction ls with
  | nil=>simp [joinL]
  | cons x r ih=>
   intro h
   have i:=ih fun l hl=>h l (.tail _ hl)
   have:=h x (.head _)
   simp only [List.map_cons,List.sum_cons,List.length_cons,Nat.succ_mul]
   induction r using List.casesOn with
   | nil=>simp [joinL]; lia
   | cons y r=>
    rw [show joinL sep.cps.toList (x::y::r)=x++sep.cps.toList++joinL sep.cps.toList (y::r) from rfl]
    simp only [List.length_append,List.length_cons] at *
    lia
 have k:=h1 ls hb2
 refine ⟨joinOk_S (lim_le ?_),Nat.le_trans k.2 (Nat.mul_le_mul_right _ hn2)⟩
 have k2:ls.length*b<=n*b:=Nat.mul_le_mul_right _ hn2
 have k3:ls.length*sep.cps.toList.length<=n*2:=Nat.mul_le_mul hn2 hsep
 rw [Nat.mul_add] at hnb
 exact Nat.le_trans (Nat.add_le_add (Nat.le_trans k.1 k2) k3) hnb
noncomputable def pairAv (e:Tm×Str):AV:=.tup [e.1.av,.str e.2]
noncomputable def shC (name:Str) (ps:List (Tm×Str)):Str:=Txt.join " " (name::ps.map (·.2))
noncomputable def callV' (name:Str) (ps:List (Tm×Str)):AV:=.tup [.str name,.lst (avs (ps.map (·.1))),.lst [],.str (shC name ps)]
section
variable {P:Params} {xs:List Int} {a k n D B s:Nat} {i:Nat}
theorem shJ {name:Str} {ps:List (Tm×Str)} {b:Nat} (hp:ps.length<=2) (hb:∀ e∈ps,e.2.length<=b) (hn:name.length<=b) (hb2:b<=3000):JoinOk " " (name::ps.map (·.2))=true∧(shC name ps).length<=3*(b+2):=
 joinB (n:=3) (b:=b) (fun s hs=>by
  rcases List.mem_cons.mp hs with rfl | hs
  ·exact hn
  ·obtain ⟨e,he,rfl⟩:=List.mem_map.mp hs
   exact hb e he) (Nat.succ_le_succ (List.length_map (f:=fun e:Tm×Str=>e.2)▸hp)) (leK (by kernel_rfl)) (by lia)
theorem call_spec (name:Str) {ps:List (Tm×Str)} (hp:ps.length<=2) (hj:JoinOk " " (name::ps.map (·.2))=true):C1 P 1 928 [.str name,.lst (ps.map pairAv)] (callV' name ps):=
 have hp2:ps.length<=lim:=Nat.le_trans hp (by decide)
 have hl {α:Type} (f:Tm×Str->α):(ps.map f).length<=lim:=List.length_map (f:=f)▸hp2
 have e:AV.tup [.str name,.lst (ps.map fun e=>e.1.av),.lst [],.str (shC name ps)]=callV' name ps:=by unfold callV'; rw [avs_map,List.map_map]; rfl
 c1_of (fun F=>.fa (hl pairAv)<|.mp F pairAv (fun e=>e.1.av) hp2<|.fa (hl pairAv)<|.mp F pairAv (fun e=>.str e.2) hp2<|.fa (show (AV.str name::ps.map fun e=>AV.str e.2).length<=lim from Nat.le_trans (Nat.succ_le_succ (List.length_map (f:=fun e:Tm×Str=>AV.str e.2)▸hp)) (by decide))<|
  .v (show JnS " " (.str name::ps.map fun e=>.str e.2) (.str (shC name ps)) from ⟨name::ps.map (·.2),by rw [List.map_cons,List.map_map]; rfl,hj,rfl⟩)<|.as e .ok) (by kernel_rfl)
theorem in34 {m:Nat} {b:Bool} (h:(m==3||m==4)=b):CmpS .In (.int m) (.lst [.int 3,.int 4]) (.bool b):=⟨_,rfl,fun σ=>.inn (by
 have h3:((3:Int)==(m:Int))=(m==3):=by rw [Bool.beq_comm]; exact nat_beq (x:=m) (y:=3)
 have h4:((4:Int)==(m:Int))=(m==4):=by rw [Bool.beq_comm]; exact nat_beq (x:=m) (y:=4)
 have:=InR.li (σ:=σ) (x:=m) (ys:=[3,4])
 simp only [List.any_cons,List.any_nil,Bool.or_false,h3,h4,h] at this
 exact this)⟩
theorem Gen.at {n m:Nat} {addr:Addr} (h:Gen P n addr xs D B s i) (hk:k+B<=900):CF P (n+m) addr [dat' xs,.ref a,.int D] [atO a k] (genP D i a k B s) false:=(h a k hk).up
theorem pair_all {α:Type} {p:α->Prop} {x y:α} (h:p x) (k:p y):∀ e∈[x,y],p e:=fun e he=>(List.mem_cons.mp he).elim (fun z=>z▸h) fun he=>List.mem_singleton.mp he▸k
theorem vS_T (y:Bool):AV.str (vS y)=.str (S (vT y)):=by induction y using Bool.casesOn <;> kernel_rfl
theorem xyM {m:Nat} (h:m<2):SubS (.str "xy") (.int m) (.str (vS (m==1))):=by
 have:m=0∨m=1:=by lia
 rcases this with rfl | rfl
 ·exact xyS false
 ·exact xyS true
noncomputable def pv4:Nat->Tm×Str
 | 0=>(.word [.v false],"$x")
 | 1=>(.word [.v true],"$y")
 | 2=>(.word [.t [49,32,50]],"{1 2}")
 | _=>(.word [.t [50]],"2")
noncomputable abbrev pvA:List AV:=[.tup [.lst [.tup [.str "v",.str "x"]],.str "$x"],.tup [.lst [.tup [.str "v",.str "y"]],.str "$y"],.tup [.lst [.tup [.str "t",.str "1 2"]],.str "{1 2}"],.tup [.lst [.tup [.str "t",.str "2"]],.str "2"]]
theorem pv_ix:∀ {m:Nat},m<4->IxS pvA m (pairAv (pv4 m))
 | 0,_=>ixS (show _=_ by kernel_rfl) (by decide)
 | 1,_=>ixS (show _=_ by kernel_rfl) (by decide)
 | 2,_=>ixS (show _=_ by kernel_rfl) (by decide)
 | 3,_=>ixS (show _=_ by kernel_rfl) (by decide)
theorem pv_ok:∀ {m:Nat},m<4->Kc 4 0 0 (pv4 m).1∧Nat.ble (pv4 m).2.length 5=true
 | 0,_=>⟨.w1 .pv,by kernel_rfl⟩
 | 1,_=>⟨.w1 .pv,by kernel_rfl⟩
 | 2,_=>⟨.w1 (.pt ⟨.ot,rfl⟩),by kernel_rfl⟩
 | 3,_=>⟨.w1 (.pt ⟨.two,rfl⟩),by kernel_rfl⟩
theorem gen_command (hx:xs.length<=63) (hE:0<D->Gen P n 923 xs D B s 0) (hs:s<=2000):Gen P (n+4) 935 xs D (1+2*(2+B)) (3*(22+s)) 2:=fun a k hk=>
 have k3:k+3<=k+(1+2*(2+B)):=by lia
 have k1:k+1<=k+(1+2*(2+B)):=Nat.le_trans (Nat.add_le_add_left (by decide) k) k3
 have k9:k+3<=900:=Nat.le_trans k3 hk
 have lb {m:Nat} (h:Nat.ble m 20=true):m<=20+s:=Nat.le_trans (leK h) (Nat.le_add_right ..)
 have s9:3*(22+s)<=9000:=by lia
 have s5:s<=5000:=Nat.le_trans hs (by decide)
 cfd_of (fun d F=>.cx (draw_spec (a:=a) (k:=k) (n:=9) hx (by lia) (by decide)) fun m hm=>
  have fin (k':Nat) (hk':k'<=k+(1+2*(2+B))) (nm:Nm) (ps:List (Tm×Str)) (h2:ps.length<=2) (hb:∀ e∈ps,e.2.length<=20+s) (hn:Nat.ble (nmS nm).length 20=true) (hc:∀ sh:Str,sh.length<=9000->Kc 0 D 2 (.call nm (ps.map (·.1)) sh)):Hn P ((genP D 2 a k (1+2*(2+B)) (3*(22+s))).fr F) []:=
   have j:=shJ h2 hb (lb hn) (by lia)
   have l:(shC (nmS nm) ps).length<=3*(22+s):=by have:=j.2; rw [Nat.add_right_comm] at this; exact this
   .ca (call_spec (nmS nm) h2 j.1)<|.fin (k',.call nm (ps.map (·.1)) (shC (nmS nm) ps)) ⟨hc _ (Nat.le_trans l s9),l,hk'⟩
  have each (h:0<D):Hn P ((genP D 2 a k (1+2*(2+B)) (3*(22+s))).fr F) []:=.is (ltT (x:=0) (y:=D) h)<|.ck (fun U=>d) ((hE h).at (a:=a) (k:=k+1) (m:=3) (by lia)) fun x q=>.fin x ⟨.up (.up q.1),Nat.le_trans q.2.1 (by lia),Nat.le_trans q.2.2 (by lia)⟩
  have rec':Hn P ((genP D 2 a k (1+2*(2+B)) (3*(22+s))).fr F) []:=.ck (fun U=>d) (gen_word (a:=a) (k:=k+1) hx hE s5 true (by lia)) fun x q=>.ck (fun U=>d) (gen_word (a:=a) (k:=x.1) hx hE s5 false (by have:=q.2.2; lia)) fun y r=>
   fin y.1 (by have:=q.2.2; have:=r.2.2; lia) .re [(x.2.1,x.2.2),(y.2.1,y.2.2)] (Nat.le_refl 2) (pair_all q.2.1 r.2.1) (by kernel_rfl) fun sh h=>.re q.1 r.1 h
  have low (h:m<3) (e:Hn P ((genP D 2 a k (1+2*(2+B)) (3*(22+s))).fr F) []):Hn P ((genP D 2 a k (1+2*(2+B)) (3*(22+s))).fr F) []:=.or (Nat.lt_or_ge 0 D) (fun h=>.lv "kind" (rfl:AV.int m=.int m)<|.is (ltT (x:=m) (y:=3) (by lia))<|each h) fun h=>.is (ltT (x:=m) (y:=3) (by lia))<|.is (ltF (x:=0) (y:=D) (Nat.not_lt.mpr h)) e
  .or (show m<3∨3<=m by lia) (fun h=>low h<|.cp (in34 (m:=m) (b:=false) (by rw [beq_eq_false_iff_ne.mpr (by lia:m≠3),beq_eq_false_iff_ne.mpr (by lia:m≠4)]; rfl))<|.is (eqF (x:=m) (y:=5) (by lia))<|.is (eqF (x:=m) (y:=6) (by lia)) rec') fun h=>
  .or (show m=3∨m≠3 by lia) (fun h=>.lv "kind" (kdE h)<|.cp (in34 (m:=3) rfl)<|.bi (subB (x:=3) (y:=3) (n:=0) rfl)<|fin (k+1) k1 .brk [] (by decide) nofun (by kernel_rfl) fun U h=>.brk h) fun h3=>
  .or (show m=4∨m≠4 by lia) (fun h=>.lv "kind" (kdE h)<|.cp (in34 (m:=4) rfl)<|.bi (subB (x:=4) (y:=3) (n:=1) rfl)<|fin (k+1) k1 .cnt [] (by decide) nofun (by kernel_rfl) fun U h=>.cnt h) fun h4=>
  .or (show m=5∨m≠5 by lia) (fun h=>.lv "kind" (kdE h)<|.cp (in34 (m:=5) rfl)<|.ck (fun U=>d) (gen_word (a:=a) (k:=k+1) hx hE s5 false (by lia)) fun x q=>
   fin x.1 (by have:=q.2.2; lia) .stop [(x.2.1,x.2.2)] (Nat.le_succ 1) (fun e he=>List.mem_singleton.mp he▸q.2.1) (by kernel_rfl) fun sh h=>.stop q.1 h) fun h5=>
  .or (show m=6∨m≠6 by lia) (fun h=>.lv "kind" (kdE h)<|.cp (in34 (m:=6) rfl)<|.cx (draw_spec (a:=a) (k:=k+1) (n:=2) hx (by lia) (by decide)) fun m2 hm2=>.v (xyM hm2)<|.lv "name" (vS_T (m2==1))<|.cx (draw_spec (a:=a) (k:=k+2) (n:=4) hx (by lia) (by decide)) fun m4 hm4=>.ix (pv_ix hm4)<|
   fin (k+3) k3 .put [(.word [.t (vT (m2==1))],S (vT (m2==1))),pv4 m4] (Nat.le_refl 2) (pair_all (Nat.le_trans (by rw [S_len]; induction (m2==1) using Bool.casesOn <;> decide) (lb (m:=1) rfl)) (Nat.le_trans (leK (pv_ok hm4).2) (lb (m:=5) rfl))) (by kernel_rfl) fun sh h=>.put (pv_ok hm4).1 h) fun h6=>
  .or (show m=7∨m=8 by lia) (fun h=>.lv "kind" (kdE h)<|.cp (in34 (m:=7) rfl) rec') fun h=>.lv "kind" (kdE h)<|.cp (in34 (m:=8) rfl) rec') (by kernel_rfl)
end
noncomputable def nsOf (m:Nat):List (List Bool):=match m with | 0=>[[false,true]] | 1=>[[false]] | 2=>[[true],[false]] | _=>[[true]]
structure NsOk (ns:List (List Bool)):Prop where
 l:ns.length<=2
 g:∀ g∈ns,0<g.length∧g.length<=2
theorem nsOf_ok (m:Nat):NsOk (nsOf m):=by unfold nsOf; split <;> exact ⟨by decide,by decide⟩
noncomputable def gAv (g:List Bool):AV:=.lst (g.map fun y=>.str (vS y))
noncomputable abbrev nsA:List AV:=[.lst [.lst [.str "x",.str "y"]],.lst [.lst [.str "x"]],.lst [.lst [.str "y"],.lst [.str "x"]],.lst [.lst [.str "y"]]]
theorem ns_ix:∀ {m:Nat},m<4->IxS nsA m (.lst ((nsOf m).map gAv))
 | 0,_=>ixS (show _=_ by kernel_rfl) (by decide)
 | 1,_=>ixS (show _=_ by kernel_rfl) (by decide)
 | 2,_=>ixS (show _=_ by kernel_rfl) (by decide)
 | 3,_=>ixS (show _=_ by kernel_rfl) (by decide)
theorem lm_ix:∀ {m:Nat},m<2->IxS [.str "foreach",.str "lmap"] m (.str (lmS (m==1)))
 | 0,_=>ixS (show _=_ by kernel_rfl) (by decide)
 | 1,_=>ixS (show _=_ by kernel_rfl) (by decide)
noncomputable abbrev argsL (dn:List (List Bool)) (ws:List Tm):List AV:=dn.zipWith argF (avs ws)
structure EaS where
 k:Nat
 dn:List (List Bool)
 as:List Tm
 t:Str
structure EaC (D:Nat) (ns:List (List Bool)) (k B s:Nat) (l:List (List Bool)) (e:EaS):Prop where
 f:Suf ns l e.dn
 n:e.dn.length=e.as.length
 o:∀ p∈e.as,Kc 5 D 1 p
 k:e.k<=k+2+e.dn.length*(2+B)
 t:e.t.length<=10+e.dn.length*(40+s)
structure BoS where
 k:Nat
 cs:List Tm
structure BoC (D n k B s:Nat) (l:List Nat) (e:BoS):Prop where
 n:e.cs.length+l.length=n
 o:∀ c∈e.cs,Kc 0 D 2 c
 t:∀ c∈e.cs,c.sh.length<=3*(22+s)
 k:e.k<=k+e.cs.length*(5+2*B)
theorem avs_app (cs:List Tm) (c:Tm):avs cs++[c.av]=avs (cs++[c]):=by rw [avs_map,avs_map,List.map_append]; rfl
theorem avs_len {cs:List Tm}:(avs cs).length=cs.length:=avs_map cs▸List.length_map ..
theorem args_app {dn:List (List Bool)} {as:List Tm} (h:dn.length=as.length) (g:List Bool) (p:Tm):argsL dn as++[argF g p.av]=argsL (dn++[g]) (as++[p]):=by
 unfold argsL; rw [← avs_app,List.zipWith_append (by rw [avs_len]; exact h)]; rfl
theorem mem_app {α:Type} {p:α->Prop} {l:List α} {x:α} (h:∀ a∈l,p a) (k:p x):∀ a∈l++[x],p a:=fun a ha=>(List.mem_append.mp ha).elim (h a) fun z=>List.mem_singleton.mp z▸k
theorem len_app {α:Type} {l:List α} {x:α}:(l++[x]).length=l.length+1:=List.length_append
section
variable {D k B s k':Nat} {ns:List (List Bool)} {g:List Bool} {l:List (List Bool)} {e:EaS}
theorem EaC.one (h:EaC D ns k B s (g::l) e) (o:NsOk ns):e.dn.length<=1:=by
 have:=congrArg List.length h.f.e
 rw [List.length_append,List.length_cons] at this
 have:=o.l
 lia
theorem mulT {n b:Nat} (h:n<=2) (a c:Nat) {x:Nat} (z:x<=a+n*c):x<=a+2*c:=Nat.le_trans z (Nat.add_le_add_left (Nat.mul_le_mul_right _ h) _)
theorem mulN {n a c x y:Nat} (z:x<=a+n*c) (h:y<=x+c):y<=a+(n+1)*c:=Nat.le_trans h (by rw [Nat.succ_mul,← Nat.add_assoc]; exact Nat.add_le_add_right z c)
theorem EaC.tl (h:EaC D ns k B s l e) (o:NsOk ns):e.t.length<=10+2*(40+s)∧e.k<=k+2+2*(2+B):=have l:=Nat.le_trans h.f.len o.l; ⟨mulT (b:=0) l _ _ h.t,mulT (b:=0) l _ _ h.k⟩
theorem EaC.next {p:Tm} {t:Str} (h:EaC D ns k B s (g::l) e) (hp:Kc 5 D 1 p) (hk:k'<=e.k+(2+B)) (ht:t.length<=e.t.length+(40+s)):EaC D ns k B s l ⟨k',e.dn++[g],e.as++[p],t⟩:=
 ⟨h.f.next,by rw [len_app,len_app,h.n],mem_app h.o hp,len_app.symm▸mulN h.k hk,len_app.symm▸mulN h.t ht⟩
end
section
variable {D n k B s k' j:Nat} {l:List Nat} {e:BoS} {c:Tm}
theorem BoC.next (h:BoC D n k B s (j::l) e) (hc:Kc 0 D 2 c∧c.sh.length<=3*(22+s)) (hk:k'<=e.k+(5+2*B)):BoC D n k B s l ⟨k',e.cs++[c]⟩:=
 ⟨by rw [len_app,Nat.add_assoc,Nat.add_comm 1]; exact h.n,mem_app h.o hc.1,mem_app h.t hc.2,len_app.symm▸mulN h.k hk⟩
theorem BoC.kl (h:BoC D n k B s l e) (hn:n<=2):e.k<=k+2*(5+2*B)∧e.cs.length<=2:=
 have l:e.cs.length<=2:=Nat.le_trans (Nat.le_trans (Nat.le_add_right ..) (Nat.le_of_eq h.n)) hn
 ⟨mulT (b:=0) l _ _ h.k,l⟩
theorem BoC.k1 (h:BoC D n k B s (j::l) e) (hn:n<=2):e.k<=k+(5+2*B):=by
 have h2:=h.n
 rw [List.length_cons] at h2
 exact Nat.le_trans h.k (Nat.add_le_add_left (Nat.le_trans (Nat.mul_le_mul_right _ (show e.cs.length<=1 by lia)) (Nat.le_of_eq (Nat.one_mul _))) _)
theorem BoC.T (h:BoC D n k B s l e):avs e.cs=e.cs.map Tm.avT:=(avs_map _).trans (List.map_congr_left fun c hc=>(h.o c hc).eq rfl)
theorem BoC.hd (h:BoC D (1+n) k B s [] e):∃ q:Tm×List Tm,e.cs=q.1::q.2:=by
 induction z:e.cs using List.casesOn with
 | nil=>have:=h.n; rw [z] at this; exact absurd this (by rw [List.length_nil,List.length_nil]; lia)
 | cons c r=>exact ⟨(c,r),rfl⟩
end
theorem joinN {g:List Bool} (h:g.length<=2):JnS " " (g.map fun y=>.str (vS y)) (.str (Txt.join " " (g.map vS)))∧(Txt.join " " (g.map vS)).length<=6:=
 have j:=joinB (sep:=" ") (ss:=g.map vS) (n:=2) (b:=1) (fun s hs=>by obtain ⟨y,_,rfl⟩:=List.mem_map.mp hs; induction y using Bool.casesOn <;> exact leK (by kernel_rfl)) (List.length_map (f:=vS)▸h) (leK (by kernel_rfl)) (by decide)
 ⟨⟨_,by rw [List.map_map]; rfl,j.1,rfl⟩,j.2⟩
section
variable {P:Params} {xs:List Int} {a k n D B s:Nat}
theorem gen_each (hx:xs.length<=63) (hE:0<D->Gen P n 923 xs D B s 0) (hs:s<=500) (hD:D<=1):Gen P (n+6) 923 xs (D+1) (17+6*B) (300+8*s) 0:=fun a k hk=>
 have l:10000<=lim:=by decide
 have l1:(" {":Str).length<=2:=leK (by kernel_rfl)
 have l2:("} ":Str).length<=2:=leK (by kernel_rfl)
 have l3:("}":Str).length<=1:=leK (by kernel_rfl)
 cfd_of (fun d F=>.cx (draw_spec (a:=a) (k:=k) (n:=2) hx (by lia) (by decide)) fun ml hml=>.ix (lm_ix hml)<|.nw fun i=>.mv 1<|.cx (draw_spec (a:=a) (k:=k+1) (n:=4) hx (by lia) (by decide)) fun mg hmg=>.ix (ns_ix hmg)<|
  have ok:=nsOf_ok mg
  have s5:s<=5000:=Nat.le_trans hs (by decide)
  .fa (show ((nsOf mg).map gAv).length<=lim from List.length_map (f:=gAv)▸Nat.le_trans ok.l (by decide))<|.fr gAv (EaC D (nsOf mg) k B s) (fun U e=>atO a e.k::(i,.list (argsL e.dn e.as))::F) (fun U e=>[.a,.a,.a,.v (.str e.t)]) (nsOf mg) ⟨k+2,[],[],lmS (ml==1)⟩
   ⟨⟨rfl⟩,rfl,nofun,by show k+2<=_; lia,Nat.le_trans (by induction (ml==1) using Bool.casesOn <;> exact leK (n:=10) (by kernel_rfl)) (Nat.le_add_right ..)⟩
   (fun e h=>
    have tk:=h.tl ok
    .cx (draw_spec (a:=a) (k:=e.k) (n:=D+1) hx (by lia) (Nat.succ_pos D)) fun mb hmb=>
    have hmb:mb<D+1:=hmb
    have b2:1+mb<=2:=by lia
    have b3:1+mb<=lim:=by lia
    .fa b3<|.fa b3<|.cm (fun j:Nat=>.int j) (BoC D (1+mb) (e.k+1) B s) (fun U b=>atO a b.k::(i,.list (argsL e.dn e.as))::F) (fun U b=>avs b.cs) (List.range (1+mb)) ⟨e.k+1,[]⟩
     ⟨by show 0+_=_; rw [List.length_range,Nat.zero_add],nofun,nofun,Nat.le_add_right ..⟩
     (fun b q=>
      have kl:=q.kl b2
      have cl:(avs b.cs).length<=lim:=avs_len▸Nat.le_trans kl.2 (by decide)
      .fa cl<|.ex q.hd fun c hc=>.mv 1<|.lv "body" (congrArg AV.lst q.T)<|
      have hb:(b.cs.map Tm.avT).length<=lim:=q.T▸cl
      have hb2:b.cs.length<=lim:=by lia
      have jn:=joinB (sep:="; ") (ss:=b.cs.map Tm.sh) (n:=2) (b:=3*(22+s)) (fun z hz=>by obtain ⟨c,hc,rfl⟩:=List.mem_map.mp hz; exact q.t c hc) (List.length_map (f:=Tm.sh)▸kl.2) (leK (by kernel_rfl)) (by lia)
      have lz:(e.t++" {"++Txt.join "; " (b.cs.map Tm.sh)++"}").length<=300+8*s:=by rw [str_app,str_app,str_app]; have:=jn.2; have:=tk.1; lia
      have hn:=h.f.all
      .bi (strB (x:=e.t) (y:=" {") (by have:=tk.1; lia))<|.fa hb<|.mp (atO a b.k::F) Tm.avT (fun c=>.str c.sh) hb2<|
      .v (show JnS "; " (b.cs.map fun c=>.str c.sh) (.str (Txt.join "; " (b.cs.map Tm.sh))) from ⟨_,by rw [List.map_map]; rfl,jn.1,rfl⟩)<|.bi (strB (x:=e.t++" {") (y:=Txt.join "; " (b.cs.map Tm.sh)) (by rw [str_app]; have:=jn.2; have:=tk.1; lia))<|.bi (strB (x:=e.t++" {"++Txt.join "; " (b.cs.map Tm.sh)) (y:="}") (by rw [str_app,str_app]; have:=jn.2; have:=tk.1; lia))<|
      .as (show AV.tup [.str (lmS (ml==1)),.lst (argsL e.dn e.as),.lst (b.cs.map Tm.avT),.str (e.t++" {"++Txt.join "; " (b.cs.map Tm.sh)++"}")]=.tup [.str (lmS (ml==1)),.lst (argsL (nsOf mg) e.as),.lst (c.1.av::avs c.2),.str (e.t++" {"++Txt.join "; " (b.cs.map Tm.sh)++"}")] by rw [hn,← q.T,hc]; rfl)<|
      have ho:=q.o
      .fin (b.k,.each (ml==1) (nsOf mg) e.as c.1 c.2 (e.t++" {"++Txt.join "; " (b.cs.map Tm.sh)++"}")) ⟨.each ⟨hD,hn▸h.n,h.n▸hn▸ok.l,ok.g⟩ h.o (ho _ (hc▸.head _)) (fun k hk=>ho _ (hc▸.tail _ hk)) (by have:=kl.2; rw [hc] at this; exact Nat.le_of_succ_le_succ this) (by lia),lz,by have:=kl.1; have:=tk.2; lia⟩)
     fun j l b q=>
      have kl:=q.k1 b2
      .bi (subB (x:=D+1) (y:=1) (n:=D) rfl)<|.ck (fun U=>d) ((gen_command hx hE (Nat.le_trans hs (by decide))).at (a:=a) (k:=b.k) (m:=1) (by lia)) fun x r=>.gq 0 rfl (avs_app b.cs x.2) (.mk (BoS.mk x.1 (b.cs++[x.2])) (q.next (k':=x.1) ⟨r.1,r.2.1⟩ (by have:=r.2.2; lia))))
   fun g l' e h=>
    have one:=h.one ok
    have tk:=h.tl ok
    have gl:(g.map fun y=>AV.str (vS y)).length<=lim:=List.length_map (f:=fun y=>AV.str (vS y))▸Nat.le_trans (ok.g g h.f.mem).2 (by decide)
    have jn:=joinN (ok.g g h.f.mem).2
    .bi (subB (x:=D+1) (y:=1) (n:=D) rfl)<|.ck (fun U=>d) ((gen_list (a:=a) (k:=e.k) hx hE s5 hD (by lia)).up (m:=2)) fun x q=>.pl 1<|.fa gl<|.pl 1<|
    .fa (show (argsL e.dn e.as).length<lim by rw [argsL,List.length_zipWith]; exact Nat.lt_of_le_of_lt (Nat.le_trans (Nat.min_le_left ..) one) (by decide))<|.ed 1 (congrArg AObj.list (args_app h.n g x.2.1))<|
    .bi (strB (x:=e.t) (y:=" {") (by lia))<|.v jn.1<|.bi (strB (x:=e.t++" {") (y:=Txt.join " " (g.map vS)) (by rw [str_app]; lia))<|.bi (strB (x:=e.t++" {"++Txt.join " " (g.map vS)) (y:="} ") (by rw [str_app,str_app]; lia))<|.bi (strB (x:=e.t++" {"++Txt.join " " (g.map vS)++"} ") (y:=x.2.2) (by rw [str_app,str_app,str_app]; have:=q.2.1; lia))<|
    .go 0 rfl (.mk ⟨x.1,e.dn++[g],e.as++[x.2.1],e.t++" {"++Txt.join " " (g.map vS)++"} "++x.2.2⟩ (h.next q.1 q.2.2 (by rw [str_app,str_app,str_app,str_app]; have:=q.2.1; lia)))) (by kernel_rfl)
theorem gen_two (hx:xs.length<=63):Gen P 12 923 xs 2 119 2700 0:=gen_each (n:=6) (D:=1) (B:=17) (s:=300) hx (fun U=>gen_each (n:=0) (D:=0) (B:=0) (s:=0) hx (fun h=>absurd h (by decide)) (by decide) (by decide)) (by decide) (by decide)
noncomputable abbrev fstP:List (Tm×Str):=[(.word [.t [48]],"0"),(.word [.t [48]],"0")]
noncomputable abbrev lstP:List (Tm×Str):=[(.word [.v false],"$x"),(.word [.v true],"$y")]
noncomputable def firstC:Tm:=.call .re [.word [.t [48]],.word [.t [48]]] (shC "rec" fstP)
noncomputable def lastC:Tm:=.call .re [.word [.v false],.word [.v true]] (shC "rec" lstP)
theorem sh_fst:JoinOk " " ("rec"::fstP.map (·.2))=true∧(shC "rec" fstP).length<=66:=shJ (b:=20) (Nat.le_refl 2) (pair_all (leK (by kernel_rfl)) (leK (by kernel_rfl))) (leK (by kernel_rfl)) (by decide)
theorem sh_lst:JoinOk " " ("rec"::lstP.map (·.2))=true∧(shC "rec" lstP).length<=66:=shJ (b:=20) (Nat.le_refl 2) (pair_all (leK (by kernel_rfl)) (leK (by kernel_rfl))) (leK (by kernel_rfl)) (by decide)
theorem k_first:Kc 0 2 1 firstC:=have w:Kc 4 2 0 (.word [.t [48]]):=.w1 (.pt ⟨by decide,by decide⟩); .re (.wf w) w (Nat.le_trans sh_fst.2 (by decide))
theorem k_last:Kc 0 2 1 lastC:=.re (.wf (.w1 .pv)) (.w1 .pv) (Nat.le_trans sh_lst.2 (by decide))
theorem gen_tree (hx:xs.length<=63) (hk:k<=10):CF P 13 942 [dat' xs,.ref a] [atO a k] ⟨Nat×Tm,fun x=>Kc 0 2 0 x.2,fun x=>[atO a x.1],fun x=>.ok (.lst (avs [firstC,x.2,lastC]))⟩ false:=
 cf_of (fun F=>.ca (call_spec "rec" (ps:=fstP) (Nat.le_refl 2) sh_fst.1)<|.ca (call_spec "rec" (ps:=lstP) (Nat.le_refl 2) sh_lst.1)<|.cx (gen_two hx a k (by lia)) fun x h=>.fin x h.1) (by kernel_rfl)
end
noncomputable def logAv (l:List (List T×Nat)):List AV:=l.map fun e=>.tup [.tup (strsL e.1),.int e.2]
noncomputable def rsD (s:RS):List (AV×AV):=[(.str "x",.tup [.str (S s.x),.int s.nx]),(.str "y",.tup [.str (S s.y),.int s.ny])]
noncomputable abbrev RL (a dx lg:Nat) (s:RS):HL:=[(a,.list [.ref dx,.ref lg]),(dx,.dict (rsD s)),(lg,.list (logAv s.log))]
theorem rs_get (s:RS) (y:Bool):getD (rsD s) (.str (vS y))=some (some (.tup [.str (S (s.var y)),.int (s.cnt y)])):=by induction y using Bool.casesOn <;> kernel_rfl
theorem rs_put (s:RS) (y:Bool) (t:T):putD (rsD s) (.str (vS y)) (.tup [.str (S t),.int (↑(s.cnt y)+1)])=rsD (s.wr y t):=by induction y using Bool.casesOn <;> kernel_rfl
noncomputable def rpM (a dx lg:Nat) (r:Ex T×RS) (x:Nat×Nat):HL:=match r with
 | (.ok _,s)=>RL a dx lg s
 | (.ex c v,s)=>(x.1,exc0 c v ecN x.2)::RL a dx lg s
noncomputable def rpO (r:Ex T×RS) (x:Nat×Nat):Out:=match r with
 | (.ok v,_)=>.ok (.str (S v))
 | (.ex _ _,_)=>.er x.1
noncomputable def RPost (a dx lg:Nat) (r:Ex T×RS):Post:=⟨Nat×Nat,fun U=>True,rpM a dx lg r,rpO r⟩
noncomputable def Hn.re {P:Params} {F:HL} {Λ:List LJ} {a dx lg:Nat} {r r':Ex T×RS} (e:r=r') (x:Nat×Nat):Hn P ((RPost a dx lg r).fr F) Λ:=.fe x trivial (M:=rpM a dx lg r' x++F) (o:=rpO r' x) (congrArg (fun r=>rpM a dx lg r x++F) e.symm) (congrArg (fun r=>rpO r x) e.symm)
theorem ex_or (r:Ex T×RS):(∃ q:T×RS,r=(.ok q.1,q.2))∨∃ q:Nat×T×RS,r=(.ex q.1 q.2.1,q.2.2):=by
 obtain ⟨r,s⟩:=r
 induction r using Ex.casesOn with
 | ok v=>exact .inl ⟨(v,s),rfl⟩
 | ex c v=>exact .inr ⟨(c,v,s),rfl⟩
noncomputable def Hn.rn {P:Params} {Po:Post} {Λ:List LJ} {n:Nat} {ad:Addr} {xs:List AV} {A:HL} {a dx lg:Nat} {r:Ex T×RS} {z:Bool} (dd:Nat->Nat) (h:CF P n ad xs A (RPost a dx lg r) z) (f:∀ v s,r=(.ok v,s)->Hn P Po Λ) (g:∀ c v s,r=(.ex c v,s)->∀ x:Nat×Nat,Hn P Po Λ):Hn P Po Λ:=
 .or (ex_or r) (fun h1=>.ex h1 fun q e=>.ck dd ((congrArg (fun r=>CF P n ad xs A (RPost a dx lg r) z) e).mp h:CF P n ad xs A (RPost a dx lg (.ok q.1,q.2)) z) fun U U=>f q.1 q.2 e)
  fun h1=>.ex h1 fun q e=>.ck dd ((congrArg (fun r=>CF P n ad xs A (RPost a dx lg r) z) e).mp h:CF P n ad xs A (RPost a dx lg (.ex q.1 q.2.1,q.2.2)) z) fun x U=>g q.1 q.2.1 q.2.2 e x
section
variable {P:Params} {a dx lg p:Nat} {s:RS}
theorem wr_spec (y:Bool) (t:T):CF P 1 949 [.ref a,.str (vS y),.str (S t)] (RL a dx lg s) (.one (RL a dx lg (s.wr y t)) (.ok (.str (S t)))) false:=
 cf_of (fun F=>.pl 0<|.pl 1<|.ix (show GdS (rsD s) _ _ from rs_get s y)<|.pl 0<|.pl 1<|.fa (⟨rfl,⟨_,rs_get s y⟩,leK rfl⟩:DkS (rsD s) (.str (vS y)))<|.ed 1 (congrArg AObj.dict (rs_put s y t))<|.ed 2 (congrArg (fun l=>AObj.list (logAv l)) (wr_log (s:=s) (y:=y) (t:=t)).symm) .ok) (by kernel_rfl)
theorem S_beqd (a b:T):(S a==S b)=decide (a=b):=by
 by_cases h:a=b
 ·subst h; simp
 ·rw [decide_eq_false h]; exact beq_eq_false_iff_ne.mpr fun z=>h (S_inj z)
noncomputable abbrev stD:List (AV×AV):=[(.str "2",.int 3),(.str "e",.int 4),(.str "f",.int 5)]
theorem stop_get (a:T):GeS stD (.str (S a)) (.int 0) (.int (stopC a:Nat)):=by
 have q2:("2":Str)=S [50]:=by kernel_rfl
 have qe:("e":Str)=S [101]:=by kernel_rfl
 have qf:("f":Str)=S [102]:=by kernel_rfl
 refine ⟨rfl,if a=[50] then some (.int 3) else if a=[101] then some (.int 4) else if a=[102] then some (.int 5) else none,?_,?_⟩
 ·unfold stD
  rw [q2,qe,qf]
  unfold getD
  rw [if_pos (by rfl)]
  simp only [List.find?,keyIs,S_beqd]
  by_cases h2:a=[50]
  ·rw [decide_eq_true h2,if_pos h2]; rfl
  by_cases he:a=[101]
  ·rw [decide_eq_false h2,decide_eq_true he,if_neg h2,if_pos he]; rfl
  by_cases hf:a=[102]
  ·rw [decide_eq_false h2,decide_eq_false he,decide_eq_true hf,if_neg h2,if_neg he,if_pos hf]; rfl
  rw [decide_eq_false h2,decide_eq_false he,decide_eq_false hf,if_neg h2,if_neg he,if_neg hf]; rfl
 ·unfold stopC
  split
  ·rfl
  split
  ·rfl
  split <;> rfl
theorem log_app (l:List (List T×Nat)) (ts:List T) (p:Nat):logAv l++[.tup [.tup (strsL ts),.int p]]=logAv (l++[(ts,p)]):=by unfold logAv; rw [List.map_append]; rfl
theorem log_len {l:List (List T×Nat)} (h:l.length<=90000):(logAv l).length<lim:=by unfold logAv; rw [List.length_map]; exact Nat.lt_of_le_of_lt h (by decide)
noncomputable def Hn.stp {Po:Post} {Λ:List LJ} (u:T) (r:Hn P Po Λ):Hn P Po Λ:=.nw fun U=>.pl 0<|.pl 0<|.dr 0<|.nw fun U=>.pl 0<|.pl 0<|.ix (stop_get u)<|.dr 0 r
theorem do_spec {dl:Nat} {nm:Nm} {ts:List T} (hk:OkI dl nm ts) (hlog:s.log.length<=90000):CF P 2 968 [.str (nmS nm),.lst (strsL ts),.ref a,.int p] (RL a dx lg s) (RPost a dx lg (doIt nm ts p s)) true:=by
 induction hk using OkI.casesOn with
 | @re u v hu _ hv=>exact cfn_of (fun F=>.pl 0<|.pl 2<|.fa (show [AV.str (S u),.str (S v)].length<=lim from leK rfl)<|.pl 2<|.fa (log_len hlog)<|.ed 2 (congrArg AObj.list (log_app s.log [u,v] p))<|.re rfl (0,0)) (by kernel_rfl)
 | @put y v hv=>
  have e:doIt .put [vT y,v] p s=(.ok v,s.wr y v):=by induction y using Bool.casesOn <;> rfl
  have w:CF P 1 949 [.ref a,.str (S (vT y)),.str (S v)] (RL a dx lg s) (.one (RL a dx lg (s.wr y v)) (.ok (.str (S v)))) false:=vS_T y▸wr_spec y v
  rw [e]
  exact cfn_of (fun F=>.ca w<|.re rfl (0,0)) (by kernel_rfl)
 | @stop u hu=>
  rcases Nat.eq_zero_or_pos (stopC u) with h | h
  ·rw [show doIt .stop [u] p s=(.ok u,s) from if_pos h]
   exact cfn_of (fun F=>Hn.stp u<|.is (ltF (x:=0) (y:=stopC u) (by rw [h]; decide))<|.re rfl (0,0)) (by kernel_rfl)
  ·rw [show doIt .stop [u] p s=(.ex (stopC u) [],s) from if_neg (Nat.ne_of_gt h)]
   exact cfn_of (fun F=>Hn.stp u<|.is (ltT (x:=0) (y:=stopC u) h)<|.xc fun i el=>.pl 1<|.dr 0<|.re rfl (i,el)) (by kernel_rfl)
 | brk=>exact cfn_of (fun F=>.nw fun i=>.pl 0<|.pl 0<|.dr 0<|.xc fun i el=>.pl 1<|.dr 0<|.re rfl (i,el)) (by kernel_rfl)
 | cnt=>exact cfn_of (fun F=>.nw fun i=>.pl 0<|.pl 0<|.dr 0<|.xc fun i el=>.pl 1<|.dr 0<|.re rfl (i,el)) (by kernel_rfl)
end
noncomputable def RunsOk (P:Params) (n:Nat) (X:Tm->Prop):Prop:=∀ {a dx lg p:Nat} {s:RS} {cs:List Tm},(∀ c∈cs,X c)->okRS s->s.log.length+szL cs<=90000->CF P n 999 [.lst (avs cs),.ref a,.int p] (RL a dx lg s) (RPost a dx lg (runR p [] cs s)) true
noncomputable def TextOk (P:Params) (n:Nat) (w:Tm):Prop:=∀ {a dx lg p:Nat} {s:RS},okRS s->s.log.length+w.sz<=90000->CF P n 982 [w.av,.ref a,.int p] (RL a dx lg s) (RPost a dx lg (run p w s)) true
noncomputable def LoopOk (P:Params) (n:Nat) (c:Tm):Prop:=∀ {a dx lg p:Nat} {s:RS},okRS s->s.log.length+c.sz<=90000->CF P n 994 [c.av,.ref a,.int p] (RL a dx lg s) (RPost a dx lg (run p c s)) true
noncomputable def Gd (l:Nat) (X:Tm->Prop):Prop:=∀ c,X c->∀ p,Trp (run p c) c.sz (Lv l)
inductive PcI (X:Tm->Prop):Tm->Prop
 | t {u} (h:u.length<=100):PcI X (.t u)
 | v {y}:PcI X (.v y)
 | c {k} (h:X k):PcI X (.c k)
structure WG (X:Tm->Prop) (w:List Tm):Prop where
 l:w.length<=3
 p:∀ c∈w,PcI X c
theorem PcI.or {X:Tm->Prop} {c:Tm} (h:PcI X c):(∃ u:T,c=.t u∧u.length<=100)∨(∃ y,c=.v y)∨∃ k,c=.c k∧X k:=by
 induction h using PcI.casesOn with
 | t h=>exact .inl ⟨_,rfl,h⟩
 | v=>exact .inr (.inl ⟨_,rfl⟩)
 | c h=>exact .inr (.inr ⟨_,rfl,h⟩)
theorem avs_at {w:List Tm} {k:Nat} {c:Tm} (h:w[k]?=some c) (hl:w.length<=3) {v:AV} (e:c.av=v):IxS (avs w) k v:=
 ixS (by rw [avs_map,List.getElem?_map,h]; exact congrArg some e) (avs_len▸Nat.le_trans hl (by decide))
structure Plc (ws rs dn:List Tm) (l:List Nat):Prop where
 f:Suf ws rs dn
 l:l=List.range' dn.length rs.length
section
variable {ws rs dn q:List Tm} {l:List Nat} {x:Nat} {c:Tm}
theorem Plc.init {n:Nat} (h:n=ws.length):Plc ws ws [] (List.range n):=⟨⟨rfl⟩,h▸List.range_eq_range'⟩
theorem Plc.hd (h:Plc ws rs dn (x::l)):x=dn.length∧∃ c q,rs=c::q:=by
 have hl:=h.l
 induction e:rs using List.casesOn with
 | nil=>rw [e] at hl; injection hl
 | cons c q=>rw [e] at hl; exact ⟨(List.cons.inj hl).1,c,q,rfl⟩
theorem Plc.next (h:Plc ws (c::q) dn (x::l)):Plc ws q (dn++[c]) l:=⟨h.f.next,by rw [len_app]; exact (List.cons.inj h.l).2⟩
theorem Plc.all (h:Plc ws rs dn []):rs=[]:=by
 have hl:=h.l
 induction rs using List.casesOn with
 | nil=>rfl
 | cons=>injection hl
theorem Plc.at (h:Plc ws (c::q) dn l):ws[dn.length]?=some c:=by rw [h.f.e,List.getElem?_append_right (Nat.le_refl _),Nat.sub_self]; rfl
end
structure TxS where
 dn:List Tm
 rs:List Tm
 out:T
 s:RS
structure TxC (w:List Tm) (p:Nat) (r:Ex T×RS) (l:List Nat) (t:TxS):Prop where
 f:Plc w t.rs t.dn l
 s:okRS t.s
 g:t.s.log.length+szL t.rs<=90000
 o:t.out.length<=100*t.dn.length
 r:r=bindR (runL (p+t.dn.length) t.rs t.s) fun vs=>PM.pure (t.out++vs.flatten)
section
variable {w q:List Tm} {p c' x:Nat} {r:Ex T×RS} {l:List Nat} {t:TxS} {c:Tm} {v:T} {s':RS}
theorem bind_bind {α β γ:Type} {r:Ex α×RS} {f:α->PM β} {g:β->PM γ}:bindR (bindR r f) g=bindR r fun a s=>bindR (f a s) g:=by
 obtain ⟨r,s⟩:=r
 induction r using Ex.casesOn <;> rfl
theorem TxC.rr (h:TxC w p r l t) (e:t.rs=c::q):r=bindR (run (p+t.dn.length) c t.s) fun v s=>bindR (runL (p+t.dn.length+1) q s) fun vs=>PM.pure (t.out++v++vs.flatten):=by
 have h4:=h.r
 rw [e] at h4
 refine h4.trans ((bind_bind (f:=fun v=>PM.bind (runL (p+t.dn.length+1) q) fun vs=>PM.pure (v::vs))).trans (congrArg _ (funext fun v=>funext fun s=>bind_bind.trans (congrArg _ (funext fun vs=>?_)))))
 show PM.pure (t.out++(v::vs).flatten)=_
 rw [List.append_assoc]; rfl
theorem TxC.next (h:TxC w p r (x::l) t) (e:t.rs=c::q) (ev:run (p+t.dn.length) c t.s=(.ok v,s')) (hv:v.length<=100) (hs:okRS s') (hg:s'.log.length<=t.s.log.length+c.sz):TxC w p r l ⟨t.dn++[c],q,t.out++v,s'⟩:=by
 have h2:=h.g
 have h3:=h.o
 have h4:=h.rr e
 have h5:=h.f
 rw [ev] at h4
 rw [e] at h2 h5
 rw [szL] at h2
 exact ⟨h5.next,hs,by show _+_<=_; lia,by rw [len_app,List.length_append]; lia,by rw [len_app]; exact h4⟩
theorem TxC.all (h:TxC w p r [] t):r=(.ok t.out,t.s):=by
 have h2:=h.r
 rw [h.f.all] at h2
 exact h2.trans (by show (Ex.ok (t.out++[]),t.s)=_; rw [List.append_nil])
theorem TxC.bad (h:TxC w p r l t) (e:t.rs=c::q) (ev:run (p+t.dn.length) c t.s=(.ex c' v,s')):r=(.ex c' v,s'):=by
 have h4:=h.rr e
 rw [ev] at h4
 exact h4
theorem cs_one {p:Nat} {c:Tm} {s:RS}:runR p [] [c] s=run p c s:=by
 show bindR (run p c s) PM.pure=_
 generalize run p c s=r
 obtain ⟨r,s⟩:=r
 induction r using Ex.casesOn <;> rfl
end
section
variable {P:Params} {n l:Nat} {X:Tm->Prop}
theorem lim400 {a b:Nat} (h:a<=300) (k:b<=100):a+b<=lim:=Nat.le_trans (Nat.add_le_add h k) (by decide)
theorem text_ok (hG:Gd l X) (hR:RunsOk P n X) {w:List Tm} (hw:WG X w):TextOk P (n+1) (.word w):=fun {a dx lg p s} hs hlog=>
 have pl2:(avs w).length<=lim:=avs_len▸Nat.le_trans hw.l (by decide)
 cfnd_of (fun d F=>.fa pl2<|.fa pl2<|.fa pl2<|
  .fr (fun k:Nat=>.int k) (TxC w p (run p (.word w) s)) (fun U t=>RL a dx lg t.s++F) (fun U t=>[.a,.a,.a,.v (.str (S t.out))]) (List.range (avs w).length) ⟨[],w,[],s⟩ ⟨.init avs_len,hs,Nat.le_trans (Nat.add_le_add_left (Nat.le_add_left ..) _) hlog,Nat.le_refl _,rfl⟩
   (fun t h=>.re h.all (0,0))
   fun x l' t h=>.ex h.f.hd.2 fun c h2=>.ex h2 fun q e=>
    have hk:=h.f.hd.1
    have hat:w[t.dn.length]?=some c:=(e▸h.f:Plc w (c::q) t.dn (x::l')).at
    have ht:t.out.length<=300:=Nat.le_trans h.o (Nat.mul_le_mul_left 100 (Nat.le_trans h.f.f.len hw.l))
    .or (hw.p c (List.mem_of_getElem? hat)).or (fun h3=>.ex h3 fun u eu=>
     .lv "k" (kdE hk)<|.ix (avs_at (c:=c) (k:=t.dn.length) hat hw.l (congrArg Tm.av eu.1))<|.bi (catB (x:=t.out) (y:=u) rfl (lim400 ht eu.2))<|.go 0 rfl (.mk (TxS.mk (t.dn++[c]) q (t.out++u) t.s) (h.next e (by rw [eu.1]; rfl) eu.2 h.s (Nat.le_add_right ..)))) fun h3=>
    .or h3 (fun h3=>.ex h3 fun y eu=>
     have hu:(t.s.var y).length<=100:=Nat.le_trans (isV_len (h.s.var y)) (by decide)
     .lv "k" (kdE hk)<|.ix (avs_at (c:=c) (k:=t.dn.length) hat hw.l (congrArg Tm.av eu))<|.pl 0<|.pl 1<|.ix (show GdS (rsD t.s) _ _ from rs_get t.s y)<|.bi (catB (x:=t.out) (y:=t.s.var y) rfl (lim400 ht hu))<|.go 0 rfl (.mk (TxS.mk (t.dn++[c]) q (t.out++t.s.var y) t.s) (h.next e (by rw [eu]; rfl) hu h.s (Nat.le_add_right ..)))) fun h3=>
    .ex h3 fun k eu=>
     have hg:t.s.log.length+szL [k]<=90000:=by have:=h.g; rw [e,szL,eu.1,Tm.sz] at this; rw [szL,szL]; lia
     have tr:=hG k eu.2 (p+t.dn.length)
     have rc:run (p+t.dn.length) c t.s=runR (p+t.dn.length) [] [k] t.s:=by rw [eu.1,cs_one]; rfl
     have us {r:Ex T} {s':RS} (ev:run (p+t.dn.length) c t.s=(r,s')):okRS s'∧s'.log.length<=t.s.log.length+c.sz:=have u:=tr.use h.s (by rw [eu.1] at ev; exact ev); ⟨u.1,Nat.le_trans u.2 (Nat.add_le_add_left (by rw [eu.1]; exact Nat.le_add_left ..) _)⟩
     .lv "k" (kdE hk)<|.ix (avs_at (c:=c) (k:=t.dn.length) hat hw.l (congrArg Tm.av eu.1))<|
     .rn (fun U=>d) (hR (a:=a) (dx:=dx) (lg:=lg) (p:=p+t.dn.length) (fun c' hc=>List.mem_singleton.mp hc▸eu.2) h.s hg)
      (fun v s' ev=>
       have hv:v.length<=100:=(tr.val h.s (cs_one▸ev)).to2.1
       .bi (catB (x:=t.out) (y:=v) rfl (lim400 ht hv))<|.go 0 rfl (.mk (TxS.mk (t.dn++[c]) q (t.out++v) s') (h.next e (rc.trans ev) hv (us (rc.trans ev)).1 (us (rc.trans ev)).2)))
      fun c' v s' ev x=>.re (h.bad e (rc.trans ev)) x) (by kernel_rfl)
end
structure CallOk' (P:Params) (n:Nat) (nm:Nm) (ws:List Tm):Prop where
 l:ws.length<=2
 t:∀ w∈ws,TextOk P n w
 b:∀ w∈ws,∃ R,∀ p,Trp (run p w) w.sz R
 o:∀ p,Trp (runL p ws) (szL ws) fun ts=>∃ d,OkI d nm ts
inductive CmdOk (P:Params) (n:Nat):Tm->Prop
 | each {lm ns ws b r sh} (h:LoopOk P n (.each lm ns ws b r sh)):CmdOk P n (.each lm ns ws b r sh)
 | call {nm ws sh} (h:CallOk' P n nm ws):CmdOk P n (.call nm ws sh)
theorem CmdOk.or {P:Params} {n:Nat} {c:Tm} (h:CmdOk P n c):(∃ q:Bool×List AV×List AV×Str,c.av=.tup [.str (lmS q.1),.lst q.2.1,.lst q.2.2.1,.str q.2.2.2]∧LoopOk P n c)∨∃ q:Nm×List Tm×Str,c=.call q.1 q.2.1 q.2.2∧CallOk' P n q.1 q.2.1:=by
 induction h using CmdOk.casesOn with
 | each h=>exact .inl ⟨(_,_,_,_),rfl,h⟩
 | call h=>exact .inr ⟨(_,_,_),rfl,h⟩
structure RuS where
 dn:List Tm
 out:T
 s:RS
structure RuC (cs:List Tm) (p:Nat) (r:Ex T×RS) (l:List Tm) (t:RuS):Prop where
 f:Suf cs l t.dn
 s:okRS t.s
 g:t.s.log.length+szL l<=90000
 r:r=runR p t.out l t.s
section
variable {cs l:List Tm} {p:Nat} {r:Ex T×RS} {c:Tm} {t:RuS} {v:T} {s':RS} {c':Nat}
theorem RuC.rr (h:RuC cs p r (c::l) t):r=bindR (run p c t.s) fun v=>runR p v l:=h.r
theorem RuC.next (h:RuC cs p r (c::l) t) (e:run p c t.s=(.ok v,s')) (u:okRS s'∧s'.log.length<=t.s.log.length+c.sz):RuC cs p r l ⟨t.dn++[c],v,s'⟩:=by
 have h2:=h.g
 have h3:=h.rr
 rw [szL] at h2
 rw [e] at h3
 have:=u.2
 exact ⟨h.f.next,u.1,by show _+_<=_; lia,h3⟩
theorem RuC.bad (h:RuC cs p r (c::l) t) (e:run p c t.s=(.ex c' v,s')):r=(.ex c' v,s'):=by
 have h3:=h.rr
 rw [e] at h3
 exact h3
end
structure WsS where
 dn:List Tm
 rs:List Tm
 ts:List T
 s:RS
structure WsC (ws:List Tm) (p:Nat) (r:Ex (List T)×RS) (b:Nat) (l:List Nat) (t:WsS):Prop where
 f:Plc ws t.rs t.dn l
 s:okRS t.s
 g:t.s.log.length+szL t.rs<=b
 r:r=bindR (runL (p+t.dn.length) t.rs t.s) fun vs=>PM.pure (t.ts++vs)
section
variable {ws q:List Tm} {p b x c:Nat} {r:Ex (List T)×RS} {l:List Nat} {t:WsS} {w:Tm} {v:T} {s' s:RS}
theorem WsC.init {n:Nat} (hs:okRS s) (hl:n=ws.length):WsC ws p (runL p ws s) (s.log.length+szL ws) (List.range n) ⟨[],ws,[],s⟩:=⟨.init hl,hs,Nat.le_refl _,by
 show _=bindR (runL p ws s) fun vs=>PM.pure vs
 generalize runL p ws s=r
 obtain ⟨r,s⟩:=r
 induction r using Ex.casesOn <;> rfl⟩
theorem WsC.rr (h:WsC ws p r b (x::l) t) (e:t.rs=w::q):r=bindR (run (p+x) w t.s) fun v s=>bindR (runL (p+t.dn.length+1) q s) fun vs=>PM.pure (t.ts++[v]++vs):=by
 have h4:=h.r
 rw [h.f.hd.1]
 rw [e] at h4
 refine h4.trans ((bind_bind (f:=fun v=>PM.bind (runL (p+t.dn.length+1) q) fun vs=>PM.pure (v::vs))).trans (congrArg _ (funext fun v=>funext fun s=>bind_bind.trans (congrArg _ (funext fun vs=>?_)))))
 show PM.pure (t.ts++v::vs)=_
 rw [List.append_assoc]; rfl
theorem WsC.all (h:WsC ws p r b [] t):r=(.ok t.ts,t.s):=by
 have h2:=h.r
 rw [h.f.all] at h2
 exact h2.trans (by show (Ex.ok (t.ts++[]),t.s)=_; rw [List.append_nil])
theorem WsC.bad (h:WsC ws p r b (x::l) t) (e:t.rs=w::q) (ev:run (p+x) w t.s=(.ex c v,s')):r=(.ex c v,s'):=by
 have h4:=h.rr e
 rw [ev] at h4
 exact h4
theorem WsC.next (h:WsC ws p r b (x::l) t) (e:t.rs=w::q) (ev:run (p+x) w t.s=(.ok v,s')) (u:okRS s'∧s'.log.length<=t.s.log.length+w.sz):WsC ws p r b l ⟨t.dn++[w],q,t.ts++[v],s'⟩:=by
 have h2:=h.g
 have h4:=h.rr e
 have h5:=h.f
 rw [ev] at h4
 rw [e] at h2 h5
 rw [szL] at h2
 have:=u.2
 exact ⟨h5.next,u.1,by show _+_<=_; lia,by rw [len_app]; exact h4⟩
theorem WsC.wd (h:WsC ws p r b (x::l) t) (hl:ws.length<=2) (hb:b<=90000):∃ e:Tm×List Tm,t.rs=e.1::e.2∧ws[x]?=some e.1∧t.s.log.length+e.1.sz<=90000:=h.f.hd.2.elim fun w k=>k.elim fun q e=>⟨(w,q),e,h.f.hd.1▸(e▸h.f:Plc ws (w::q) t.dn (x::l)).at,by have:=h.g; rw [e,szL] at this; show _+w.sz<=_; lia⟩
end
theorem lm_in (lm:Bool):(["foreach","lmap"]:List Str).any (·==lmS lm)=true:=by induction lm using Bool.casesOn <;> kernel_rfl
theorem nm_in (nm:Nm):(["foreach","lmap"]:List Str).any (·==nmS nm)=false:=by induction nm using Nm.casesOn <;> kernel_rfl
section
variable {P:Params} {n l:Nat} {X:Tm->Prop}
theorem szL_len:∀ w:List Tm,w.length<=szL w
 | []=>Nat.zero_le _
 | c::r=>by rw [szL]; exact Nat.add_comm 1 c.sz▸Nat.add_right_comm c.sz 1 (szL r)▸Nat.succ_le_succ (Nat.le_trans (szL_len r) (Nat.le_add_left ..))
theorem ts_app (ts:List T) (v:T):strsL ts++[.str (S v)]=strsL (ts++[v]):=by rw [strsL,strsL,List.map_append]; rfl
theorem CF.le {k m:Nat} {ad:Addr} {xs:List AV} {A:HL} {p:Post} {z:Bool} (h:CF P k ad xs A p z) (hk:k<=m):CF P m ad xs A p z:=Nat.add_sub_cancel' hk▸h.up (m:=m - k)
theorem okI_len {d:Nat} {nm:Nm} {ts:List T} (h:OkI d nm ts):ts.length<=2:=by induction h using OkI.casesOn <;> exact leK rfl
theorem run_ok (hG:Gd l X) (hn:2<=n) (hC:∀ c,X c->CmdOk P n c):RunsOk P (n+1) X:=fun {a dx lg p s cs} hX hs hlog=>
 have cl2:(cs.map Tm.av).length<=lim:=by rw [List.length_map]; exact Nat.le_trans (Nat.le_trans (Nat.le_trans (szL_len cs) (Nat.le_add_left ..)) hlog) (by decide)
 cfnd_of (fun d F=>.lv "tree" (congrArg AV.lst (avs_map cs))<|.fa cl2<|
  .fr Tm.av (RuC cs p (runR p [] cs s)) (fun U t=>RL a dx lg t.s++F) (fun U t=>[.a,.a,.v (.str (S t.out))]) cs ⟨[],[],s⟩ ⟨⟨rfl⟩,hs,hlog,rfl⟩
   (fun t h=>.re (show runR p [] cs s=(.ok t.out,t.s) from h.r) (0,0))
   fun c l' t h=>
    have hc:=hX c h.f.mem
    have hg:t.s.log.length+c.sz<=90000:=by have:=h.g; rw [szL] at this; lia
    have nx {v:T} {s':RS} (ev:run p c t.s=(.ok v,s')):=h.next ev ((hG c hc p).use h.s ev)
    .or (hC c hc).or
    (fun h1=>.ex h1 fun q e=>
     have lo:CF P n 994 [c.av,.ref a,.int p] (RL a dx lg t.s) (RPost a dx lg (run p c t.s)) true:=e.2 h.s hg
     .lv "command" e.1<|.is (lm_in q.1)<|.rn (fun U=>d) (e.1▸lo:CF P n 994 [.tup [.str (lmS q.1),.lst q.2.1,.lst q.2.2.1,.str q.2.2.2],.ref a,.int p] (RL a dx lg t.s) (RPost a dx lg (run p c t.s)) true) (fun v s' ev=>.go 0 rfl (.mk (RuS.mk (t.dn++[c]) v s') (nx ev))) fun c' v s' ev x=>.re (h.bad ev) x)
    fun h1=>.ex h1 fun q e=>
     have ko:=e.2
     have wl2:(avs q.2.1).length<=lim:=avs_len▸Nat.le_trans ko.l (by decide)
     have hw:t.s.log.length+szL q.2.1+3<=90000:=by rw [e.1,Tm.sz] at hg; lia
     have rc:run p c t.s=bindR (runL (p+1) q.2.1 t.s) fun ts=>doIt q.1 ts p:=by rw [e.1]; rfl
     .lv "command" (congrArg Tm.av e.1)<|.is (nm_in q.1)<|.fa wl2<|.fa wl2<|.fa wl2<|
     .cm (fun k:Nat=>.int k) (WsC q.2.1 (p+1) (runL (p+1) q.2.1 t.s) (t.s.log.length+szL q.2.1)) (fun U u=>RL a dx lg u.s++F) (fun U u=>strsL u.ts) (List.range (avs q.2.1).length) ⟨[],q.2.1,[],t.s⟩
      (.init h.s avs_len)
      (fun u k=>
       have ev:=k.all
       have us:=(ko.o (p+1)).use h.s ev
       have oi:=(ko.o (p+1)).val h.s ev
       have ul:(strsL u.ts).length<=lim:=strsL_len▸Nat.le_trans (oi.elim fun U o=>okI_len o) (by decide)
       have lg2:u.s.log.length<=90000:=Nat.le_trans us.2 (Nat.le_trans (Nat.le_add_right ..) hw)
       have rc2:run p c t.s=doIt q.1 u.ts p u.s:=by rw [rc,ev]; rfl
       .fa ul<|.rn (fun U=>d) ((oi.elim fun U o=>do_spec (a:=a) (dx:=dx) (lg:=lg) (p:=p) o lg2).le hn) (fun v s' e2=>.go 0 rfl (.mk (RuS.mk (t.dn++[c]) v s') (nx (rc2.trans e2)))) fun c' v s' e2 x=>.re (h.bad (rc2.trans e2)) x)
      fun x l2 u k=>.ex (k.wd ko.l (Nat.le_trans (Nat.le_add_right _ 3) hw)) fun w h2=>
       have hm:=List.mem_of_getElem? h2.2.1
       .ix (show IxS [.str (nmS q.1),.lst (avs q.2.1),.lst [],.str q.2.2] (1:Nat) _ from ixS rfl (leK rfl))<|.ix (avs_at h2.2.1 (Nat.le_succ_of_le ko.l) rfl)<|.rn (fun U=>d) (ko.t w.1 hm (a:=a) (dx:=dx) (lg:=lg) (p:=p+1+x) k.s h2.2.2)
        (fun v s' ev=>.gq 0 rfl (ts_app u.ts v) (.mk (WsS.mk (u.dn++[w.1]) w.2 (u.ts++[v]) s') (k.next h2.1 ev ((ko.b w.1 hm).elim fun L tr=>(tr _).use k.s ev))))
        fun c' v s' ev x=>.re (h.bad (rc.trans (by rw [k.bad h2.1 ev]; rfl))) x) (by kernel_rfl)
end
noncomputable abbrev LT:=List (Nat×List T)
noncomputable def itH (L:LT):HL:=L.map fun e=>(e.1,.list (strsL e.2))
noncomputable def idsL (L:LT):List AV:=L.map fun e=>.ref e.1
noncomputable def itT (L:LT):List (List T):=L.map fun e=>e.2
theorem itH_mid {A F:HL} {D R:LT} {i:Nat} {l:List T}:(A++(i,.list (strsL l))::(itH (D++R)++F)).Perm (A++(itH (D++(i,l)::R)++F)):=by
 have:itH (D++(i,l)::R)++F=itH D++(i,.list (strsL l))::(itH R++F):=by unfold itH; rw [List.map_append,List.append_assoc]; rfl
 rw [this,show itH (D++R)++F=itH D++(itH R++F) by unfold itH; rw [List.map_append,List.append_assoc]]
 exact List.Perm.append_left _ List.perm_middle.symm
theorem itH_in {A F:HL} {D R:LT} {i:Nat} {l:List T} (σ:AHeap) (h:H σ (A++(itH (D++(i,l)::R)++F))):H σ (A++(i,.list (strsL l))::(itH (D++R)++F)):=h.perm itH_mid.symm
theorem itH_out {A F:HL} {D R:LT} {i:Nat} {l:List T} (σ:AHeap) (h:H σ (A++(i,.list (strsL l))::(itH (D++R)++F))):H σ (A++(itH (D++[(i,l)]++R)++F)):=by rw [List.append_assoc]; exact h.perm itH_mid
theorem strOk_S (t:T):PyData.strOk (S t)=okT t:=by
 unfold PyData.strOk okT S
 simp
theorem dat_strs {σ:AHeap} {n:Nat}:∀ {ls:List T},(∀ t∈ls,okT t=true)->DatsR σ (n+1) (strsL ls) (ls.map fun t=>.str (S t))
 | [],_=>.nil
 | t::r,h=>.cons (.str ((strOk_S t).trans (h t (.head _)))) (dat_strs fun u hu=>h u (.tail _ hu))
theorem ne_nil {L:HL} {i k:Nat} {ls:List T} {b:Bool} (e:L[k]?=some (i,.list (strsL ls))) (ho:∀ t∈ls,okT t=true) (hb:(!ls.isEmpty)=b):CmpH L .NotEq (.ref i) (.lst []) (.bool b):=⟨_,rfl,fun σ h=>hb▸by
 have:EqR σ (.ref i) (.lst []) (PyData.eqv (.list (ls.map fun t=>.str (S t))) (.list [])):=.d (.ref (h.at e) (dat_strs ho)) (.lst .nil)
 have z:PyData.eqv (.list (ls.map fun t=>.str (S t))) (.list [])=ls.isEmpty:=by induction ls using List.casesOn <;> rfl
 exact .ne (z▸this)⟩
theorem lv_isV {u:T} (h:isV u):okT u=true:=isJ_okT (isV_isJ h)
theorem lst_or {α:Type} (l:List α):l=[]∨∃ c:α×List α,l=c.1::c.2:=by induction l using List.casesOn; exact .inl rfl; exact .inr ⟨(_,_),rfl⟩
structure NxS where
 D:LT
 R:LT
 g:List (List Bool)
 s:RS
structure NxC (ns:List (List Bool)) (L:LT) (s0:RS) (l:List Nat) (t:NxS):Prop where
 l:l=List.range' t.D.length t.g.length
 n:t.g.length=t.R.length
 d:ns.drop t.D.length=t.g
 i:idsL (t.D++t.R)=idsL L
 v:∀ e∈t.R,∀ u∈e.2,isV u
 k:∀ e∈t.R,e.2.length<=3
 r:nextA ns (itT L) s0=(itT t.D++(nextA t.g (itT t.R) t.s).1,(nextA t.g (itT t.R) t.s).2)
structure NxI (m:List Bool) (l:List T) (s0:RS) (m':List Bool) (t:List T×RS):Prop where
 v:∀ u∈t.1,isV u
 k:t.1.length<=3
 r:nextG m l s0=nextG m' t.1 t.2
theorem NxI.nil {m:List Bool} {l:List T} {s0:RS} {y:Bool} {m':List Bool} {t:List T×RS} (h:NxI m l s0 (y::m') t) (e:t.1=[]):NxI m l s0 m' ([],t.2.wr y []):=⟨nofun,Nat.zero_le _,by have:=h.r; rw [e] at this; exact this⟩
theorem NxI.cons {m:List Bool} {l:List T} {s0:RS} {y:Bool} {m':List Bool} {t:List T×RS} (h:NxI m l s0 (y::m') t) {c:T×List T} (e:t.1=c.1::c.2):NxI m l s0 m' (c.2,t.2.wr y c.1):=by
 obtain ⟨v,k,r⟩:=h
 rw [e] at v k r
 exact ⟨fun u hu=>v u (.tail _ hu),Nat.le_of_succ_le k,r⟩
structure NxH (t:NxS) (x:Nat) (l:List Nat) (m:List Bool) (e:Nat×List T) (g:List (List Bool)) (R:LT):Prop where
 x:x=t.D.length
 g:t.g=m::g
 R:t.R=e::R
theorem NxC.hd {ns:List (List Bool)} {L:LT} {s0:RS} {x:Nat} {l:List Nat} {t:NxS} (h:NxC ns L s0 (x::l) t):∃ q:List Bool×(Nat×List T)×List (List Bool)×LT,NxH t x l q.1 q.2.1 q.2.2.1 q.2.2.2:=by
 have h1:=h.l
 have h2:=h.n
 induction e:t.g using List.casesOn with
 | nil=>rw [e] at h1; injection h1
 | cons m g=>
  rw [e] at h1 h2
  induction e2:t.R using List.casesOn with
  | nil=>rw [e2] at h2; injection h2
  | cons c R=>exact ⟨(m,c,g,R),(List.cons.inj h1).1,e,e2⟩
section
variable {ns:List (List Bool)} {L:LT} {s0:RS} {x:Nat} {l:List Nat} {t:NxS} {m:List Bool} {e:Nat×List T} {g:List (List Bool)} {R:LT}
theorem NxC.next (h:NxC ns L s0 (x::l) t) (q:NxH t x l m e g R) {l':List T} {s':RS} (ev:nextG m e.2 t.s=(l',s')):NxC ns L s0 l ⟨t.D++[(e.1,l')],R,g,s'⟩:=by
 have h1:=h.l
 have h2:=h.n
 have h3:=h.d
 have h4:=h.i
 have h5:=h.v
 have h6:=h.k
 have h7:=h.r
 rw [q.g] at h1 h2 h3 h7
 rw [q.R] at h2 h4 h5 h6 h7
 refine ⟨?_,Nat.succ.inj h2,?_,?_,fun c hc=>h5 c (.tail _ hc),fun c hc=>h6 c (.tail _ hc),?_⟩
 ·rw [List.length_append,List.length_singleton]; exact (List.cons.inj h1).2
 ·rw [List.length_append,List.length_singleton,← List.drop_drop,h3]; rfl
 ·rw [← h4]; unfold idsL; simp only [List.map_append,List.map_cons,List.map_nil,List.append_assoc]; rfl
 ·rw [h7]
  have:nextA (m::g) (itT (e::R)) t.s=(l'::(nextA g (itT R) s').1,(nextA g (itT R) s').2):=by show ((nextG m e.2 t.s).1::(nextA g (itT R) (nextG m e.2 t.s).2).1,(nextA g (itT R) (nextG m e.2 t.s).2).2)=_; rw [ev]
  rw [this]
  unfold itT
  rw [List.map_append,List.append_assoc]; rfl
theorem NxC.nm (h:NxC ns L s0 (x::l) t) (q:NxH t x l m e g R) (hn:ns.length<=2):IxS (ns.map namesAv) x (namesAv m):=by
 have h3:=h.d
 rw [q.g] at h3
 have:ns[x]?=some m:=by have e2:=List.getElem?_drop (xs:=ns) (i:=t.D.length) (j:=0); rw [h3] at e2; rw [q.x]; exact e2.symm
 exact ixS (by rw [List.getElem?_map,this]; rfl) (by rw [List.length_map]; exact Nat.le_trans hn (by decide))
theorem NxC.id (h:NxC ns L s0 (x::l) t) (q:NxH t x l m e g R) (hn:L.length<=2):IxS (idsL L) x (.ref e.1):=by
 refine ixS ?_ (by rw [idsL,List.length_map]; exact Nat.le_trans hn (by decide))
 rw [← h.i,q.R,q.x]
 unfold idsL
 rw [List.map_append,List.getElem?_append_right (by rw [List.length_map]; exact Nat.le_refl _),List.length_map,Nat.sub_self]; rfl
theorem NxC.mem (h:NxC ns L s0 (x::l) t) (q:NxH t x l m e g R):m∈ns:=by
 have h3:=h.d
 rw [q.g] at h3
 exact List.mem_of_mem_drop (h3▸List.mem_cons_self ..)
theorem NxC.all (h:NxC ns L s0 [] t):t.R=[]∧nextA ns (itT L) s0=(itT t.D,t.s):=by
 have h1:=h.l
 have h2:=h.n
 have h7:=h.r
 induction e:t.g using List.casesOn with
 | cons m g=>rw [e] at h1; injection h1
 | nil=>
  rw [e] at h2 h7
  refine ⟨List.eq_nil_of_length_eq_zero h2.symm,?_⟩
  rw [h7,nextA,List.append_nil]
end
section
variable {P:Params} {a dx lg:Nat} {s:RS} {v:T}
noncomputable abbrev nxP (a dx lg:Nat) (ns:List (List Bool)) (L:LT) (s:RS):Post:=⟨LT×RS,fun x=>nextA ns (itT L) s=(itT x.1,x.2)∧idsL x.1=idsL L,fun x=>RL a dx lg x.2++itH x.1,fun U=>.ok .none⟩
theorem next_spec {ns:List (List Bool)} {L:LT} (hl:ns.length=L.length) (hm:∀ m∈ns,m.length<=2) (hn:ns.length<=2) (hV:∀ e∈L,∀ u∈e.2,isV u) (h3:∀ e∈L,e.2.length<=3) :
  CF P 2 975 [.lst (ns.map namesAv),.lst (idsL L),.ref a] (RL a dx lg s++itH L) (nxP a dx lg ns L s) false:=
 have ml:(ns.map namesAv).length=ns.length:=List.length_map ..
 have ml2:(ns.map namesAv).length<=lim:=ml▸Nat.le_trans hn (by decide)
 cf_of (fun F=>.fa ml2<|.fa ml2<|.fa ml2<|
  .fr (fun k:Nat=>.int k) (NxC ns L s) (fun U t=>RL a dx lg t.s++(itH (t.D++t.R)++F)) (fun U t=>[.a,.a]) (List.range (ns.map namesAv).length) ⟨[],L,ns,s⟩ ⟨by rw [ml]; exact List.range_eq_range',hl,rfl,rfl,hV,h3,rfl⟩
   (fun t h=>.fe (t.D,t.s) ⟨h.all.2,by rw [← h.i,h.all.1,List.append_nil]⟩ (M:=RL a dx lg t.s++(itH (t.D++t.R)++F)) (by rw [h.all.1,List.append_nil]; rfl) rfl)
   fun x l t h=>.ex h.hd fun q hq=>
    have n3:(q.1.map fun y=>AV.str (vS y)).length<=lim:=by rw [List.length_map]; exact Nat.le_trans (hm _ (h.mem hq)) (by decide)
    .hp (L:=RL a dx lg t.s++(itH (t.D++t.R)++F)) (M:=RL a dx lg t.s++(q.2.1.1,.list (strsL q.2.1.2))::(itH (t.D++q.2.2.2)++F)) (fun σ z=>itH_in σ (hq.R▸z))<|
    .ix (h.nm hq hn)<|.fa n3<|
    .fr (fun y:Bool=>.str (vS y)) (NxI q.1 q.2.1.2 t.s) (fun U u=>RL a dx lg u.2++(q.2.1.1,.list (strsL u.1))::(itH (t.D++q.2.2.2)++F)) (fun U u=>[.a]) q.1 (q.2.1.2,t.s) ⟨h.v _ (hq.R▸.head _),h.k _ (hq.R▸.head _),rfl⟩
     (fun u k=>.hp (L:=RL a dx lg u.2++(q.2.1.1,.list (strsL u.1))::(itH (t.D++q.2.2.2)++F)) (M:=RL a dx lg u.2++(itH (t.D++[(q.2.1.1,u.1)]++q.2.2.2)++F)) itH_out<|.go 0 rfl (.mk (NxS.mk (t.D++[(q.2.1.1,u.1)]) q.2.2.2 q.2.2.1 u.2) (h.next hq k.r)))
     fun y m' u k=>
      have o:∀ t∈u.1,okT t=true:=fun t ht=>lv_isV (k.v t ht)
      have ne {b:Bool} {ls:List T} (e:u.1=ls) (hb:(!ls.isEmpty)=b):CmpH (RL a dx lg u.2++(q.2.1.1,.list (strsL ls))::(itH (t.D++q.2.2.2)++F)) .NotEq (.ref q.2.1.1) (.lst []) (.bool b):=ne_nil (k:=3) rfl (e▸o) hb
      .ix (h.id hq (hl▸hn))<|.or (lst_or u.1) (fun e=>.ed 3 (congrArg (fun l=>AObj.list (strsL l)) e)<|.ch (ne e rfl)<|.ca (wr_spec (a:=a) (dx:=dx) (lg:=lg) (s:=u.2) y [])<|.go 0 rfl (.mk (l:=m') ([],u.2.wr y []) (k.nil e)))
      fun h2=>.ex h2 fun c e=>.ed 3 (congrArg (fun l=>AObj.list (strsL l)) e)<|.ch (ne e rfl)<|.ix (h.id hq (hl▸hn))<|.pl 3<|.pl 3<|.fa (show (strsL c.2).length<lim by have:=k.k; rw [e,List.length_cons] at this; rw [strsL_len]; exact Nat.lt_of_le_of_lt (Nat.le_of_succ_le this) (by decide))<|.ca (wr_spec (a:=a) (dx:=dx) (lg:=lg) (s:=u.2) y c.1)<|.go 0 rfl (.mk (l:=m') (c.2,u.2.wr y c.1) (k.cons e))) (by kernel_rfl)
theorem nin34 {m:Nat} {b:Bool} (h:(m==3||m==4)=b):CmpS .NotIn (.int m) (.lst [.int 3,.int 4]) (.bool (!b)):=(in34 h).elim fun r e=>⟨!b,rfl,fun σ=>by cases e.1; cases e.2 σ with | inn z=>exact .nin z⟩
variable {p f:Nat} {X:Tm->Prop} {body:List Tm} {s':RS}
noncomputable abbrev Rnd (P:Params) (f a p:Nat) (body:List Tm) (A:HL) (q:Post):Prop:=CF P (f+1) 989 [.lst (avs body),.ref a,.int p] A q true
theorem round_ok (hR:CF P f 999 [.lst (avs body),.ref a,.int p] (RL a dx lg s) (RPost a dx lg (.ok v,s')) true):Rnd P f a p body (RL a dx lg s) (.one (RL a dx lg s') (.ok (.tup [.int 0,.str (S v)]))):=
 cfnd_of (fun d F=>.ck (fun U=>d) hR fun U U=>.ok) (by kernel_rfl)
theorem round_cn {c:Nat} (hR:CF P f 999 [.lst (avs body),.ref a,.int p] (RL a dx lg s) (RPost a dx lg (.ex c v,s')) true) (h:(c==3||c==4)=true):Rnd P f a p body (RL a dx lg s) (.one (RL a dx lg s') (.ok (.tup [.int c,.str ""]))):=
 cfnd_of (fun d F=>.ck (fun U=>d) hR fun U U=>.pl 0<|.pl 0<|.cp (nin34 h)<|.pl 0<|.dr 0 .ok) (by kernel_rfl)
theorem round_ex {c:Nat} (hR:CF P f 999 [.lst (avs body),.ref a,.int p] (RL a dx lg s) (RPost a dx lg (.ex c v,s')) true) (h:(c==3||c==4)=false):Rnd P f a p body (RL a dx lg s) (RPost a dx lg (.ex c v,s')):=
 cfnd_of (fun d F=>.ck (fun U=>d) hR fun x U=>.pl 0<|.pl 0<|.cp (nin34 h)<|.pl 0<|.re rfl x) (by kernel_rfl)
end
noncomputable abbrev zF (e:List Bool×Tm):AV:=argF e.1 e.2.av
theorem zip_av:∀ (ns:List (List Bool)) (ws:List Tm),ns.zipWith argF (avs ws)=(ns.zip ws).map zF
 | [],_=>rfl
 | _::_,[]=>rfl
 | m::ns,w::ws=>congrArg (argF m w.av::·) (zip_av ns ws)
theorem each_zip (lm:Bool) (ns:List (List Bool)) (ws:List Tm) (b:Tm) (r:List Tm) (sh:Str):Tm.av (.each lm ns ws b r sh)=.tup [.str (lmS lm),.lst ((ns.zip ws).map zF),.lst (avs (b::r)),.str sh]:=zip_av ns ws▸rfl
theorem names_map:∀ (ns:List (List Bool)) (as:List Tm),ns.length=as.length->(ns.zip as).map (fun e=>namesAv e.1)=ns.map namesAv
 | [],[],_=>rfl
 | m::ns,a::as,h=>congrArg (namesAv m::·) (names_map ns as (Nat.succ.inj h))
theorem zip_at {ns:List (List Bool)} {ws:List Tm} (h:ns.length=ws.length) {x:Nat} {w:Tm} (e:ws[x]?=some w):∃ m,(ns.zip ws)[x]?=some (m,w):=
 ⟨ns[x]'(h▸getElem_lt e),List.getElem?_zip_eq_some.mpr ⟨List.getElem?_eq_getElem (h▸getElem_lt e),e⟩⟩
theorem sp_or {t:T} (h:okArg t):(t=badT∧split t=none)∨∃ ls:List V,IsJ t ls∧split t=some (ls.map V.txt):=by
 unfold split
 by_cases hb:t=badT
 ·exact .inl ⟨hb,if_pos hb⟩
 ·have h:∃ ls,IsJ t ls:=h.resolve_right hb
  rw [if_neg hb,dif_pos h]
  exact .inr ⟨_,h.choose_spec,rfl⟩
structure SpC (ts rest:List T) (L:LT):Prop where
 e:splits ts=(splits rest).map fun its=>itT L++its
 o:∀ t∈rest,okArg t
 n:L.length+rest.length=ts.length
section
variable {ts rest:List T} {L:LT} {t:T}
theorem SpC.init (h:∀ t∈ts,okArg t):SpC ts ts []:=⟨by show _=(splits ts).map id; rw [Option.map_id]; rfl,h,Nat.zero_add _⟩
theorem SpC.next (h:SpC ts (t::rest) L) (i:Nat) {l:List T} (e:split t=some l):SpC ts rest (L++[(i,l)]):=by
 refine ⟨?_,fun u hu=>h.o u (.tail _ hu),by rw [len_app,← h.n,List.length_cons,Nat.add_assoc,Nat.add_comm 1]⟩
 rw [h.e,splits,e,Option.bind_some,Option.map_map]
 refine congrArg (Option.map · _) (funext fun its=>?_)
 show itT L++l::its=itT (L++[(i,l)])++its
 unfold itT
 rw [List.map_append,List.append_assoc]; rfl
theorem SpC.bad (h:SpC ts (t::rest) L) (e:split t=none):splits ts=none:=by rw [h.e,splits,e]; rfl
theorem SpC.all (h:SpC ts [] L):splits ts=some (itT L):=h.e.trans (congrArg some (List.append_nil _))
end
section
variable {p c:Nat} {b:Tm} {r:List Tm} {ns:List (List Bool)} {ws:List Tm} {lm:Bool} {it:List (List T)} {ts:List T} {s s2:RS} {v:T} {sh:Str}
theorem each_ex (e:runL p ws s=(.ex c v,s2)):run p (.each lm ns ws b r sh) s=(.ex c v,s2):=by show bindR (runL p ws s) _=_; rw [e]; rfl
theorem each_no (e:runL p ws s=(.ok ts,s2)) (h:splits ts=none):run p (.each lm ns ws b r sh) s=(.ex 1 uobT,s2):=by show bindR (runL p ws s) _=_; rw [e]; show eachM _ _ _ _ _=_; unfold eachM; rw [h]; rfl
theorem each_it (e:runL p ws s=(.ok ts,s2)) (h:splits ts=some it):run p (.each lm ns ws b r sh) s=bindR (loopF (bodyM p b r) ns 4 it [] s2) fun kp=>PM.pure (rsK lm kp):=by show bindR (runL p ws s) _=_; rw [e]; show eachM _ _ _ _ _=_; unfold eachM; rw [h]; rfl
end
section
variable {Z:LZ} {k:Nat} {it:List (List T)} {kp:List T} {s:RS} {x:Ex (List T)×RS}
theorem LoopR.zero (h:LoopR Z k it kp s x) (z:leftT it=0):x=(.ok kp,s)∧LoI Z k it kp s:=by
 induction h using LoopR.casesOn with
 | done i _=>exact ⟨rfl,i⟩
 | ok h=>exact (h.z z).elim
 | cn h=>exact (h.z z).elim
 | br h=>exact (h.z z).elim
 | ex h=>exact (h.z z).elim
theorem LoopR.pos (h:LoopR Z k it kp s x) (z:leftT it≠0):∃ q:Nat×List (List T)×RS,(k=q.1+1∧Trn Z q.1 it kp s q.2.1 q.2.2)∧((∃ w:T×RS,Z.b q.2.2=(.ok w.1,w.2)∧LoopR Z q.1 q.2.1 (kp++[w.1]) w.2 x)∨(∃ w:T×RS,Z.b q.2.2=(.ex 4 w.1,w.2)∧LoopR Z q.1 q.2.1 kp w.2 x)∨(∃ w:T×RS,Z.b q.2.2=(.ex 3 w.1,w.2)∧x=(.ok kp,w.2))∨∃ w:Nat×T×RS,Z.b q.2.2=(.ex w.1 w.2.1,w.2.2)∧(w.1==3||w.1==4)=false∧x=(.ex w.1 w.2.1,w.2.2)):=by
 induction h using LoopR.casesOn with
 | done _ h=>exact (z h).elim
 | ok h e r=>exact ⟨(_,_,_),⟨rfl,h⟩,.inl ⟨(_,_),e,r⟩⟩
 | cn h e r=>exact ⟨(_,_,_),⟨rfl,h⟩,.inr (.inl ⟨(_,_),e,r⟩)⟩
 | br h e=>exact ⟨(_,_,_),⟨rfl,h⟩,.inr (.inr (.inl ⟨(_,_),e,rfl⟩))⟩
 | ex h e n=>exact ⟨(_,_,_),⟨rfl,h⟩,.inr (.inr (.inr ⟨(_,_,_),e,Bool.or_eq_false_iff.mpr ⟨beq_eq_false_iff_ne.mpr fun z=>n (.inl z),beq_eq_false_iff_ne.mpr fun z=>n (.inr z)⟩,rfl⟩))⟩
theorem LoopR.i (h:LoopR Z k it kp s x):LoI Z k it kp s:=by
 induction h using LoopR.casesOn with
 | done i _=>exact i
 | ok h=>exact h.i
 | cn h=>exact h.i
 | br h=>exact h.i
 | ex h=>exact h.i
end
structure LoS where
 c:Nat
 k:Nat
 M:LT
 kp:List T
 s:RS
structure LoC (Z:LZ) (x:Ex (List T)×RS) (I:List AV) (t:LoS):Prop where
 i:idsL t.M=I
 d:(t.c=3∧x=(.ok t.kp,t.s)∧(∀ u∈t.kp,Lv Z.l u)∧t.kp.length<=3)∨t.c≠3∧LoopR Z t.k (itT t.M) t.kp t.s x
noncomputable def LoS.N (t:LoS):Nat:=if t.c=3 then 0 else t.k+1
theorem LoS.lt {c k:Nat} {M:LT} {kp:List T} {s:RS} {t:LoS} (h:t.c≠3) (e:t.k=k+1):LoS.N ⟨c,k,M,kp,s⟩<t.N:=by
 unfold LoS.N
 rw [if_neg h,e]
 split
 ·exact Nat.succ_pos _
 ·exact Nat.lt_succ_self _
theorem itT_all {M:LT} {p:List T->Prop} (h:∀ a∈itT M,p a):∀ e∈M,p e.2:=fun e he=>h _ (List.mem_map.mpr ⟨e,he,rfl⟩)
theorem itH_drop {A F:HL} {L:LT} (σ:AHeap) (h:H σ (A++(itH L++F))):H σ (A++F):=h.sub (List.Sublist.append_left (List.sublist_append_right ..) _)
theorem itH_new {A F:HL} {L:LT} {i:Nat} {ls:List V} (σ:AHeap) (h:H σ ((i,.list (txtL ls))::(A++(itH L++F)))):H σ (A++(itH (L++[(i,ls.map V.txt)])++F)):=by
 have e:txtL ls=strsL (ls.map V.txt):=by rw [txtL,strsL,List.map_map]; rfl
 have:=itH_out (A:=A) (F:=F) (D:=L) (R:=[]) (i:=i) (l:=ls.map V.txt) σ
 rw [List.append_nil,List.append_nil] at this
 exact this (h.perm (e▸List.perm_middle.symm))
theorem ids_app (L:LT) (i:Nat) (l:List T):idsL L++[.ref i]=idsL (L++[(i,l)]):=by unfold idsL; rw [List.map_append]; rfl
theorem itH_cross {A F:HL} {L:LT} {e:Nat×AObj} (σ:AHeap) (h:H σ (e::(A++(itH L++F)))):H σ (A++(itH L++e::F)):=h.perm (List.perm_middle.symm.trans (List.Perm.append_left _ List.perm_middle.symm))
theorem itH_back {A F:HL} {L:LT} {e:Nat×AObj} (σ:AHeap) (h:H σ (A++(itH L++e::F))):H σ (A++e::(itH L++F)):=h.perm (List.Perm.append_left _ List.perm_middle)
noncomputable abbrev lenA (e:Nat×List T):AV:=.int (e.2.length:Nat)
theorem sumS (M:LT):SumS (M.map lenA) (.int (leftT (itT M):Nat)):=⟨M.map fun e=>(e.2.length:Int),by rw [List.map_map]; rfl,congrArg AV.int (by
 unfold leftT itT
 induction M with
 | nil=>rfl
 | cons e r ih=>rw [List.map_cons,List.map_cons,List.map_cons,List.sum_cons,List.sum_cons,← ih]; rfl)⟩
theorem lmap_eq (lm:Bool):(lmS lm==("lmap":Str))=lm:=by induction lm using Bool.casesOn <;> kernel_rfl
section
variable {P:Params} {n:Nat}
theorem ne3F {c:Nat} (h:c=3):(!((c:Int)==3))=false:=by rw [h]; rfl
theorem ne3T {c:Nat} (h:c≠3):(!((c:Int)==3))=true:=by rw [show ((c:Int)==3)=false from eqF (y:=3) h]; rfl
theorem kpl {l:List T} (h:l.length<=3):(strsL l).length<lim:=strsL_len▸Nat.lt_of_le_of_lt h (by decide)
structure EachR (P:Params) (n d:Nat) (ns:List (List Bool)) (ws:List Tm) (b:Tm) (r:List Tm):Prop where
 D:EachD d ns ws
 g:3<=n+1
 w:∀ w∈ws,∀ p,Trp (run p w) w.sz okArg
 t:∀ w∈ws,TextOk P (n+1) w
 m:∀ p,Trp (bodyM p b r) (1+b.sz+szL r) (Lv d)
 r:RunsOk P n fun c=>c∈b::r
theorem loop_ok {d:Nat} {lm:Bool} {ns:List (List Bool)} {ws r:List Tm} {b:Tm} {sh:Str} (R:EachR P n d ns ws b r):LoopOk P (n+2) (.each lm ns ws b r sh):=fun {a dx lg p s} hs hlog=>
 have h1:=R.D.n
 have h2:=R.D.l
 have zl:(ns.zip ws).length=ws.length:=by rw [List.length_zip,h1,Nat.min_self]
 have zl3:(ns.zip ws).length<=lim:=zl▸Nat.le_trans h2 (by decide)
 have zl2:((ns.zip ws).map zF).length<=lim:=List.length_map (f:=zF)▸zl3
 have hz:s.log.length+szL ws+(8+3*(1+b.sz+szL r))<=90000:=by rw [Tm.sz] at hlog; lia
 have tl:=tr_L (fun w hw=>⟨_,R.w w hw⟩) p
 cfnd_of (fun d' F=>.lv "command" (each_zip lm ns ws b r sh)<|.fa zl2<|.fa zl2<|.fa zl2<|
  .cm (fun k:Nat=>.int k) (WsC ws p (runL p ws s) (s.log.length+szL ws)) (fun U u=>RL a dx lg u.s++F) (fun U u=>strsL u.ts) (List.range ((ns.zip ws).map zF).length) ⟨[],ws,[],s⟩ (.init hs (by rw [List.length_map,zl]))
   (fun u k=>
    have e1:=k.all
    have oa:=(tl.val hs e1).all R.w
    have ou:=tl.use hs e1
    have tl3:u.ts.length<=lim:=Nat.le_trans (oa.1▸h2) (by decide)
    have tl2:(strsL u.ts).length<=lim:=strsL_len▸tl3
    .fa tl2<|.fa tl2<|
    .cm (fun t:T=>.str (S t)) (SpC u.ts) (fun U L=>RL a dx lg u.s++(itH L++F)) (fun U L=>idsL L) u.ts [] (.init oa.2)
     (fun L kL=>
      have ll:L.length=u.ts.length:=kL.n
      have il:(idsL L).length<=lim:=by rw [idsL,List.length_map,ll]; exact tl3
      have e2:=each_it (b:=b) (r:=r) (ns:=ns) (lm:=lm) (sh:=sh) e1 kL.all
      have lo:=each_lo (p:=p) R.D (R.m p) oa.1 kL.all ou.1 (N:=90000) (Nat.le_trans (Nat.add_le_add_left (Nat.le_add_left ..) _) (Nat.le_trans (Nat.add_le_add_right ou.2 _) hz))
      have fin {kp:Nat} {t:LoS} (hj:∀ u∈t.kp,Lv d u) (h3:t.kp.length<=3) (e:loopF (bodyM p b r) ns 4 (itT L) [] u.s=(.ok t.kp,t.s)) {Λ:List LJ}:Hn P ((RPost a dx lg (run p (.each lm ns ws b r sh) s)).fr F) Λ:=
       have e:run p (.each lm ns ws b r sh) s=(.ok (rsK lm t.kp),t.s):=by rw [e2,e]; rfl
       .or (bool_or lm)
       (fun b=>.is ((lmap_eq lm).trans b)<|.ck (fun U=>d') ((law_join_spec kp (fun u hu=>lv_J R.D.d (hj u hu)) (Nat.le_trans h3 (by decide))).le (m:=n+1) (Nat.le_add_left ..)) fun U U=>.dr 0<|.hp (L:=RL a dx lg t.s++(itH t.M++F)) (M:=RL a dx lg t.s++F) itH_drop<|.re (e.trans (by rw [b])) (0,0))
       fun b=>.is ((lmap_eq lm).trans b)<|.dr 0<|.hp (L:=RL a dx lg t.s++(itH t.M++F)) (M:=RL a dx lg t.s++F) itH_drop<|.as (congrArg AV.str q_em)<|.re (e.trans (by rw [b])) (0,0)
      .fa il<|.nw fun kp=>.wh LoS.N (LoC ⟨bodyM p b r,ns,1+b.sz+szL r,d,90000⟩ (loopF (bodyM p b r) ns 4 (itT L) [] u.s) (idsL L)) (fun t=>(kp,.list (strsL t.kp))::RL a dx lg t.s++(itH t.M++F)) (fun t=>[.v (.int (t.c:Nat)),.a]) ⟨0,3,L,[],u.s⟩ ⟨rfl,.inr ⟨nofun,lo⟩⟩
       fun t h=>.or h.d (fun h2=>.is (ne3F h2.1)<|fin (kp:=kp) h2.2.2.1 h2.2.2.2 h2.2.1) fun g=>
        have gi:=g.2.i
        have ml:ns.length=t.M.length:=gi.n.trans (List.length_map ..)
        have ml2:t.M.length<=lim:=ml▸h1▸Nat.le_trans h2 (by decide)
        have ml3 {α:Type} {l:List α} (e:l.length=t.M.length):l.length<=lim:=e▸ml2
        .lv "items" (congrArg AV.lst h.i.symm)<|.is (ne3T g.1)<|.fa (ml3 (List.length_map (f:=fun e:Nat×List T=>AV.ref e.1)))<|
        .cm (fun e:Nat×List T=>.ref e.1) (fun l D=>Suf t.M l D) (fun l D=>(kp,.list (strsL t.kp))::RL a dx lg t.s++(itH (D++l)++F)) (fun U D=>D.map lenA) t.M [] ⟨rfl⟩
         (fun D hD=>
          have eD:=hD.all
          .fa (ml3 (show (D.map lenA).length=t.M.length by rw [eD,List.length_map]))<|.v (show SumS (D.map lenA) (.int (leftT (itT t.M):Nat)) from eD.symm▸sumS t.M)<|
          .hp (L:=(kp,.list (strsL t.kp))::RL a dx lg t.s++(itH (D++[])++F)) (M:=(kp,.list (strsL t.kp))::RL a dx lg t.s++(itH t.M++F)) (fun σ z=>by rw [eD,List.append_nil] at z; exact z)<|
          .or (Nat.eq_zero_or_pos (leftT (itT t.M)))
           (fun z=>.is (ltF (x:=0) (y:=leftT (itT t.M)) (by rw [z]; decide))<|fin (kp:=kp) (t:=t) gi.j (Nat.le_trans (Nat.le_add_right ..) gi.e) (g.2.zero z).1)
           fun z=>
            have nx:CF P 2 975 [.lst ((ns.zip ws).map fun e=>namesAv e.1),.lst (idsL t.M),.ref a] (RL a dx lg t.s++itH t.M) (nxP a dx lg ns t.M t.s) false:=(names_map ns ws h1).symm▸next_spec (a:=a) (dx:=dx) (lg:=lg) (s:=t.s) ml (fun m hm=>(R.D.g m hm).2) (h1▸h2) (itT_all gi.v) (itT_all fun a ha=>Nat.le_trans (gi.q a ha) (Nat.le_trans (Nat.le_add_left ..) gi.e))
            .is (ltT (x:=0) (y:=leftT (itT t.M)) z)<|.fa zl2<|.mp ((kp,.list (strsL t.kp))::RL a dx lg t.s++(itH t.M++F)) zF (fun e=>namesAv e.1) zl3<|
            .hp (L:=(kp,.list (strsL t.kp))::RL a dx lg t.s++(itH t.M++F)) (M:=RL a dx lg t.s++(itH t.M++(kp,.list (strsL t.kp))::F)) itH_cross<|
            .cg ((kp,.list (strsL t.kp))::F) (fun U=>d') (nx.le (Nat.le_of_succ_le R.g)) fun x hx=>
            .ex (g.2.pos (Nat.ne_of_gt z)) fun q tt=>
            have eq:(q.2.1,q.2.2)=(itT x.1,x.2):=tt.1.2.e.symm.trans hx.1
            have eq1:q.2.1=itT x.1:=congrArg Prod.fst eq
            have eq2:q.2.2=x.2:=congrArg Prod.snd eq
            .hp (L:=RL a dx lg x.2++(itH x.1++(kp,.list (strsL t.kp))::F)) (M:=RL a dx lg x.2++(kp,.list (strsL t.kp))::(itH x.1++F)) itH_back<|
            have hRc {y:Ex T×RS} (e:bodyM p b r q.2.2=y):CF P n 999 [.lst (avs (b::r)),.ref a,.int p] (RL a dx lg x.2) (RPost a dx lg y) true:=e▸eq2▸R.r (fun U h=>h) tt.1.2.o tt.1.2.g
            have nx {c:Nat} {w:T×RS} (e:bodyM p b r q.2.2=(.ex c w.1,w.2)) (hc:(c==3||c==4)=true) (h0:((c:Int)==0)=false) (hl:LoC ⟨bodyM p b r,ns,1+b.sz+szL r,d,90000⟩ (loopF (bodyM p b r) ns 4 (itT L) [] u.s) (idsL L) ⟨c,q.1,x.1,t.kp,w.2⟩):=
             Hn.ck (fun U=>d') (round_cn (hRc e) hc) fun U U=>.is h0<|.mv 3<|.go 0 rfl (.mk (LoS.mk c q.1 x.1 t.kp w.2) hl (LoS.lt g.1 tt.1.1))
            .or tt.2 (fun h5=>.ex h5 fun w e=>
             .ck (fun U=>d') (round_ok (hRc e.1)) fun U U=>.pl 3<|.pl 3<|.fa (kpl (Nat.le_trans (Nat.le_add_right ..) gi.e))<|.mv 3<|.ed 0 (congrArg AObj.list (ts_app t.kp w.1))<|
              .go 0 rfl (.mk (LoS.mk 0 q.1 x.1 (t.kp++[w.1]) w.2) ⟨hx.2.trans h.i,.inr ⟨nofun,eq1▸e.2⟩⟩ (LoS.lt g.1 tt.1.1)))
            fun h5=>.or h5 (fun h5=>.ex h5 fun w e=>nx e.1 rfl rfl ⟨hx.2.trans h.i,.inr ⟨nofun,eq1▸e.2⟩⟩)
            fun h5=>.or h5 (fun h5=>.ex h5 fun w e=>nx e.1 rfl rfl ⟨hx.2.trans h.i,.inl ⟨rfl,e.2,gi.j,Nat.le_trans (Nat.le_add_right ..) gi.e⟩⟩)
            fun h5=>.ex h5 fun w e=>.ck (fun U=>d') (round_ex (hRc e.1) e.2.1) fun y U=>.dr 4<|.hp (L:=(y.1,exc0 w.1 w.2.1 ecN y.2)::RL a dx lg w.2.2++(itH x.1++F)) (M:=(y.1,exc0 w.1 w.2.1 ecN y.2)::RL a dx lg w.2.2++F) itH_drop<|.re (by rw [e2,e.2.2]) y)
         fun e l3 D hD=>.hp (L:=(kp,.list (strsL t.kp))::RL a dx lg t.s++(itH (D++e::l3)++F)) (M:=(kp,.list (strsL t.kp))::RL a dx lg t.s++(e.1,.list (strsL e.2))::(itH (D++l3)++F)) itH_in<|.pl 4<|.fa (Nat.le_of_lt (kpl (Nat.le_trans (itT_all gi.q _ hD.mem) (Nat.le_trans (Nat.le_add_left ..) gi.e))))<|
          .as (congrArg (fun x:Nat=>AV.int x) (strsL_len (ls:=e.2)))<|.hp (L:=(kp,.list (strsL t.kp))::RL a dx lg t.s++(e.1,.list (strsL e.2))::(itH (D++l3)++F)) (M:=(kp,.list (strsL t.kp))::RL a dx lg t.s++(itH (D++[e]++l3)++F)) itH_out<|.gq 0 rfl (show D.map lenA++[lenA e]=(D++[e]).map lenA by rw [List.map_append]; rfl) (.mk (l:=l3) (D++[e]) hD.next))
     fun t l2 L kL=>.or (sp_or (kL.o t (.head _)))
      (fun hb=>.ck (fun U=>d') ((hb.1.symm▸law_split_bad:CF P 3 956 [.str (S t)] [] (.ex 1 uobT ecN) true).le R.g) fun x U=>.hp (L:=(x.1,exc0 1 uobT ecN x.2)::RL a dx lg u.s++(itH L++F)) (M:=(x.1,exc0 1 uobT ecN x.2)::RL a dx lg u.s++F) itH_drop<|.re (each_no e1 (kL.bad hb.2)) x)
      fun hg=>.ex hg fun ls hg=>.ck (fun U=>d') ((law_split_spec hg.1).le R.g) fun (i:Nat) _=>.hp (L:=(i,.list (txtL ls))::(RL a dx lg u.s++(itH L++F))) (M:=RL a dx lg u.s++(itH (L++[(i,ls.map V.txt)])++F)) itH_new<|.gq 0 rfl (ids_app L i (ls.map V.txt)) (.mk (l:=l2) (L++[(i,ls.map V.txt)]) (kL.next i hg.2)))
   fun x l2 u k=>.ex (k.wd h2 (Nat.le_trans (Nat.le_add_right ..) hz)) fun q hq=>.ex (zip_at h1 hq.2.1) fun m hm=>
    have hc:=List.mem_of_getElem? hq.2.1
    .ix (show IxS ((ns.zip ws).map zF) x (zF (m,q.1)) from ixS (by rw [List.getElem?_map,hm]; rfl) zl2)<|.rn (fun U=>d') (R.t q.1 hc (a:=a) (dx:=dx) (lg:=lg) (p:=p+x) k.s hq.2.2)
     (fun v s' ev=>.gq 0 rfl (ts_app u.ts v) (.mk (WsS.mk (u.dn++[q.1]) q.2 (u.ts++[v]) s') (k.next hq.1 ev ((R.w q.1 hc (p+x)).use k.s ev))))
     fun c v s' ev x=>.re (each_ex (k.bad hq.1 ev)) x) (by kernel_rfl)
end
structure ES where
 ns:List (List Bool)
 items:List (List T)
 kept:List T
structure MS where
 pc:Nat
 st:List T
 es:List (Nat×ES)
 s:RS
structure Prog where
 rows:List Row
 rgs:List Rg
inductive OpR | ok (m:MS) | ex (c:Nat) (v:T) (m:MS)
noncomputable def OpR.ctorIdx:OpR->Nat:=fun t=>OpR.casesOn t (fun U=>0) (fun U U U=>1)
noncomputable def hasR (q:Nat) (r:Rg):Bool:=Nat.ble r.fst q&&Nat.blt q r.beh
noncomputable def tk (rgs:List Rg) (q:Nat):Option Rg:=rgs.find? (hasR q)
noncomputable def takes (rgs:List Rg) (q c:Nat):Option Rg:=if c=3∨c=4 then tk rgs q else none
noncomputable def invR (pc:Nat) (st:List T) (es:List (Nat×ES)):Ex T×RS->OpR
 | (.ok v,s')=>.ok ⟨pc+1,st++[v],es,s'⟩
 | (.ex c v,s')=>.ex c v ⟨pc+1,st,es,s'⟩
inductive Op (R:List Row) (m:MS) (r:OpR):Prop
 | push {t} (h:R[m.pc]?=some (.push t)) (l:m.st.length<=90000) (e:r=.ok ⟨m.pc+1,m.st++[t],m.es,m.s⟩:=by rfl)
 | load {y} (h:R[m.pc]?=some (.load y)) (l:m.st.length<=90000) (e:r=.ok ⟨m.pc+1,m.st++[m.s.var y],m.es,m.s⟩:=by rfl)
 | join {st ts k} (h:R[m.pc]?=some (.join k)) (hk:ts.length=k) (h3:k<=3) (ht:∀ t∈ts,t.length<=100) (l:st.length<=90000) (s:m.st=st++ts:=by rfl) (e:r=.ok ⟨m.pc+1,st++[ts.flatten],m.es,m.s⟩:=by rfl)
 | start {n ns st ts items} (h:R[m.pc]?=some (.estart n ns)) (h1:ts.length=ns.length) (h2:ns.length<=2) (h3:∀ m∈ns,0<m.length∧m.length<=2) (ho:∀ t∈ts,okArg t) (hs:splits ts=some items) (hn:∀ e∈m.es,e.1<n) (l:st.length<=90000) (s:m.st=st++ts:=by rfl) (e:r=.ok ⟨m.pc+1,st,(n,⟨ns,items,[]⟩)::m.es,m.s⟩:=by rfl)
 | startX {n ns st ts} (h:R[m.pc]?=some (.estart n ns)) (h1:ts.length=ns.length) (h2:ns.length<=2) (ho:∀ t∈ts,okArg t) (hs:splits ts=none) (hn:∀ e∈m.es,e.1<n) (l:st.length<=90000) (s:m.st=st++ts:=by rfl) (e:r=.ex 1 uobT ⟨m.pc+1,st,m.es,m.s⟩:=by rfl)
 | stepE {n to e es} (h:R[m.pc]?=some (.estep n to)) (z:leftT e.items=0) (k:m.es=(n,e)::es:=by rfl) (q:r=.ok ⟨to,m.st,m.es,m.s⟩:=by rfl)
 | stepN {n to e es} (h:R[m.pc]?=some (.estep n to)) (z:leftT e.items≠0) (k:m.es=(n,e)::es:=by rfl) (q:r=.ok ⟨m.pc+1,m.st,(n,{e with items:=(nextA e.ns e.items m.s).1})::es,(nextA e.ns e.items m.s).2⟩:=by rfl)
 | take {n e es st v} (h:R[m.pc]?=some (.etake n)) (hk:e.kept.length<=10) (l:st.length<=90000) (s:m.st=st++[v]:=by rfl) (k:m.es=(n,e)::es:=by rfl) (q:r=.ok ⟨m.pc+1,st,(n,{e with kept:=e.kept++[v]})::es,m.s⟩:=by rfl)
 | pop {st v} (h:R[m.pc]?=some .pop) (l:st.length<=90000) (s:m.st=st++[v]:=by rfl) (e:r=.ok ⟨m.pc+1,st,m.es,m.s⟩:=by rfl)
 | jump {to} (h:R[m.pc]?=some (.jump to)) (e:r=.ok ⟨to,m.st,m.es,m.s⟩:=by rfl)
 | fin {n e es} (h:R[m.pc]?=some (.eend n)) (hj:∀ v∈e.kept,isJ v) (hk:e.kept.length<=10) (l:m.st.length<=90000) (k:m.es=(n,e)::es:=by rfl) (q:r=.ok ⟨m.pc+1,m.st++[joinT e.kept],es,m.s⟩:=by rfl)
 | invoke {nm st ts k d} (h:R[m.pc]?=some (.invoke k)) (hk:k=1+ts.length) (o:OkI d nm ts) (l:st.length<=90000) (g:m.s.log.length<=90000) (s:m.st=st++nmT nm::ts:=by rfl) (e:r=invR m.pc st m.es (doIt nm ts st.length m.s):=by rfl)
inductive Stp (C:Prog):MS->MS->Prop
 | op {ms ms'}:Op C.rows ms (.ok ms')->Stp C ms ms'
 | caught {ms ms' c v r}:Op C.rows ms (.ex c v ms')->takes C.rgs ms.pc c=some r->Stp C ms {ms' with st:=ms'.st.take r.dep,pc:=if c=3 then r.fin else r.aga}
inductive Star (C:Prog):MS->MS->Prop
 | refl {m}:Star C m m
 | step {a b c}:Stp C a b->Star C b c->Star C a c
theorem Star.trans {C:Prog} {a b c:MS} (h:Star C a b) (k:Star C b c):Star C a c:=by
 induction h with
 | refl=>exact k
 | step s _ ih=>exact .step s (ih k)
theorem Star.one {C:Prog} {a b:MS} (h:Op C.rows a (.ok b)):Star C a b:=.step (.op h) .refl
structure Esc (C:Prog) (ms:MS) (c:Nat) (v:T) (s:RS):Prop where
 h:∃ m,Op C.rows ms (.ex c v m)∧m.s=s
 t:takes C.rgs ms.pc c=none
noncomputable def fillO:Option Rg->Row->Row
 | none,r=>r
 | some g,r=>fillR g.fin g.aga r
noncomputable def isHole:Row->Bool
 | .hole _=>true
 | _=>false
theorem fillR_no {f a:Nat} (r:Row):isHole (fillR f a r)=false:=by induction r using Row.casesOn <;> rfl
theorem fillO_of {ou:Option Rg} {r:Row} (h:isHole r=false):fillO ou r=r:=by
 induction ou using Option.casesOn with
 | none=>rfl
 | some g=>induction r using Row.casesOn <;> first | rfl | injection h
noncomputable def inB (a:Nat) (o:Out'):Prop:=∀ r∈o.rgs,a<=r.fst∧r.beh<=a+o.len
structure At (C:Prog) (a:Nat) (o:Out') (ou:Option Rg):Prop where
 seg:∃ t,C.rows.drop a=o.rows.map (fillO ou)++t
 rgs:∀ q,a<=q->q<a+o.len->tk C.rgs q=(tk o.rgs q).or ou
theorem tk_none {rgs:List Rg} {q:Nat} (h:∀ r∈rgs,q<r.fst∨r.beh<=q):tk rgs q=none:=List.find?_eq_none.mpr fun r hr z=>by
 have z:=Bool.and_eq_true_iff.mp z
 have:=Nat.le_of_ble_eq_true z.1
 have:=Nat.le_of_ble_eq_true z.2
 exact (h r hr).elim (Nat.not_lt.mpr ‹_›) (Nat.not_le.mpr this)
theorem tk_append {a b:List Rg} {q:Nat}:tk (a++b) q=(tk a q).or (tk b q):=List.find?_append
section
variable {a b p num k:Nat} {o1 o2 o:Out'} {lm:Bool} {ns:List (List Bool)} {sh:Str}
theorem len_add:(o1.add o2).len=o1.len+o2.len:=List.length_append
theorem at_add:a+(o1.add o2).len=a+o1.len+o2.len:=by rw [len_add,Nat.add_assoc]
theorem inB.row {r:Row}:inB a (.row r):=nofun
theorem inB.nil:inB a .nil:=nofun
theorem inB.cond {c:Bool} {r:Row}:inB a (cond c (.row r) .nil):=by induction c using Bool.casesOn; exact .nil; exact .row
theorem inB.add (h1:inB a o1) (h2:inB (a+o1.len) o2):inB a (o1.add o2):=fun g hg=>(List.mem_append.mp hg).elim (fun h=>⟨(h1 g h).1,Nat.le_trans (h1 g h).2 (at_add▸Nat.le_add_right ..)⟩) fun h=>⟨Nat.le_trans (Nat.le_add_right ..) (h2 g h).1,at_add▸(h2 g h).2⟩
theorem loop_len {g:Rg}:a+(loopO lm ns num g o1 o2).len=a+o1.len+2+o2.len+3:=by
 unfold loopO Out'.len
 rw [List.length_append,List.length_cons,List.length_cons,List.length_append,List.length_map]
 show a+(o1.rows.length+(o2.rows.length+3+2))=_
 lia
theorem inB.loop (h1:inB a o1) (h2:inB (a+o1.len+2) o2):inB a (loopO lm ns num (loopG (a+o1.len) p o2.len) o1 o2):=fun g hg=>by
 rw [loop_len]
 have l2:a<=a+o1.len+2:=by lia
 refine (List.mem_append.mp hg).elim (fun h=>⟨(h1 g h).1,Nat.le_trans (h1 g h).2 (by lia)⟩) fun h=>(List.mem_append.mp h).elim (fun h=>⟨Nat.le_trans l2 (h2 g h).1,Nat.le_trans (h2 g h).2 (Nat.le_add_right ..)⟩) fun h=>?_
 rw [List.mem_singleton.mp h]
 exact ⟨l2,Nat.le_add_right ..⟩
mutual
theorem inB_C:∀ (c:Tm) {a n p:Nat} {lp:Option Nat},inB a (put a n p lp c)
 | .t s,a,n,p,lp=>.row
 | .v y,a,n,p,lp=>.row
 | .c k,a,n,p,lp=>inB_C k
 | .word ps,a,n,p,lp=>.add (inB_L ps) .cond
 | .call nm ws sh,a,n,p,lp=>show inB a (callX nm (lp==some p) (callO nm ws.length (putL (a+1) n (p+1) lp ws))) by
  have k:inB a (callO nm ws.length (putL (a+1) n (p+1) lp ws)):=.add .row (.add (inB_L ws) .row)
  unfold callX
  induction isJmp nm using Option.casesOn with
  | none=>exact k
  | some b=>induction (lp==some p) using Bool.casesOn; exact k; exact .row
 | .each lm ns ws b r sh,a,n,p,lp=>.loop (inB_L ws) (.add (inB_C b) (inB_R r))
theorem inB_L:∀ (cs:List Tm) {a n p:Nat} {lp:Option Nat},inB a (putL a n p lp cs)
 | [],a,n,p,lp=>.nil
 | c::r,a,n,p,lp=>.add (inB_C c) (inB_L r)
theorem inB_R:∀ (cs:List Tm) {a n p:Nat} {lp:Option Nat},inB a (putR a n p lp cs)
 | [],a,n,p,lp=>.nil
 | c::r,a,n,p,lp=>.add .row (.add (inB_C c) (inB_R r))
end
variable {C:Prog} {ou:Option Rg} {L:List Row} {t m:List Row} {r:Row}
theorem dr_one (h:L.drop a=r::t):L[a]?=some r∧L.drop (a+1)=t:=⟨by have e:=List.getElem?_drop (xs:=L) (i:=a) (j:=0); rw [h] at e; exact e.symm,by rw [← List.drop_drop,h]; rfl⟩
theorem dr_app (h:L.drop a=m++t):L.drop (a+m.length)=t:=by rw [← List.drop_drop,h,List.drop_left]
theorem At.left (h:At C a (o1.add o2) ou) (h2:inB (a+o1.len) o2):At C a o1 ou:=
 ⟨h.seg.elim fun t e=>⟨o2.rows.map (fillO ou)++t,e.trans (by rw [← List.append_assoc,← List.map_append]; rfl)⟩,fun q l u=>by
  rw [h.rgs q l (Nat.lt_of_lt_of_le u (at_add▸Nat.le_add_right ..)),show (o1.add o2).rgs=o1.rgs++o2.rgs from rfl,tk_append,tk_none (rgs:=o2.rgs) fun r hr=>.inl (Nat.lt_of_lt_of_le u (h2 r hr).1),Option.or_none]⟩
theorem At.right (h:At C a (o1.add o2) ou) (h1:inB a o1):At C (a+o1.len) o2 ou:=
 ⟨h.seg.elim fun t e=>⟨t,by
  have:=dr_app (m:=o1.rows.map (fillO ou)) (t:=o2.rows.map (fillO ou)++t) (e.trans (by rw [← List.append_assoc,← List.map_append]; rfl))
  rw [List.length_map] at this; exact this⟩,fun q l u=>by
  rw [h.rgs q (Nat.le_trans (Nat.le_add_right ..) l) (at_add▸u),show (o1.add o2).rgs=o1.rgs++o2.rgs from rfl,tk_append,tk_none (rgs:=o1.rgs) fun r hr=>.inr (Nat.le_trans (h1 r hr).2 l),Option.none_or]⟩
theorem At.row0 (h:At C a (.row r) ou):C.rows[a]?=some (fillO ou r):=h.seg.elim fun t e=>(dr_one e).1
theorem At.row (h:At C a (.row r) ou) (n:isHole r=false):C.rows[a]?=some r:=h.row0.trans (congrArg some (fillO_of n))
theorem At.tkr (h:At C a (.row r) ou):tk C.rgs a=ou:=h.rgs a (Nat.le_refl _) (Nat.lt_succ_self _)
theorem At.src (h:At C a (srcO b sh o) ou):At C a o ou:=⟨h.seg,h.rgs⟩
structure LoopAt (C:Prog) (a num:Nat) (ns:List (List Bool)) (lm:Bool) (g:Rg) (o1 o2:Out') (ou:Option Rg):Prop where
 a1:At C a o1 ou
 a2:At C (a+o1.len+2) o2 (some g)
 k:tk C.rgs (a+o1.len)=ou
 r0:C.rows[a+o1.len]?=some (.estart num ns)
 r1:C.rows[g.aga]?=some (.estep num g.fin)
 r2:C.rows[g.beh]?=some (takeR lm num)
 r3:C.rows[g.beh+1]?=some (.jump g.aga)
 r4:C.rows[g.fin]?=some (.eend num)
theorem fill_map {g:Rg} (l:List Row):(l.map (fillR g.fin g.aga)).map (fillO ou)=l.map (fillO (some g)):=by rw [List.map_map]; exact List.map_congr_left fun r U=>fillO_of (fillR_no r)
noncomputable def bodO (g:Rg) (o:Out'):Out':=⟨o.rows.map (fillR g.fin g.aga),o.rgs++[g],[],0⟩
theorem bod_len {g:Rg}:(bodO g o).len=o.len:=List.length_map _
theorem inB.bod {g:Rg} (h:inB b o) (hf:g.fst=b) (hb:g.beh=b+o.len):inB b (bodO g o):=fun x hx=>by
 rw [bod_len]
 exact (List.mem_append.mp hx).elim (h x) fun hx=>List.mem_singleton.mp hx▸⟨Nat.le_of_eq hf.symm,Nat.le_of_eq hb⟩
theorem At.bod {g:Rg} (h:At C b (bodO g o) ou) (hf:g.fst=b) (hb:g.beh=b+o.len):At C b o (some g):=⟨h.seg.imp fun t e=>e.trans (congrArg (·++t) (fill_map o.rows)),fun q l u=>by
 have e:tk [g] q=some g:=by
  unfold tk hasR
  rw [List.find?_cons,hf,hb,Nat.ble_eq_true_of_le l,show Nat.blt q (b+o.len)=true from Nat.ble_eq_true_of_le u]; rfl
 rw [h.rgs q l (by rw [bod_len]; exact u),show (bodO g o).rgs=o.rgs++[g] from rfl,tk_append,Option.or_assoc,e]; rfl⟩
theorem At.loop (h:At C a (loopO lm ns num (loopG (a+o1.len) p o2.len) o1 o2) ou) (h1:inB a o1) (h2:inB (a+o1.len+2) o2):LoopAt C a num ns lm (loopG (a+o1.len) p o2.len) o1 o2 ou:=by
 generalize hg:loopG (a+o1.len) p o2.len=g at h
 have gf:g.fst=a+o1.len+2:=hg▸rfl
 have gb:g.beh=a+o1.len+2+o2.len:=hg▸rfl
 have ga:g.aga=a+o1.len+1:=hg▸rfl
 have gn:g.fin=a+o1.len+2+o2.len+2:=hg▸rfl
 clear hg
 have r3 {c:Nat} {x y z:Row}:inB c ((Out'.row x).add ((Out'.row y).add (.row z))):=.add .row (.add .row .row)
 have i2:=inB.bod h2 gf gb
 have h:At C a (o1.add ((Out'.row (.estart num ns)).add ((Out'.row (.estep num g.fin)).add ((bodO g o2).add ((Out'.row (takeR lm num)).add ((Out'.row (.jump g.aga)).add (.row (.eend num)))))))) ou:=
  ⟨h.seg,fun q l u=>(h.rgs q l u).trans (congrArg (fun r=>(tk (o1.rgs++r) q).or ou) (List.append_nil _).symm)⟩
 have R:=h.right h1
 have S:=R.right .row
 have B:=S.right .row
 have T:=bod_len (g:=g) (o:=o2)▸B.right i2
 have U:=T.right .row
 exact ⟨h.left (.add .row (.add .row (.add i2 r3))),(B.left r3).bod gf gb,(R.left (.add .row (.add i2 r3))).tkr,(R.left (.add .row (.add i2 r3))).row rfl,ga▸(S.left (.add i2 r3)).row rfl,gb▸(T.left (.add .row .row)).row (by induction lm using Bool.casesOn <;> rfl),gb▸(U.left .row).row rfl,gn▸(U.right .row).row rfl⟩
end
inductive Outc (C:Prog) (ou:Option Rg) (m0:MS) (st:List T) (es:List (Nat×ES)) (c:Nat) (v:T) (s:RS):Prop
 | brk {r} (e:ou=some r) (h:c=3) (k:Star C m0 ⟨r.fin,st.take r.dep,es,s⟩)
 | cnt {r} (e:ou=some r) (h:c=4) (k:Star C m0 ⟨r.aga,st.take r.dep,es,s⟩)
 | out {m1} (n:c=3∨c=4->ou=none) (k:Star C m0 m1) (h:Esc C m1 c v s)
section
variable {C:Prog} {ou:Option Rg} {m0 m1:MS} {st ts l:List T} {es es':List (Nat×ES)} {c:Nat} {v:T} {s s':RS}
theorem Outc.pre (h:Star C m0 m1) (k:Outc C ou m1 st es c v s):Outc C ou m0 st es c v s:=by
 induction k using Outc.casesOn with
 | brk e z k=>exact .brk e z (h.trans k)
 | cnt e z k=>exact .cnt e z (h.trans k)
 | out n k z=>exact .out n (h.trans k) z
theorem Outc.less (k:Outc C ou m0 (st++ts) es c v s) (h:∀ r,ou=some r->r.dep<=st.length):Outc C ou m0 st es c v s:=by
 induction k using Outc.casesOn with
 | brk e z k=>exact .brk e z (List.take_append_of_le_length (h _ e)▸k)
 | cnt e z k=>exact .cnt e z (List.take_append_of_le_length (h _ e)▸k)
 | out n k z=>exact .out n k z
theorem Outc.of {pc pc':Nat} (h:Op C.rows ⟨pc,ts,es',s⟩ (.ex c v ⟨pc',st,es,s'⟩)) (k:tk C.rgs pc=ou):Outc C ou ⟨pc,ts,es',s⟩ st es c v s':=by
 have no (n:c=3∨c=4->ou=none):Outc C ou ⟨pc,ts,es',s⟩ st es c v s':=.out n .refl ⟨⟨_,h,rfl⟩,by
  unfold takes
  by_cases z:c=3∨c=4
  ·rw [if_pos z]; exact k.trans (n z)
  ·exact if_neg z⟩
 induction ou using Option.casesOn with
 | none=>exact no fun U=>rfl
 | some r=>
  have t (z:c=3∨c=4):takes C.rgs pc c=some r:=(if_pos z).trans k
  by_cases h3:c=3
  ·exact .brk rfl h3 (.step (.caught h (t (.inl h3))) (by rw [if_pos h3]; exact .refl))
  by_cases h4:c=4
  ·exact .cnt rfl h4 (.step (.caught h (t (.inr h4))) (by rw [if_neg h3]; exact .refl))
  exact no fun z=>(z.elim h3 h4).elim
variable {α β:Type} {f:α->List T} {H:β->List T} {b m n n' p a B B':Nat} {r:Ex α×RS}
noncomputable def SimG (C:Prog) (ou:Option Rg) (st:List T) (es:List (Nat×ES)) (m0:MS) (b:Nat) (f:α->List T):Ex α×RS->Prop
 | (.ok v,s)=>Star C m0 ⟨b,st++f v,es,s⟩
 | (.ex c v,s)=>Outc C ou m0 st es c v s
theorem SimG.pre (h:Star C m0 m1) (k:SimG C ou st es m1 b f r):SimG C ou st es m0 b f r:=by
 obtain ⟨r,s⟩:=r
 induction r using Ex.casesOn with
 | ok v=>exact h.trans k
 | ex c v=>exact Outc.pre h k
theorem SimG.app (k:SimG C ou (st++l) es m0 b f r) (h:∀ r,ou=some r->r.dep<=st.length):SimG C ou st es m0 b (fun v=>l++f v) r:=by
 obtain ⟨r,s⟩:=r
 induction r using Ex.casesOn with
 | ok v=>exact (List.append_assoc st l (f v)▸k:Star C m0 ⟨b,st++(l++f v),es,s⟩)
 | ex c v=>exact Outc.less k h
theorem SimG.bind {g:α->PM β} (h:SimG C ou st es m0 m f r) (k:∀ v s',r=(.ok v,s')->SimG C ou st es ⟨m,st++f v,es,s'⟩ b H (g v s')):SimG C ou st es m0 b H (bindR r g):=by
 obtain ⟨r,s⟩:=r
 induction r using Ex.casesOn with
 | ok v=>exact (k v s rfl).pre h
 | ex c v=>exact h
structure SPre (ou:Option Rg) (n p B:Nat) (st:List T) (es:List (Nat×ES)) (s:RS):Prop where
 l:st.length=p
 d:∀ r,ou=some r->r.dep<=p
 e:∀ x∈es,x.1<n
 b:p+B<=90000
 o:okRS s
 g:s.log.length+B<=90000
theorem SPre.le (h:SPre ou n p B st es s):st.length<=90000:=h.l▸Nat.le_trans (Nat.le_add_right ..) h.b
theorem SPre.dl (h:SPre ou n p B st es s):∀ r,ou=some r->r.dep<=st.length:=h.l.symm▸h.d
theorem SPre.less (h:SPre ou n p B st es s) (l:B'<=B):SPre ou n p B' st es s:=⟨h.l,h.d,h.e,Nat.le_trans (Nat.add_le_add_left l _) h.b,h.o,Nat.le_trans (Nat.add_le_add_left l _) h.g⟩
theorem SPre.next (h:SPre ou n p (b+B) st es s) (t:okRS s'∧s'.log.length<=s.log.length+b) (hb:0<b) (hn:n<=n'):SPre ou n' (p+1) B (st++[v]) es s':=
 ⟨by rw [List.length_append,h.l]; rfl,fun r e=>Nat.le_succ_of_le (h.d r e),fun x hx=>Nat.lt_of_lt_of_le (h.e x hx) hn,by have:=h.b; lia,t.1,by have:=h.g; have:=t.2; lia⟩
theorem SPre.keep (h:SPre ou n p (b+B) st es s) (t:okRS s'∧s'.log.length<=s.log.length+b) (hn:n<=n'):SPre ou n' p B st es s':=
 ⟨h.l,h.d,fun x hx=>Nat.lt_of_lt_of_le (h.e x hx) hn,by have:=h.b; lia,t.1,by have:=h.g; have:=t.2; lia⟩
noncomputable def SimX (C:Prog) (ou:Option Rg) (a b n p B:Nat) (x:PM α) (f:α->List T):Prop:=∀ st es s,SPre ou n p B st es s->SimG C ou st es ⟨a,st,es,s⟩ b f (x s)
end
noncomputable abbrev dp (ou:Option Rg):Option Nat:=ou.map (·.dep)
noncomputable abbrev v1 (v:T):List T:=[v]
noncomputable def SimC (c:Tm):Prop:=∀ C ou a n p,At C a (put a n p (dp ou) c) ou->SimX C ou a (a+(put a n p (dp ou) c).len) n p c.sz (run p c) v1
theorem sim_t {s:T}:SimC (.t s):=fun C ou a n p h st es s' k=>.one (.push (h.row rfl) k.le)
theorem sim_v {y:Bool}:SimC (.v y):=fun C ou a n p h st es s' k=>.one (.load (h.row rfl) k.le)
theorem sim_c {k:Tm} (h:SimC k):SimC (.c k):=fun C ou a n p ha st es s' i=>h C ou a n p ha st es s' (i.less (Nat.le_add_left ..))
theorem sz_pos (c:Tm):0<c.sz:=by induction c using Tm.casesOn <;> (rw [Tm.sz]; lia)
structure SimE (R:T->Prop) (c:Tm):Prop where
 s:SimC c
 t:∀ p,Trp (run p c) c.sz R
section
variable {R:T->Prop} {C:Prog} {ou:Option Rg}
theorem SimG.map {st l:List T} {es:List (Nat×ES)} {m0:MS} {b:Nat} {v:T} {r:Ex (List T)×RS} (h:SimG C ou st es m0 b (fun vs=>[v]++id vs) r):SimG C ou st es m0 b id (bindR r fun vs=>PM.pure (v::vs)):=h.bind fun v s e=>.refl
theorem sim_L:∀ {l:List Tm},(∀ c∈l,SimE R c)->∀ {a n p:Nat},At C a (putL a n p (dp ou) l) ou->SimX C ou a (a+(putL a n p (dp ou) l).len) n p (szL l) (runL p l) id
 | [],_,a,n,p,ha=>fun st es s k=>show Star C ⟨a,st,es,s⟩ ⟨a,st++[],es,s⟩ by rw [List.append_nil]; exact .refl
 | c::r,h,a,n,p,ha=>fun st es s k=>by
  have hc:=h c (.head _)
  have k:SPre ou n p (c.sz+(1+szL r)) st es s:=k.less (by rw [szL]; lia)
  rw [show a+(putL a n p (dp ou) (c::r)).len=a+(put a n p (dp ou) c).len+(putL (a+(put a n p (dp ou) c).len) (n+(put a n p (dp ou) c).n) (p+1) (dp ou) r).len from at_add]
  refine (hc.s C ou a n p (ha.left (inB_L r)) st es s (k.less (Nat.le_add_right ..))).bind fun v s' e=>?_
  have k2:=k.next (v:=v) ((hc.t p).use k.o e) (sz_pos c) (Nat.le_add_right n (put a n p (dp ou) c).n)
  exact .map (l:=[]) (.app (sim_L (fun c hc=>h c (.tail _ hc)) (ha.right (inB_C c)) (st++[v]) es s' (k2.less (Nat.le_add_left ..))) k.dl)
noncomputable def short (t:T):Prop:=t.length<=100
structure WoI (ps:List Tm):Prop where
 n:0<ps.length
 l:ps.length<=3
 e:∀ c∈ps,SimE short c
theorem sim_w {ps:List Tm} (h:WoI ps):SimC (.word ps):=fun C ou a n p ha st es s k=>by
 have k:=k.less (B':=szL ps) (Nat.le_add_left ..)
 rw [show a+(put a n p (dp ou) (.word ps)).len=a+(putL a n p (dp ou) ps).len+(cond (decide (1<ps.length)) (Out'.row (.join ps.length)) .nil).len from at_add]
 refine (sim_L h.e (ha.left .cond) st es s k).bind fun vs s' e=>?_
 have q:=((tr_L (fun c hc=>⟨_,(h.e c hc).t⟩) p).val k.o e).all fun c hc=>(h.e c hc).t
 have r:=ha.right (inB_L ps)
 match ps,h,vs,q,r with
 | [c],_,[v],q,r=>show Star C _ ⟨_,st++[v++[]],_,_⟩; rw [List.append_nil]; exact .refl
 | c::c2::t,h,vs,q,r=>exact .one (.join (r.row rfl) q.1 h.l q.2 k.le)
theorem sim_call {d:Nat} {nm:Nm} {ws:List Tm} {sh:Str} (hw:∀ w∈ws,∃ R,SimE R w) (hO:∀ p,Trp (runL p ws) (szL ws) (OkI d nm)) (hj:isJmp nm≠none->ws=[]):SimC (.call nm ws sh):=fun C ou a n p ha st es s k=>by
 have ha:At C a (callX nm (dp ou==some p) (callO nm ws.length (putL (a+1) n (p+1) (dp ou) ws))) ou:=ha.src
 have k:SPre ou n p (1+(szL ws+2)) st es s:=k.less (by rw [Tm.sz]; lia)
 show SimG C ou st es _ (a+(callX nm (dp ou==some p) (callO nm ws.length (putL (a+1) n (p+1) (dp ou) ws))).len) v1 (bindR (runL (p+1) ws s) fun ts=>doIt nm ts p)
 have main (ha:At C a (callO nm ws.length (putL (a+1) n (p+1) (dp ou) ws)) ou):SimG C ou st es ⟨a,st,es,s⟩ (a+(callO nm ws.length (putL (a+1) n (p+1) (dp ou) ws)).len) v1 (bindR (runL (p+1) ws s) fun ts=>doIt nm ts p):=by
  have a2:=ha.right (inB.row (r:=.push (nmT nm)))
  have r3:=a2.right (inB_L ws)
  have i:=k.next (v:=nmT nm) (s':=s) ⟨k.o,Nat.le_add_right ..⟩ Nat.one_pos (Nat.le_refl n)
  have e0:a+(callO nm ws.length (putL (a+1) n (p+1) (dp ou) ws)).len=a+1+(putL (a+1) n (p+1) (dp ou) ws).len+1:=by unfold callO; rw [at_add,at_add]; rfl
  rw [e0]
  have s1:Star C ⟨a,st,es,s⟩ ⟨a+1,st++[nmT nm],es,s⟩:=.one (.push ((ha.left (.add (inB_L ws) .row)).row rfl) k.le)
  have q:SimG C ou (st++[nmT nm]) es _ _ id (runL (p+1) ws s):=sim_L (R:=fun v=>True) (fun w hw'=>(hw w hw').elim fun R h=>⟨h.s,fun p=>(h.t p).mono (Nat.le_refl _) fun U U=>trivial⟩) (a2.left .row) (st++[nmT nm]) es s (i.less (Nat.le_add_right ..))
  refine ((q.app k.dl).pre s1).bind fun ts s' e=>?_
  have t:=(hO (p+1)).use k.o e
  have oi:=(hO (p+1)).val k.o e
  have ll:ts.length=ws.length:=(((tr_L (fun w hw'=>(hw w hw').elim fun R h=>⟨R,h.t⟩) (p+1)).val k.o e).all (R:=fun U=>True) fun w hw' p=>(hw w hw').elim fun R h=>(h.t p).mono (Nat.le_refl _) fun U U=>trivial).1
  have op:=Op.invoke (R:=C.rows) (m:=⟨_,st++nmT nm::ts,es,s'⟩) (st:=st) (r3.row rfl) (by rw [ll]) oi k.le (by have:=k.g; have:=t.2; lia)
  rw [k.l] at op
  generalize doIt nm ts p s'=z at op ⊢
  obtain ⟨r,s2⟩:=z
  induction r using Ex.casesOn with
  | ok w=>exact .one op
  | ex c w=>exact .of op r3.tkr
 unfold callX at ha ⊢
 induction ej:isJmp nm using Option.casesOn with
 | none=>rw [ej] at ha; exact main ha
 | some b=>
  rw [ej] at ha
  dsimp only at ha ⊢
  induction eo:(dp ou==some p) using Bool.casesOn with
  | false=>rw [eo] at ha; exact main ha
  | true=>
   rw [eo] at ha
   have hws:=hj (by rw [ej]; nofun)
   subst hws
   induction ou using Option.casesOn with
   | none=>injection eo
   | some g=>
    have et:st.take g.dep=st:=by rw [show g.dep=p from eq_of_beq eo,← k.l]; exact List.take_length
    have r:=ha.row0
    induction nm using Nm.casesOn with
    | brk=>(injection ej with e1; subst e1); exact .brk rfl rfl (et.symm▸.one (.jump r))
    | cnt=>(injection ej with e1; subst e1); exact .cnt rfl rfl (et.symm▸.one (.jump r))
    | _=>injection ej
theorem sim_R:∀ {r:List Tm},(∀ c∈r,SimE R c)->∀ {a n p:Nat} {out:T},At C a (putR a n p (dp ou) r) ou->∀ st es s,SPre ou n p (szL r) st es s->SimG C ou st es ⟨a,st++[out],es,s⟩ (a+(putR a n p (dp ou) r).len) v1 (runR p out r s)
 | [],_,a,n,p,out,ha=>fun st es s k=>.refl
 | c::r,h,a,n,p,out,ha=>fun st es s k=>by
  have hc:=h c (.head _)
  have k:SPre ou n p (c.sz+szL r) st es s:=k.less (by rw [szL]; lia)
  have a2:=ha.right (inB.row (r:=.pop))
  rw [show a+(putR a n p (dp ou) (c::r)).len=a+1+(put (a+1) n p (dp ou) c).len+(putR (a+1+(put (a+1) n p (dp ou) c).len) (n+(put (a+1) n p (dp ou) c).n) p (dp ou) r).len from at_add.trans at_add]
  refine .pre (.one (.pop ((ha.left (.add (inB_C c) (inB_R r))).row rfl) k.le)) ((hc.s C ou _ n p (a2.left (inB_R r)) st es s (k.less (Nat.le_add_right ..))).bind fun v s' e=>?_)
  exact sim_R (fun c hc=>h c (.tail _ hc)) (a2.right (inB_C c)) st es s' (k.keep ((hc.t p).use k.o e) (Nat.le_add_right ..))
theorem sim_body {b:Tm} {r:List Tm} {a n p:Nat} {lp:Option Nat} (hl:lp=dp ou) (hb:SimE R b) (hr:∀ c∈r,SimE R c) {o:Out'} (ho:o=(put a n p lp b).add (putR (a+(put a n p lp b).len) (n+(put a n p lp b).n) p lp r)) (ha:At C a o ou) :
  SimX C ou a (a+o.len) n p (1+b.sz+szL r) (bodyM p b r) v1:=fun st es s k=>by
 subst hl ho
 rw [at_add]
 have k:=k.less (B':=b.sz+szL r) (Nat.add_le_add_right (Nat.le_add_left ..) _)
 refine (hb.s C ou a n p (ha.left (inB_R r)) st es s (k.less (Nat.le_add_right ..))).bind fun v s' e=>?_
 exact sim_R hr (ha.right (inB_C b)) st es s' (k.keep ((hb.t p).use k.o e) (Nat.le_add_right ..))
noncomputable def RoundG (C:Prog) (g:Rg) (lm:Bool) (num:Nat) (ns:List (List Bool)) (st:List T) (es:List (Nat×ES)) (m0:MS):Ex (List T)×RS->Prop
 | (.ok r,s)=>∃ it,Star C m0 ⟨g.fin,st,(num,⟨ns,it,cond lm r []⟩)::es,s⟩
 | (.ex c v,s)=>¬(c=3∨c=4)∧∃ m1,Star C m0 m1∧Esc C m1 c v s
variable {g:Rg} {lm:Bool} {num:Nat} {st:List T} {es:List (Nat×ES)}
theorem RoundG.pre {ns:List (List Bool)} {m0 m1:MS} {x:Ex (List T)×RS} (h:Star C m0 m1) (k:RoundG C g lm num ns st es m1 x):RoundG C g lm num ns st es m0 x:=by
 obtain ⟨r,s⟩:=x
 induction r using Ex.casesOn with
 | ok r=>exact k.elim fun it k=>⟨it,h.trans k⟩
 | ex c v=>exact ⟨k.1,k.2.elim fun m k=>⟨m,h.trans k.1,k.2⟩⟩
structure RoD (C:Prog) (g:Rg) (lm:Bool) (num p:Nat) (Z:LZ) (st:List T) (es:List (Nat×ES)):Prop where
 r1:C.rows[g.aga]?=some (.estep num g.fin)
 r2:C.rows[g.beh]?=some (takeR lm num)
 r3:C.rows[g.beh+1]?=some (.jump g.aga)
 b:SimX C (some g) (g.aga+1) g.beh (num+1) p Z.B Z.b v1
 d:g.dep=p
 e:∀ e∈es,e.1<num
 l:st.length=p
 B:p+Z.B<=90000
 N:Z.N<=90000
theorem sim_rounds {Z:LZ} {p:Nat} (D:RoD C g lm num p Z st es) {k:Nat} {it:List (List T)} {kp:List T} {s:RS} {x:Ex (List T)×RS} (h:LoopR Z k it kp s x):RoundG C g lm num Z.ns st es ⟨g.aga,st,(num,⟨Z.ns,it,cond lm kp []⟩)::es,s⟩ x:=by
 have sl:st.length<=90000:=D.l▸Nat.le_trans (Nat.le_add_right ..) D.B
 have et:st.take g.dep=st:=by rw [D.d,← D.l]; exact List.take_length
 have turn {k:Nat} {it:List (List T)} {kp:List T} {s:RS} {it':List (List T)} {s':RS} (h:Trn Z k it kp s it' s'):Star C ⟨g.aga,st,(num,⟨Z.ns,it,cond lm kp []⟩)::es,s⟩ ⟨g.aga+1,st,(num,⟨Z.ns,it',cond lm kp []⟩)::es,s'⟩∧SimG C (some g) st ((num,⟨Z.ns,it',cond lm kp []⟩)::es) ⟨g.aga+1,st,(num,⟨Z.ns,it',cond lm kp []⟩)::es,s'⟩ g.beh v1 (Z.b s'):=by
  have:=Op.stepN (m:=⟨g.aga,st,(num,⟨Z.ns,it,cond lm kp []⟩)::es,s⟩) (e:=⟨Z.ns,it,cond lm kp []⟩) D.r1 h.z
  rw [show nextA Z.ns it s=(it',s') from h.e] at this
  exact ⟨.one this,D.b st _ s' ⟨D.l,fun r e=>by (injection e with e1; subst e1); exact Nat.le_of_eq D.d,fun x hx=>(List.mem_cons.mp hx).elim (fun e=>e▸Nat.lt_succ_self _) fun hx=>Nat.lt_succ_of_lt (D.e x hx),D.B,h.o,Nat.le_trans h.g D.N⟩⟩
 induction h with
 | done i z=>exact ⟨_,.one (.stepE D.r1 z)⟩
 | @ok k it kp s it' s' v s2 x h e r ih=>
  have t:=turn h
  rw [e] at t
  refine (ih.pre ?_).pre (t.1.trans t.2)
  have r2:=D.r2
  induction lm using Bool.casesOn with
  | true=>exact (Star.one (.take (e:=⟨Z.ns,it',kp⟩) r2 (Nat.le_trans (Nat.le_trans (Nat.le_add_right ..) h.i.e) (by decide:3<=10)) sl)).trans (.one (.jump D.r3))
  | false=>exact (Star.one (.pop r2 sl)).trans (.one (.jump D.r3))
 | cn h e r ih=>
  have t:=turn h
  rw [e] at t
  induction t.2 using Outc.casesOn with
  | brk _ z _=>cases z
  | cnt q z k=>(injection q with e1; subst e1); rw [et] at k; exact ih.pre (t.1.trans k)
  | out n _ _=>injection n (.inr rfl)
 | br h e o l=>
  have t:=turn h
  rw [e] at t
  induction t.2 using Outc.casesOn with
  | brk q z k=>(injection q with e1; subst e1); rw [et] at k; exact ⟨_,t.1.trans k⟩
  | cnt _ z _=>cases z
  | out n _ _=>injection n (.inl rfl)
 | ex h e n o l=>
  have t:=turn h
  rw [e] at t
  induction t.2 using Outc.casesOn with
  | brk _ z _=>exact (n (.inl z)).elim
  | cnt _ z _=>exact (n (.inr z)).elim
  | out _ k z=>exact ⟨n,_,t.1.trans k,z⟩
theorem sim_each {d:Nat} {ns:List (List Bool)} {ws r:List Tm} {b:Tm} {sh:Str} (D:EachD d ns ws) (hw:∀ w∈ws,SimE okArg w) (hb:SimE (Lv d) b) (hr:∀ c∈r,SimE (Lv d) c):SimC (.each lm ns ws b r sh):=fun C ou a n p ha st es s k=>by
 have tb:∀ p,Trp (bodyM p b r) (1+b.sz+szL r) (Lv d):=fun p=>body_tr hb.t fun c hc=>(hr c hc).t
 have tw:=fun p=>tr_L (fun c hc=>⟨_,(hw c hc).t⟩) p
 have L:=At.loop ha.src (inB_L ws) (.add (inB_C b) (inB_R r))
 have k:SPre ou n p (szL ws+(8+3*(1+b.sz+szL r))) st es s:=k.less (by rw [Tm.sz]; lia)
 have sL:=sim_L hw L.a1 st es s (k.less (Nat.le_add_right ..))
 refine (loop_len (a:=a):a+(put a n p (dp ou) (.each lm ns ws b r sh)).len=_)▸?_
 generalize putL a n p (dp ou) ws=o1 at L sL ⊢
 have sb:=fun {C:Prog} {g:Rg} {o:Out'}=>sim_body (C:=C) (ou:=some g) (a:=a+o1.len+2) (n:=n+o1.n+1) (p:=g.dep) (o:=o) rfl hb hr
 generalize ho:(put (a+o1.len+2) (n+o1.n+1) p (some p) b).add _=o2 at L ⊢
 have sb:=sb (g:=loopG (a+o1.len) p o2.len) ho.symm L.a2
 generalize hg:loopG (a+o1.len) p o2.len=g at L sb
 rw [show a+o1.len+2+o2.len+3=g.fin+1 from hg▸rfl]
 refine sL.bind fun ts s' e=>?_
 have t:=(tw p).use k.o e
 have ta:=((tw p).val k.o e).all fun c hc=>(hw c hc).t
 have kk:=k.keep t (Nat.le_add_right n o1.n)
 have ln:ts.length=ns.length:=ta.1.trans D.n.symm
 have l2:ns.length<=2:=D.n▸D.l
 unfold eachM
 induction e2:splits ts using Option.casesOn with
 | none=>exact .of (.startX L.r0 ln l2 ta.2 e2 kk.e k.le) L.k
 | some its=>
  have s1:Star C ⟨a+o1.len,st++ts,es,s'⟩ ⟨g.aga,st,(n+o1.n,⟨ns,its,[]⟩)::es,s'⟩:=by
   have:=Op.start (m:=⟨_,st++ts,es,s'⟩) (st:=st) L.r0 ln l2 D.g ta.2 e2 kk.e k.le
   subst hg; exact .one this
  have lo:=each_lo D (tb p) ta.1 e2 kk.o (N:=90000) (Nat.le_trans (Nat.add_le_add_left (Nat.le_add_left ..) _) kk.g)
  have ro:=sim_rounds (lm:=lm) (st:=st) (es:=es) (C:=C) (g:=g) (num:=n+o1.n) (p:=p) (Z:=⟨bodyM p b r,ns,1+b.sz+szL r,d,90000⟩) ⟨L.r1,L.r2,L.r3,by subst hg; exact sb,hg▸rfl,kk.e,k.l,by have:=kk.b; show p+(1+b.sz+szL r)<=_; lia,Nat.le_refl _⟩ lo
  have lt:=loop_tr lo
  show SimG C ou st es _ _ v1 (bindR (loopF (bodyM p b r) ns 4 its [] s') _)
  generalize loopF (bodyM p b r) ns 4 its [] s'=x at ro lt ⊢
  have ro:=ro.pre (show Star C ⟨a+o1.len,st++ts,es,s'⟩ _ by induction lm using Bool.casesOn <;> exact s1)
  obtain ⟨x,s3⟩:=x
  induction x using Ex.casesOn with
  | ex c v=>exact .out (fun z=>(ro.1 z).elim) ro.2.choose_spec.1 ro.2.choose_spec.2
  | ok kp=>
   obtain ⟨it,ro⟩:=ro
   have q:=lt.v kp rfl
   refine ro.trans ?_
   induction lm using Bool.casesOn with
   | true=>exact .one (.fin (e:=⟨ns,it,kp⟩) L.r4 (fun v hv=>lv_J D.d (q.1 v hv)) (Nat.le_trans q.2 (by decide)) k.le)
   | false=>exact .one (.fin (e:=⟨ns,it,[]⟩) L.r4 nofun (Nat.zero_le _) k.le)
end
noncomputable def rowAv (sl:Bool):Row->AV
 | .push t=>.tup [.str "push",.str (S t),.none]
 | .load y=>cond sl (.tup [.str "load",.int (cond y 1 0:Nat),.str (vS y)]) (.tup [.str "load_name",.str (vS y),.none])
 | .join k=>.tup [.str "join",.int k,.none]
 | .estart n ns=>.tup [.str "each_start",.int n,.tup (ns.map namesAv)]
 | .estep n to=>.tup [.str "each_step",.int n,.int to]
 | .etake n=>.tup [.str "each_take",.int n,.none]
 | .pop=>.tup [.str "pop",.none,.none]
 | .jump to=>.tup [.str "jump",.int to,.none]
 | .hole _=>.tup [.str "jump",.none,.none]
 | .eend n=>.tup [.str "each_end",.int n,.none]
 | .invoke k=>.tup [.str "invoke",.int k,.none]
noncomputable def rgAv (r:Rg):AV:=.tup [.str "loop",.int r.fst,.int r.beh,.int r.fin,.int r.aga,.int r.dep]
noncomputable def srAv (e:Nat×Nat×Str):AV:=.tup [.int e.1,.int e.2.1,.str e.2.2]
noncomputable def natsAv (l:List Nat):List AV:=l.map fun n=>.int (n:Nat)
noncomputable def isH (b:Bool):Row->Bool
 | .hole c=>b==c
 | _=>false
noncomputable def hp (b:Bool):Nat->List Row->List Nat
 | _,[]=>[]
 | a,x::r=>cond (isH b x) (a::hp b (a+1) r) (hp b (a+1) r)
theorem hp_app (b:Bool):∀ (r1 r2:List Row) (a:Nat),hp b a (r1++r2)=hp b a r1++hp b (a+r1.length) r2
 | [],r2,a=>rfl
 | x::r1,r2,a=>by
  have ih:=hp_app b r1 r2 (a+1)
  rw [Nat.add_right_comm] at ih
  show cond (isH b x) (a::hp b (a+1) (r1++r2)) (hp b (a+1) (r1++r2))=cond _ _ _++hp b (a+r1.length+1) r2
  rw [ih]
  induction isH b x using Bool.casesOn <;> rfl
theorem hp_no {b:Bool}:∀ {r:List Row} {a:Nat},(∀ x∈r,isH b x=false)->hp b a r=[]
 | [],_,_=>rfl
 | x::r,a,h=>by
  show cond _ _ _=_
  rw [h x (.head _),hp_no fun y hy=>h y (.tail _ hy)]; rfl
theorem hp_len (b:Bool):∀ (r:List Row) (a:Nat),(hp b a r).length<=r.length
 | [],a=>Nat.le_refl _
 | x::r,a=>by
  have ih:=hp_len b r (a+1)
  show List.length (cond _ _ _)<=_
  induction isH b x using Bool.casesOn
  ·exact Nat.le_succ_of_le ih
  ·exact Nat.succ_le_succ ih
theorem hp_lt (b:Bool):∀ (r:List Row) (a:Nat),∀ i∈hp b a r,i<a+r.length
 | [],a,i,h=>by cases h
 | x::r,a,i,h=>by
  have ih:=hp_lt b r (a+1)
  rw [Nat.add_right_comm] at ih
  have h:i∈cond (isH b x) (a::hp b (a+1) r) (hp b (a+1) r):=h
  induction e:isH b x using Bool.casesOn <;> rw [e] at h
  ·exact ih i h
  ·exact (List.mem_cons.mp h).elim (fun e=>e▸Nat.lt_succ_of_le (Nat.le_add_right ..)) (ih i)
theorem hole_isH {b:Bool} {x:Row} (h:isHole x=false):isH b x=false:=by induction x using Row.casesOn <;> first | rfl | injection h
structure CS where
 rows:List AV
 rgs:List AV
 sr:List AV
 lbs:List AV
 B:List Nat
 C:List Nat
structure CA where
 r:Nat
 g:Nat
 s:Nat
 l:Nat
noncomputable abbrev LP:=Option (Nat×Nat×Nat)
noncomputable def lpD (lp:LP):Option Nat:=lp.map fun e=>e.1
noncomputable def LH (lp:LP) (z:CS):HL:=match lp with
 | none=>[]
 | some (_,b1,b2)=>[(b1,.list (natsAv z.B)),(b2,.list (natsAv z.C))]
noncomputable def lpAv:LP->AV
 | none=>.none
 | some (q,b1,b2)=>.lst [.int q,.ref b1,.ref b2]
noncomputable def cdAv (sl:Bool) (A:CA):AV:=.lst [.ref A.r,.ref A.g,.ref A.s,.bool sl,.ref A.l]
noncomputable def CH (A:CA) (lp:LP) (z:CS):HL:=(A.r,.list z.rows)::(A.g,.list z.rgs)::(A.s,.list z.sr)::(A.l,.list z.lbs)::LH lp z
noncomputable def CS.app (sl:Bool) (z:CS) (o:Out') (ls:List AV):CS:=
 ⟨z.rows++o.rows.map (rowAv sl),z.rgs++o.rgs.map rgAv,z.sr++o.ss.map srAv,z.lbs++ls,z.B++hp true z.rows.length o.rows,z.C++hp false z.rows.length o.rows⟩
section
variable {sl:Bool} {z:CS} {o o1 o2 o3:Out'} {l1 l2 ls:List AV}
theorem app_len:(z.app sl o ls).rows.length=z.rows.length+o.len:=by unfold CS.app; rw [List.length_append,List.length_map]; rfl
theorem app_lbs:(z.app sl o ls).lbs.length=z.lbs.length+ls.length:=List.length_append
theorem app_app:(z.app sl o1 l1).app sl o2 l2=z.app sl (o1.add o2) (l1++l2):=by
 have e:=app_len (sl:=sl) (z:=z) (o:=o1) (ls:=l1)
 unfold CS.app at e ⊢
 dsimp only at e ⊢
 unfold Out'.add
 dsimp only
 rw [e,List.map_append,List.map_append,List.map_append,hp_app,hp_app]
 simp only [List.append_assoc]
 rfl
theorem app_row {r:Row} (h:isHole r=false):z.app sl (.row r) []={z with rows:=z.rows++[rowAv sl r]}:=by
 unfold CS.app Out'.row
 rw [hp_no fun x hx=>List.mem_singleton.mp hx▸hole_isH h,hp_no fun x hx=>List.mem_singleton.mp hx▸hole_isH h]
 simp only [List.map_nil,List.append_nil]
 rfl
theorem app_nil:z.app sl .nil []=z:=by
 unfold CS.app Out'.nil
 simp only [List.map_nil,List.append_nil,hp]
theorem add_add:(o1.add o2).add o3=o1.add (o2.add o3):=by
 unfold Out'.add
 simp only [List.append_assoc,Nat.add_assoc]
theorem add_nil:o.add .nil=o:=by
 unfold Out'.add Out'.nil
 simp only [List.append_nil]; rfl
theorem nil_add:Out'.nil.add o=o:=by
 unfold Out'.add Out'.nil
 simp only [List.nil_append,Nat.zero_add]
noncomputable def Out'.tot (o:Out'):Nat:=o.rows.length+o.rgs.length+o.ss.length+o.n
theorem tot_add:(o1.add o2).tot=o1.tot+o2.tot:=by
 unfold Out'.tot Out'.add
 simp only [List.length_append]
 lia
theorem tot_src {a:Nat} {sh:Str}:(srcO a sh o).tot=o.tot+1:=by
 unfold Out'.tot srcO
 simp only [List.length_append,List.length_cons,List.length_nil]
 lia
theorem tot_loop {lm:Bool} {ns:List (List Bool)} {num:Nat} {g:Rg}:(loopO lm ns num g o1 o2).tot=o1.tot+o2.tot+7:=by
 unfold Out'.tot loopO
 simp only [List.length_append,List.length_cons,List.length_nil,List.length_map]
 lia
theorem tot_cond {c:Bool} {r:Row}:(cond c (.row r) Out'.nil).tot<=1:=by induction c using Bool.casesOn; exact Nat.zero_le _; exact Nat.le_refl _
theorem tot_ar {a b c x y w:Nat} (h:a<=x) (i:b<=y) (j:c<=w):a+(b+c)+7+1<=8+x+3*(1+y+w):=by lia
mutual
theorem tot_C:∀ (c:Tm) {a n p:Nat} {lp:Option Nat},(put a n p lp c).tot<=c.sz
 | .t s,a,n,p,lp=>Nat.le_refl _
 | .v y,a,n,p,lp=>Nat.le_refl _
 | .c k,a,n,p,lp=>Nat.le_trans (tot_C k) (Nat.le_add_left ..)
 | .word ps,a,n,p,lp=>by show ((putL a n p lp ps).add (cond _ _ _)).tot<=1+szL ps; rw [tot_add,Nat.add_comm]; exact Nat.add_le_add tot_cond (tot_L ps)
 | .call nm ws sh,a,n,p,lp=>by
  have h:∀ {o:Out'} {e:Bool} {k:Nat},o.tot<=szL ws->(callX nm e (callO nm k o)).tot<=szL ws+2:=fun {o e k} h=>by
   have h2:(callO nm k o).tot<=szL ws+2:=by unfold callO; rw [tot_add,tot_add,Nat.add_comm,Nat.add_right_comm]; exact Nat.add_le_add_right h 2
   unfold callX
   induction isJmp nm using Option.casesOn with
   | none=>exact h2
   | some b=>induction e using Bool.casesOn; exact h2; exact Nat.le_trans (Nat.le_succ 1) (Nat.le_add_left ..)
  show (srcO a sh _).tot<=3+szL ws
  rw [tot_src,Nat.add_comm 3]
  exact Nat.succ_le_succ (h (tot_L ws))
 | .each lm ns ws b r sh,a,n,p,lp=>by
  show (srcO a sh (loopO _ _ _ _ _ (Out'.add _ _))).tot<=8+szL ws+3*(1+b.sz+szL r)
  rw [tot_src,tot_loop,tot_add]
  exact tot_ar (tot_L ws) (tot_C b) (tot_R r)
theorem tot_L:∀ (cs:List Tm) {a n p:Nat} {lp:Option Nat},(putL a n p lp cs).tot<=szL cs
 | [],a,n,p,lp=>Nat.zero_le _
 | c::r,a,n,p,lp=>Nat.le_trans (Nat.le_of_eq tot_add) (Nat.add_le_add (Nat.le_trans (tot_C c) (Nat.le_add_left ..)) (tot_L r))
theorem tot_R:∀ (cs:List Tm) {a n p:Nat} {lp:Option Nat},(putR a n p lp cs).tot<=szL cs
 | [],a,n,p,lp=>Nat.zero_le _
 | c::r,a,n,p,lp=>by show (Out'.add _ (Out'.add _ _)).tot<=1+c.sz+szL r; rw [tot_add,tot_add,← Nat.add_assoc]; exact Nat.add_le_add (Nat.add_le_add (Nat.le_refl 1) (tot_C c)) (tot_R r)
end
noncomputable def CS.tot (z:CS):Nat:=z.rows.length+z.rgs.length+z.sr.length+z.lbs.length+z.B.length+z.C.length
theorem app_tot (h:ls.length=o.n):(z.app sl o ls).tot<=z.tot+3*o.tot:=by
 have h1:=hp_len true o.rows z.rows.length
 have h2:=hp_len false o.rows z.rows.length
 unfold CS.tot CS.app Out'.tot
 simp only [List.length_append,List.length_map]
 lia
noncomputable def CS.lim (z:CS) (k:Nat):Prop:=z.tot+3*k<=900000
theorem CS.lim.less {k j:Nat} (h:z.lim k) (hj:j<=k):z.lim j:=Nat.le_trans (Nat.add_le_add_left (Nat.mul_le_mul_left 3 hj) _) h
theorem CS.lim.app {k j:Nat} (h:z.lim k) (hn:ls.length=o.n) (hj:o.tot+j<=k):(z.app sl o ls).lim j:=by
 have:=app_tot (sl:=sl) (z:=z) hn
 unfold CS.lim at *
 lia
theorem CS.lim.rows {k:Nat} (h:z.lim k):z.rows.length<Mine.lim:=by unfold CS.lim CS.tot at h; lia
theorem CS.lim.rgs {k:Nat} (h:z.lim k):z.rgs.length<Mine.lim:=by unfold CS.lim CS.tot at h; lia
theorem CS.lim.sr {k:Nat} (h:z.lim k):z.sr.length<Mine.lim:=by unfold CS.lim CS.tot at h; lia
theorem CS.lim.lbs {k:Nat} (h:z.lim k):z.lbs.length<Mine.lim:=by unfold CS.lim CS.tot at h; lia
theorem CS.lim.hs {k:Nat} (h:z.lim k):(natsAv z.B).length<Mine.lim∧(natsAv z.C).length<Mine.lim:=by
 unfold natsAv
 rw [List.length_map,List.length_map]
 unfold CS.lim CS.tot at h; lia
end
noncomputable abbrev putP (sl:Bool) (A:CA) (lp:LP) (z:CS) (o:Out'):Post:=⟨List AV,fun ls=>ls.length=o.n,fun ls=>CH A lp (z.app sl o ls),fun U=>.ok .none⟩
noncomputable def PutsOk (P:Params) (n:Nat) (X:Tm->Prop):Prop:=∀ {sl:Bool} {A:CA} {lp:LP} {z:CS} {p:Nat} {b:Tm} {r:List Tm},X b->(∀ c∈r,X c)->z.lim (1+b.sz+szL r)->CF P n 1018 [.lst (avs (b::r)),cdAv sl A,.int p,lpAv lp] (CH A lp z)
 (putP sl A lp z ((put z.rows.length z.lbs.length p (lpD lp) b).add (putR (z.rows.length+(put z.rows.length z.lbs.length p (lpD lp) b).len) (z.lbs.length+(put z.rows.length z.lbs.length p (lpD lp) b).n) p (lpD lp) r))) false
noncomputable def PTextOk (P:Params) (n:Nat) (w:Tm):Prop:=∀ {sl:Bool} {A:CA} {lp:LP} {z:CS} {p:Nat},z.lim w.sz->CF P n 1006 [w.av,cdAv sl A,.int p,lpAv lp] (CH A lp z) (putP sl A lp z (put z.rows.length z.lbs.length p (lpD lp) w)) false
section
variable {P:Params} {Po:Post} {Λ:List LJ} {sl:Bool} {A:CA} {lp:LP} {z:CS} {o o2:Out'} {ls:List AV} {F:HL}
noncomputable def Hn.pu {n:Nat} {ad:Addr} {xs:List AV} {zz:Bool} (F:HL) (dd:Nat->Nat) (hn:ls.length=o.n) (h:CF P n ad xs (CH A lp (z.app sl o ls)) (putP sl A lp (z.app sl o ls) o2) zz) (r:∀ l2:List AV,l2.length=(o.add o2).n->Hn P Po Λ):Hn P Po Λ:=
 .cg F dd h fun l2 h2=>.hp (L:=CH A lp ((z.app sl o ls).app sl o2 l2)++F) (M:=CH A lp (z.app sl (o.add o2) (ls++l2))++F) (hpE (congrArg (fun z=>CH A lp z++F) app_app))<|r (ls++l2) (by rw [List.length_append,hn,show List.length l2=o2.n from h2]; rfl)
theorem ro_eq {row:Row} (hr:isHole row=false) {v:AV} (hv:v=rowAv sl row):(A.r,AObj.list ((z.app sl o ls).rows++[v]))::(A.g,.list (z.app sl o ls).rgs)::(A.s,.list (z.app sl o ls).sr)::(A.l,.list (z.app sl o ls).lbs)::(LH lp (z.app sl o ls)++F)=CH A lp (z.app sl (o.add (.row row)) ls)++F:=by
 subst hv
 have:=app_app (sl:=sl) (z:=z) (o1:=o) (o2:=.row row) (l1:=ls) (l2:=[])
 rw [app_row hr,List.append_nil] at this
 rw [← this]
 induction lp using Option.casesOn <;> rfl
noncomputable def Hn.ro (A:CA) (lp:LP) (F:HL) {row:Row} (hr:isHole row=false) {v:AV} (hv:v=rowAv sl row) {k:Nat} (hl:(z.app sl o ls).lim k) (r:Hn P Po Λ):Hn P Po Λ:=
 .pl 0<|.fa hl.rows<|.hp (L:=(A.r,.list ((z.app sl o ls).rows++[v]))::(A.g,.list (z.app sl o ls).rgs)::(A.s,.list (z.app sl o ls).sr)::(A.l,.list (z.app sl o ls).lbs)::(LH lp (z.app sl o ls)++F)) (M:=CH A lp (z.app sl (o.add (.row row)) ls)++F) (hpE (ro_eq hr hv)) r
structure PuS where
 dn:List Tm
 rs:List Tm
 o:Out'
 ls:List AV
structure PuC (ws:List Tm) (a n p:Nat) (lp:Option Nat) (l:List Nat) (t:PuS):Prop where
 f:Plc ws t.rs t.dn l
 h:t.ls.length=t.o.n
 g:t.o.tot+szL t.rs<=szL ws
 e:putL a n p lp ws=t.o.add (putL (a+t.o.len) (n+t.o.n) (p+t.dn.length) lp t.rs)
variable {ws q:List Tm} {a n p x:Nat} {l:List Nat} {t:PuS} {c:Tm} {m:Option Nat}
theorem PuC.init {k:Nat} (h:k=ws.length):PuC ws a n p m (List.range k) ⟨[],ws,.nil,[]⟩:=⟨.init h,rfl,Nat.le_of_eq (Nat.zero_add _),nil_add.symm⟩
theorem PuC.all (h:PuC ws a n p m [] t):t.o=putL a n p m ws:=by rw [h.e,h.f.all]; exact add_nil.symm
theorem PuC.next (h:PuC ws a n p m (x::l) t) (e:t.rs=c::q) {ls:List AV} (hl:ls.length=(t.o.add (put (a+t.o.len) (n+t.o.n) (p+t.dn.length) m c)).n):PuC ws a n p m l ⟨t.dn++[c],q,t.o.add (put (a+t.o.len) (n+t.o.n) (p+t.dn.length) m c),ls⟩:=by
 have hf:=h.f
 have hg:=h.g
 have he:=h.e
 rw [e] at hf hg he
 rw [szL] at hg
 refine ⟨hf.next,hl,?_,?_⟩
 ·have:=tot_C c (a:=a+t.o.len) (n:=n+t.o.n) (p:=p+t.dn.length) (lp:=m)
  show Out'.tot (Out'.add _ _)+szL q<=_
  rw [tot_add]
  lia
 ·rw [he,len_app,at_add]
  show t.o.add (Out'.add _ _)=_
  rw [← add_add,← Nat.add_assoc p]
  show _=Out'.add _ (putL _ (n+(t.o.n+(put (a+t.o.len) (n+t.o.n) (p+t.dn.length) m c).n)) _ _ _)
  rw [← Nat.add_assoc n]
theorem PuC.room (h:PuC ws a n p m (x::l) t) (e:t.rs=c::q) {k:Nat} (hz:z.lim (szL ws+k)):(z.app sl t.o t.ls).lim c.sz:=(hz.less (Nat.le_add_right ..)).app h.h (by have:=h.g; rw [e,szL] at this; lia)
theorem xy_find (y:Bool):AV.int (Txt.find "xy" (vS y))=.int (cond y 1 0:Nat):=by induction y using Bool.casesOn <;> kernel_rfl
theorem load_t (y:Bool) (h:sl=true):AV.tup [.str "load",.int (cond y 1 0:Nat),.str (vS y)]=rowAv sl (.load y):=by rw [h]; rfl
theorem load_f (y:Bool) (h:sl=false):AV.tup [.str "load_name",.str (vS y),.none]=rowAv sl (.load y):=by rw [h]; rfl
theorem word_j {lp:Option Nat} (h:1<ws.length):put a n p lp (.word ws)=(putL a n p lp ws).add (.row (.join ws.length)):=congrArg (Out'.add _) (by rw [decide_eq_true h]; rfl)
theorem word_n {lp:Option Nat} (h:¬ 1<ws.length):put a n p lp (.word ws)=putL a n p lp ws:=(congrArg (Out'.add _) (by rw [decide_eq_false h]; rfl)).trans add_nil
theorem ptext_ok {X:Tm->Prop} {N:Nat} (hR:PutsOk P N X) {w:List Tm} (hw:WG X w):PTextOk P (N+1) (.word w):=fun {sl A lp z p} hz=>
 have pl2:(avs w).length<=lim:=avs_len▸Nat.le_trans hw.l (by decide)
 have pe:AV.int ((avs w).length:Nat)=.int (w.length:Nat):=congrArg (fun x:Nat=>AV.int x) avs_len
 have hz:z.lim (szL w+1):=by rw [Nat.add_comm]; exact hz
 cfd_of (fun d F=>.hp (L:=CH A lp z++F) (M:=CH A lp (z.app sl .nil [])++F) (hpE (by rw [app_nil]))<|.fa pl2<|.fa pl2<|.fa pl2<|
  .fr (fun k:Nat=>.int k) (PuC w z.rows.length z.lbs.length p (lpD lp)) (fun U t=>CH A lp (z.app sl t.o t.ls)++F) (fun U t=>[.a,.a,.a]) (List.range (avs w).length) ⟨[],w,.nil,[]⟩ (.init avs_len)
   (fun t h=>
    have e:=h.all
    have room:(z.app sl t.o t.ls).lim 1:=hz.app h.h (Nat.add_le_add_right (Nat.le_trans (Nat.le_add_right ..) h.g) 1)
    .or (Nat.lt_or_ge 1 (avs w).length)
    (fun h1=>.fa pl2<|.is (ltT (x:=1) (y:=(avs w).length) h1)<|.pl 0<|.fa pl2<|.as pe<|.ro A lp F (row:=.join w.length) rfl rfl room<|
     have e2:=(word_j (lp:=lpD lp) (a:=z.rows.length) (n:=z.lbs.length) (p:=p) (avs_len▸h1)).trans (congrArg (Out'.add · _) e.symm)
     .fe t.ls (show t.ls.length=_ by rw [e2]; exact h.h) (show CH A lp (z.app sl (t.o.add (.row (.join w.length))) t.ls)++F=CH A lp (z.app sl (put z.rows.length z.lbs.length p (lpD lp) (.word w)) t.ls)++F by rw [e2]) rfl)
    fun h1=>
     have e2:=(word_n (lp:=lpD lp) (a:=z.rows.length) (n:=z.lbs.length) (p:=p) (avs_len▸Nat.not_lt.mpr h1)).trans e.symm
     .fa pl2<|.is (ltF (x:=1) (y:=(avs w).length) (Nat.not_lt.mpr h1))<|.fe t.ls (show t.ls.length=_ by rw [e2]; exact h.h) (show CH A lp (z.app sl t.o t.ls)++F=CH A lp (z.app sl (put z.rows.length z.lbs.length p (lpD lp) (.word w)) t.ls)++F by rw [e2]) rfl)
   fun x l' t h=>.ex h.f.hd.2 fun c h2=>.ex h2 fun q e=>
    have hk:=h.f.hd.1
    have hat:w[t.dn.length]?=some c:=(e▸h.f:Plc w (c::q) t.dn (x::l')).at
    have rm:=h.room (sl:=sl) (z:=z) e hz
    have nx {o':Out'} (eo:o'=put (z.rows.length+t.o.len) (z.lbs.length+t.o.n) (p+t.dn.length) (lpD lp) c) {ls:List AV} (hl:ls.length=(t.o.add o').n):PuC w z.rows.length z.lbs.length p (lpD lp) l' ⟨t.dn++[c],q,t.o.add o',ls⟩:=by subst eo; exact h.next e hl
    have ih {v:AV} (hv:c.av=v):=avs_at (c:=c) (k:=t.dn.length) hat hw.l hv
    .or (hw.p c (List.mem_of_getElem? hat)).or (fun h3=>.ex h3 fun u eu=>
     .lv "k" (kdE hk)<|.ix (ih (congrArg Tm.av eu.1))<|.pl 0<|.ro A lp F (row:=.push u) rfl rfl rm<|.go 0 rfl (.mk (PuS.mk (t.dn++[c]) q (t.o.add (.row (.push u))) t.ls) (nx (by rw [eu.1]; rfl) h.h))) fun h3=>
    .or h3 (fun h3=>.ex h3 fun y eu=>
     have go:=Hn.go (P:=P) (Po:=(putP sl A lp z (put z.rows.length z.lbs.length p (lpD lp) (.word w))).fr F) 0 rfl (Jf.mk (C:=PuC w z.rows.length z.lbs.length p (lpD lp)) (M:=fun U t=>CH A lp (z.app sl t.o t.ls)++F) (V:=fun U t=>([MV.a,.a,.a]:List MV).map id) (l:=l') (PuS.mk (t.dn++[c]) q (t.o.add (.row (.load y))) t.ls) (nx (by rw [eu]; rfl) h.h))
     .lv "k" (kdE hk)<|.ix (ih (congrArg Tm.av eu))<|
     .or (bool_or sl) (fun hs=>.pl 0<|.tr hs<|.as (xy_find y)<|.ro A lp F (row:=.load y) rfl (load_t y hs) rm go) fun hs=>.pl 0<|.tr hs<|.ro A lp F (row:=.load y) rfl (load_f y hs) rm go) fun h3=>
    .ex h3 fun k eu=>
     have hc:CF P N 1018 [.lst (avs [k]),cdAv sl A,.int (p+t.dn.length:Nat),lpAv lp] (CH A lp (z.app sl t.o t.ls)) (putP sl A lp (z.app sl t.o t.ls) (put (z.rows.length+t.o.len) (z.lbs.length+t.o.n) (p+t.dn.length) (lpD lp) c)) false:=by
      have:=hR (sl:=sl) (A:=A) (lp:=lp) (z:=z.app sl t.o t.ls) (p:=p+t.dn.length) (b:=k) (r:=[]) eu.2 nofun (by rw [eu.1] at rm; exact rm)
      rw [show putR _ _ (p+t.dn.length) (lpD lp) []=.nil from rfl,add_nil,app_len,app_lbs,h.h] at this
      rw [eu.1]; exact this
     .lv "k" (kdE hk)<|.ix (ih (congrArg Tm.av eu.1))<|.pu F (fun U=>d) h.h hc fun l2 hl=>.go 0 rfl (.mk (PuS.mk (t.dn++[c]) q (t.o.add (put (z.rows.length+t.o.len) (z.lbs.length+t.o.n) (p+t.dn.length) (lpD lp) c)) l2) (nx rfl hl))) (by kernel_rfl)
end
noncomputable def bodyO (a n p:Nat) (b:Tm) (r:List Tm):Out':=(put a n p (some p) b).add (putR (a+(put a n p (some p) b).len) (n+(put a n p (some p) b).n) p (some p) r)
noncomputable def eachO (lm:Bool) (ns:List (List Bool)) (a n p:Nat) (o1 o2:Out'):Out':=loopO lm ns (n+o1.n) (loopG (a+o1.len) p o2.len) o1 o2
theorem put_each {lm:Bool} {ns:List (List Bool)} {ws r:List Tm} {b:Tm} {sh:Str} {a n p:Nat} {lp:Option Nat}:put a n p lp (.each lm ns ws b r sh)=srcO a sh (eachO lm ns a n p (putL a n p lp ws) (bodyO (a+(putL a n p lp ws).len+2) (n+(putL a n p lp ws).n+1) p b r)):=rfl
noncomputable def setAll (v:AV) (L:List AV) (is:List Nat):List AV:=is.foldl (fun l i=>l.set i v) L
theorem setAll_len {v:AV}:∀ {is:List Nat} {L:List AV},(setAll v L is).length=L.length
 | [],L=>rfl
 | i::is,L=>(setAll_len (is:=is) (L:=L.set i v)).trans (List.length_set ..)
theorem setAll_snoc {v:AV} {is:List Nat} {L:List AV} {i:Nat}:(setAll v L is).set i v=setAll v L (is++[i]):=by unfold setAll; rw [List.foldl_append]; rfl
noncomputable def fillB (b:Bool) (to:Nat) (x:Row):Row:=cond (isH b x) (.jump to) x
theorem set_hp (sl b:Bool) (to:Nat) (post:List AV):∀ (r:List Row) (pre:List AV) {n:Nat},pre.length=n->setAll (rowAv sl (.jump to)) (pre++(r.map (rowAv sl)++post)) (hp b n r)=pre++((r.map (fillB b to)).map (rowAv sl)++post)
 | [],pre,n,h=>rfl
 | x::r,pre,n,h=>by
  have ih:=set_hp sl b to post r (pre++[rowAv sl (fillB b to x)]) (n:=n+1) (by rw [len_app,h])
  rw [List.append_assoc,List.append_assoc] at ih
  refine Eq.trans ?_ ih
  show setAll _ _ (cond (isH b x) _ _)=_
  unfold fillB
  induction isH b x using Bool.casesOn
  ·rfl
  ·show setAll _ ((pre++(rowAv sl x::(r.map (rowAv sl)++post))).set n (rowAv sl (.jump to))) _=_
   rw [← h,List.set_append_right _ _ (Nat.le_refl _),Nat.sub_self]; rfl
theorem fill_fill {fin aga:Nat} (x:Row):fillB false aga (fillB true fin x)=fillR fin aga x:=by
 induction x using Row.casesOn with
 | hole c=>induction c using Bool.casesOn <;> rfl
 | _=>rfl
theorem isH_fill {fin:Nat} (x:Row):isH false (fillB true fin x)=isH false x:=by
 induction x using Row.casesOn with
 | hole c=>induction c using Bool.casesOn <;> rfl
 | _=>rfl
theorem hp_fill {fin:Nat}:∀ (r:List Row) (a:Nat),hp false a (r.map (fillB true fin))=hp false a r
 | [],a=>rfl
 | x::r,a=>by
  show cond (isH false (fillB true fin x)) (a::hp false (a+1) (r.map (fillB true fin))) (hp false (a+1) (r.map (fillB true fin)))=_
  rw [isH_fill,hp_fill r (a+1)]; rfl
theorem fill_rows (sl:Bool) {pre:List AV} {x0 ph st t j e:AV} {m:List Row} {q f:Nat} (hq:pre.length=q):setAll (rowAv sl (.jump (q+1))) (setAll (rowAv sl (.jump f)) ((pre++[x0]++[ph]++m.map (rowAv sl)++[t]++[j]++[e]).set (q+1) st) (hp true (q+2) m)) (hp false (q+2) m)=pre++x0::st::((m.map (fillR f (q+1))).map (rowAv sl)++[t,j,e]):=by
 have l1:(pre++[x0]).length=q+1:=by rw [len_app,hq]
 have e0:pre++[x0]++[ph]++m.map (rowAv sl)++[t]++[j]++[e]=(pre++[x0])++ph::(m.map (rowAv sl)++[t,j,e]):=by simp only [List.append_assoc]; rfl
 have e1:(pre++[x0]++[ph]++m.map (rowAv sl)++[t]++[j]++[e]).set (q+1) st=pre++[x0]++[st]++(m.map (rowAv sl)++[t,j,e]):=by
  rw [e0,List.set_append_right _ _ (Nat.le_of_eq l1),l1,Nat.sub_self,List.append_assoc _ [st]]; rfl
 have em:(m.map (fillB true f)).map (fillB false (q+1))=m.map (fillR f (q+1)):=by rw [List.map_map]; exact List.map_congr_left fun x U=>fill_fill x
 have l2:(pre++[x0]++[st]).length=q+2:=by rw [len_app,l1]
 rw [e1,set_hp sl true f _ m _ l2,← hp_fill (fin:=f) m,set_hp sl false (q+1) _ _ _ l2,em,List.append_assoc,List.append_assoc]
 rfl
theorem each_app {sl lm:Bool} {ns:List (List Bool)} {z:CS} {o1 o2:Out'} {num:Nat} {g:Rg} {l:List AV}:z.app sl (loopO lm ns num g o1 o2) l=⟨(z.rows++o1.rows.map (rowAv sl))++rowAv sl (.estart num ns)::rowAv sl (.estep num g.fin)::((o2.rows.map (fillR g.fin g.aga)).map (rowAv sl)++[rowAv sl (takeR lm num),rowAv sl (.jump g.aga),rowAv sl (.eend num)]),z.rgs++o1.rgs.map rgAv++o2.rgs.map rgAv++[rgAv g],z.sr++o1.ss.map srAv++o2.ss.map srAv,z.lbs++l,z.B++hp true z.rows.length o1.rows,z.C++hp false z.rows.length o1.rows⟩:=by
 have no {b:Bool} {a:Nat}:hp b a (.estart num ns::.estep num g.fin::(o2.rows.map (fillR g.fin g.aga)++[takeR lm num,.jump g.aga,.eend num]))=[]:=hp_no fun x hx=>hole_isH (by
  have hx:=List.mem_cons.mp hx
  rcases hx with rfl | hx
  ·rfl
  rcases List.mem_cons.mp hx with rfl | hx
  ·rfl
  rcases List.mem_append.mp hx with hx | hx
  ·exact (List.mem_map.mp hx).elim fun y h=>h.2▸fillR_no y
  rcases List.mem_cons.mp hx with rfl | hx
  ·induction lm using Bool.casesOn <;> rfl
  rcases List.mem_cons.mp hx with rfl | hx
  ·rfl
  rw [List.mem_singleton.mp hx]; rfl)
 unfold CS.app loopO
 dsimp only
 rw [hp_app,hp_app,no,no,List.append_nil,List.append_nil]
 simp only [List.map_append,List.append_assoc,List.map_cons,List.map_nil]
noncomputable def phA (num:Nat):AV:=.tup [.str "each_step",.int num,.none]
noncomputable def zbO (sl:Bool) (z:CS) (num:Nat) (ns:List (List Bool)) (lm:Bool):CS:=⟨z.rows++[rowAv sl (.estart num ns)]++[phA num],z.rgs,z.sr,z.lbs++[.str (lmS lm)],[],[]⟩
section
variable {sl lm:Bool} {z z1 z2:CS} {o1 o2:Out'} {l1 l2:List AV} {num q p:Nat} {ns:List (List Bool)} {A:CA} {lp:LP} {F:HL} {k:Nat}
noncomputable def endR (sl lm:Bool) (z2:CS) (num q f:Nat):List AV:=(z2.rows++[rowAv sl (takeR lm num)]++[rowAv sl (.jump (q+1))]++[rowAv sl (.eend num)]).set (q+1) (rowAv sl (.estep num f))
theorem each_fin (hq:z.rows.length+o1.len=q) (e1:z1=z.app sl o1 l1) (e2:z2=(zbO sl z1 num ns lm).app sl o2 l2):(A.r,AObj.list (setAll (rowAv sl (.jump (q+1))) (setAll (rowAv sl (.jump (q+2+o2.len+2))) (endR sl lm z2 num q (q+2+o2.len+2)) z2.B) z2.C))::(A.g,.list (z2.rgs++[rgAv (loopG q p o2.len)]))::(A.s,.list z2.sr)::(A.l,.list z2.lbs)::(LH lp z1++F)=CH A lp (z.app sl (loopO lm ns num (loopG q p o2.len) o1 o2) (l1++.str (lmS lm)::l2))++F:=by
 have hz:z1.rows.length=q:=by rw [e1,app_len,hq]
 have hb:(zbO sl z1 num ns lm).rows.length=q+2:=by unfold zbO; rw [len_app,len_app,hz]
 have hl:z2.lbs=z.lbs++(l1++.str (lmS lm)::l2):=by rw [e2,e1]; show z.lbs++l1++[_]++l2=_; simp only [List.append_assoc]; rfl
 have hB:z2.B=hp true (q+2) o2.rows:=by rw [e2,← hb]; rfl
 have hC:z2.C=hp false (q+2) o2.rows:=by rw [e2,← hb]; rfl
 have hr:z2.rows=z1.rows++[rowAv sl (.estart num ns)]++[phA num]++o2.rows.map (rowAv sl):=by rw [e2]; rfl
 have hg:z2.rgs=z1.rgs++o2.rgs.map rgAv:=by rw [e2]; rfl
 have hs:z2.sr=z1.sr++o2.ss.map srAv:=by rw [e2]; rfl
 rw [each_app,hB,hC,hl,hg,hs]
 unfold endR
 rw [hr,fill_rows sl hz]
 subst e1
 induction lp using Option.casesOn <;> rfl
theorem zb_len (hz:z1.rows.length=q):(zbO sl z1 num ns lm).rows.length=q+2:=by unfold zbO; rw [len_app,len_app,hz]
theorem zb_lim (h:z1.lim (k+1)):(zbO sl z1 num ns lm).lim k:=by
 unfold CS.lim CS.tot zbO at *
 simp only [List.length_append,List.length_cons,List.length_nil] at *
 lia
theorem CS.lim.rs (h:z.lim 4):z.rows.length+10<=Mine.lim∧z.lbs.length+10<=Mine.lim:=by unfold CS.lim CS.tot at h; lia
theorem endR_len {f:Nat}:(endR sl lm z2 num q f).length=z2.rows.length+3:=by unfold endR; rw [List.length_set,len_app,len_app,len_app]
theorem hp_in {b:Bool} {r:List Row} {a i:Nat} {L R:List Nat} (h:Suf (hp b a r) (i::R) L):i<a+r.length:=hp_lt b r a i h.mem
theorem int_len {l:List AV} {n:Nat} (h:l.length=n):AV.int (l.length:Nat)=.int (n:Nat):=congrArg (fun x:Nat=>AV.int x) h
theorem inH {a b c d x y:Nat×AObj} (σ:AHeap) (h:H σ (y::x::a::b::c::d::F)):H σ (a::b::c::d::x::y::F):=h.perm ((List.Perm.swap x y _).trans (List.perm_append_comm_assoc [x,y] [a,b,c,d] F))
noncomputable abbrev HRf (A:CA) (z2:CS) (i1 i2:Nat) (G:HL) (R:List AV):HL:=(A.r,.list R)::(A.g,.list z2.rgs)::(A.s,.list z2.sr)::(A.l,.list z2.lbs)::(i1,.list (natsAv z2.B))::(i2,.list (natsAv z2.C))::G
structure Bdy (z2:CS) (q g f:Nat):Prop where
 h:z2.rows.length=g
 r:g+2=f
 l:z2.lim 4
 a:q+1<f
 B:∀ {i:Nat} {L R:List Nat},Suf z2.B (i::R) L->i<z2.rows.length
 C:∀ {i:Nat} {L R:List Nat},Suf z2.C (i::R) L->i<z2.rows.length
variable {P:Params} {Po:Post} {Λ:List LJ} {f g i1 i2:Nat} {G:HL}
theorem Bdy.le (h:Bdy z2 q g f) {l:List AV} {k:Nat} (e:l.length=z2.rows.length+k) (hk:k<10):l.length<lim:=e▸Nat.lt_of_lt_of_le (Nat.add_lt_add_left hk _) h.l.rs.1
theorem Bdy.ik (h:Bdy z2 q g f) {l:List AV} (e:l.length=z2.rows.length+3) {i:Nat} (hi:i<f):IkS l i:=⟨by rw [e]; have:=h.r; have:=h.h; lia,Nat.le_of_lt (h.le e (by decide))⟩
noncomputable def Hn.tl2 (A:CA) (G:HL) (z2:CS) (i1 i2 num q g f p:Nat) (sl lm:Bool) (h:Bdy z2 q g f) (k:Hn P Po Λ):Hn P Po Λ:=
 have e3 {v:AV} {l:List Nat}:(setAll v (endR sl lm z2 num q f) l).length=z2.rows.length+3:=setAll_len.trans endR_len
 have e4 {v w:AV} {l m:List Nat}:(setAll v (setAll w (endR sl lm z2 num q f) m) l).length=z2.rows.length+3:=setAll_len.trans e3
 have lt {i:Nat} (hi:i<z2.rows.length):i<f:=h.r▸h.h▸Nat.lt_of_lt_of_le hi (Nat.le_add_right ..)
 have l1:(z2.rows++[rowAv sl (takeR lm num)]).length=z2.rows.length+1:=len_app
 have l2:(z2.rows++[rowAv sl (takeR lm num)]++[rowAv sl (.jump (q+1))]).length=z2.rows.length+2:=len_app.trans (congrArg (·+1) l1)
 have l3:(z2.rows++[rowAv sl (takeR lm num)]++[rowAv sl (.jump (q+1))]++[rowAv sl (.eend num)]).length=z2.rows.length+3:=len_app.trans (congrArg (·+1) l2)
 have nl:(natsAv z2.B).length<=lim∧(natsAv z2.C).length<=lim:=⟨Nat.le_of_lt h.l.hs.1,Nat.le_of_lt h.l.hs.2⟩
 have rest:Hn P Po Λ:=.pl 0<|.pl 0<|.fa (h.le l1 (by decide))<|.pl 0<|.fa (Nat.le_of_lt (h.le l2 (by decide)))<|.as (int_len (l2.trans ((congrArg (·+2) h.h).trans h.r)))<|.pl 0<|.pl 0<|.fa (h.le l2 (by decide))<|.pl 0<|.fa (h.ik l3 h.a)<|
  .pl 4<|.fa nl.1<|.fr (fun i:Nat=>.int i) (fun l D=>Suf z2.B l D) (fun U D=>HRf A z2 i1 i2 G (setAll (rowAv sl (.jump f)) (endR sl lm z2 num q f) D)) (fun U U=>[.a]) z2.B [] ⟨rfl⟩
   (fun D hD=>.ed 0 (congrArg (fun D=>AObj.list (setAll (rowAv sl (.jump f)) (endR sl lm z2 num q f) D)) hD.all)<|.pl 5<|.fa nl.2<|
    .fr (fun i:Nat=>.int i) (fun l D=>Suf z2.C l D) (fun U D=>HRf A z2 i1 i2 G (setAll (rowAv sl (.jump (q+1))) (setAll (rowAv sl (.jump f)) (endR sl lm z2 num q f) z2.B) D)) (fun U U=>[.a]) z2.C [] ⟨rfl⟩
     (fun D hD=>.ed 0 (congrArg (fun D=>AObj.list (setAll (rowAv sl (.jump (q+1))) (setAll (rowAv sl (.jump f)) (endR sl lm z2 num q f) z2.B) D)) hD.all)<|.pl 1<|.pl 1<|.fa h.l.rgs<|.dr 4<|.dr 4 k)
     fun i l D hD=>.pl 0<|.fa (h.ik (l:=setAll (rowAv sl (.jump (q+1))) (setAll (rowAv sl (.jump f)) (endR sl lm z2 num q f) z2.B) D) e4 (lt (h.C hD)))<|.ed 0 (congrArg AObj.list (setAll_snoc (v:=rowAv sl (.jump (q+1))) (is:=D) (L:=setAll (rowAv sl (.jump f)) (endR sl lm z2 num q f) z2.B) (i:=i)))<|.go 0 rfl (.mk (l:=l) (D++[i]) hD.next))
   fun i l D hD=>.pl 0<|.fa (h.ik (l:=setAll (rowAv sl (.jump f)) (endR sl lm z2 num q f) D) e3 (lt (h.B hD)))<|.ed 0 (congrArg AObj.list (setAll_snoc (v:=rowAv sl (.jump f)) (is:=D) (L:=endR sl lm z2 num q f) (i:=i)))<|.go 0 rfl (.mk (l:=l) (D++[i]) hD.next)
 .pl 0<|.fa (Nat.le_of_lt (h.le (k:=0) rfl (by decide)))<|.as (int_len h.h)<|.or (bool_or lm)
  (fun b=>.pl 0<|.is ((lmap_eq lm).trans b)<|.pl 0<|.fa (h.le (k:=0) rfl (by decide))<|.ed 0 (show AObj.list (z2.rows++[.tup [.str "each_take",.int num,.none]])=.list (z2.rows++[rowAv sl (takeR lm num)]) by rw [b]; rfl) rest)
  fun b=>.pl 0<|.is ((lmap_eq lm).trans b)<|.pl 0<|.fa (h.le (k:=0) rfl (by decide))<|.ed 0 (show AObj.list (z2.rows++[.tup [.str "pop",.none,.none]])=.list (z2.rows++[rowAv sl (takeR lm num)]) by rw [b]; rfl) rest
noncomputable def Hn.tl1 (A:CA) (lp:LP) (F:HL) {ns:List (List Bool)} {ws:List Tm} (z1 zb:CS) (num q p:Nat) (sl lm:Bool) (h1:ns.length=ws.length) (zl:(ns.zip ws).length<=lim) (hq:z1.rows.length=q) (hn:z1.lbs.length=num) (hl:z1.lim 4) (eb:zb=zbO sl z1 num ns lm) (k:∀ i1 i2:Nat,Hn P Po Λ):Hn P Po Λ:=
 have le {k:Nat} {l:List AV} (e:l.length=z1.rows.length+k) (hk:k<10):l.length<lim:=e▸Nat.lt_of_lt_of_le (Nat.add_lt_add_left hk _) hl.rs.1
 have l1:(z1.rows++[rowAv sl (.estart num ns)]).length=z1.rows.length+1:=len_app
 .pl 3<|.fa (Nat.le_of_lt hl.lbs)<|.as (int_len hn)<|.pl 3<|.pl 3<|.fa hl.lbs<|
 .pl 0<|.fa (show ((ns.zip ws).map zF).length<=lim from List.length_map (f:=zF)▸zl)<|.mp ((A.r,.list z1.rows)::(A.g,.list z1.rgs)::(A.s,.list z1.sr)::(A.l,.list (z1.lbs++[.str (lmS lm)]))::(LH lp z1++F)) zF (fun e=>namesAv e.1) zl<|.fa (show ((ns.zip ws).map fun e=>namesAv e.1).length<=lim from List.length_map (f:=fun e:List Bool×Tm=>namesAv e.1)▸zl)<|
 .pl 0<|.fa (le (k:=0) rfl (by decide))<|.ed 0 (show AObj.list (z1.rows++[.tup [.str "each_start",.int num,.tup ((ns.zip ws).map fun e=>namesAv e.1)]])=.list (z1.rows++[rowAv sl (.estart num ns)]) by rw [names_map ns ws h1]; rfl)<|
 .pl 0<|.fa (Nat.le_of_lt (le l1 (by decide)))<|.as (int_len (l1.trans (congrArg (·+1) hq)))<|.pl 0<|.pl 0<|.fa (le l1 (by decide))<|
 .nw fun i1=>.nw fun i2=>.hp (L:=(i2,.list [])::(i1,.list [])::(A.r,.list (z1.rows++[rowAv sl (.estart num ns)]++[phA num]))::(A.g,.list z1.rgs)::(A.s,.list z1.sr)::(A.l,.list (z1.lbs++[.str (lmS lm)]))::(LH lp z1++F))
  (M:=CH A (some (p,i1,i2)) zb++(LH lp z1++F)) (fun σ y=>by subst eb; exact inH σ y) (k i1 i2)
end
section
variable {P:Params} {lm:Bool} {ns:List (List Bool)} {ws r:List Tm} {b:Tm} {sh:Str} {N:Nat} {X:Tm->Prop}
noncomputable def PLoopOk (P:Params) (n:Nat) (lm:Bool) (ns:List (List Bool)) (ws:List Tm) (b:Tm) (r:List Tm) (sh:Str):Prop:=∀ {sl:Bool} {A:CA} {lp:LP} {z:CS} {p:Nat},z.lim (Tm.each lm ns ws b r sh).sz->CF P n 1011 [(Tm.each lm ns ws b r sh).av,cdAv sl A,.int p,lpAv lp] (CH A lp z)
 (putP sl A lp z (eachO lm ns z.rows.length z.lbs.length p (putL z.rows.length z.lbs.length p (lpD lp) ws) (bodyO (z.rows.length+(putL z.rows.length z.lbs.length p (lpD lp) ws).len+2) (z.lbs.length+(putL z.rows.length z.lbs.length p (lpD lp) ws).n+1) p b r))) false
theorem body_tot {a n p:Nat}:(bodyO a n p b r).tot<=b.sz+szL r:=Nat.le_trans (Nat.le_of_eq tot_add) (Nat.add_le_add (tot_C b) (tot_R r))
theorem ploop_ok (h1:ns.length=ws.length) (h2:ws.length<=2) (hT:∀ w∈ws,PTextOk P N w) (hR:PutsOk P N X) (hb:X b) (hr:∀ c∈r,X c):PLoopOk P (N+1) lm ns ws b r sh:=fun {sl A lp z p} hz=>
 have zl:(ns.zip ws).length=ws.length:=by rw [List.length_zip,h1,Nat.min_self]
 have zl3:(ns.zip ws).length<=lim:=zl▸Nat.le_trans h2 (by decide)
 have zl2:((ns.zip ws).map zF).length<=lim:=List.length_map (f:=zF)▸zl3
 have hz:z.lim (szL ws+(1+b.sz+szL r+7)):=hz.less (by rw [Tm.sz]; lia)
 cfd_of (fun d F=>.lv "command" (each_zip lm ns ws b r sh)<|.hp (L:=CH A lp z++F) (M:=CH A lp (z.app sl .nil [])++F) (hpE (by rw [app_nil]))<|.fa zl2<|.fa zl2<|.fa zl2<|
  .fr (fun k:Nat=>.int k) (PuC ws z.rows.length z.lbs.length p (lpD lp)) (fun U t=>CH A lp (z.app sl t.o t.ls)++F) (fun U t=>[.a]) (List.range ((ns.zip ws).map zF).length) ⟨[],ws,.nil,[]⟩ (.init (by rw [List.length_map,zl]))
   (fun t h=>
    have eo:=h.all
    have m1:(z.app sl t.o t.ls).lim (1+b.sz+szL r+6+1):=hz.app h.h (Nat.add_le_add_right (Nat.le_trans (Nat.le_add_right ..) h.g) _)
    have hq:(z.app sl t.o t.ls).rows.length=z.rows.length+t.o.len:=app_len
    have hn:(z.app sl t.o t.ls).lbs.length=z.lbs.length+t.o.n:=by rw [app_lbs,h.h]
    have mb:=zb_lim (sl:=sl) (lm:=lm) (ns:=ns) (num:=z.lbs.length+t.o.n) m1
    have lb:(zbO sl (z.app sl t.o t.ls) (z.lbs.length+t.o.n) ns lm).lbs.length=z.lbs.length+t.o.n+1:=by show List.length (_++_)=_; rw [len_app,hn]
    have rb:=zb_len (sl:=sl) (lm:=lm) (ns:=ns) (num:=z.lbs.length+t.o.n) hq
    have cb (i1 i2:Nat):CF P N 1018 [.lst (avs (b::r)),cdAv sl A,.int p,lpAv (some (p,i1,i2))] (CH A (some (p,i1,i2)) (zbO sl (z.app sl t.o t.ls) (z.lbs.length+t.o.n) ns lm)) (putP sl A (some (p,i1,i2)) (zbO sl (z.app sl t.o t.ls) (z.lbs.length+t.o.n) ns lm) (bodyO (z.rows.length+t.o.len+2) (z.lbs.length+t.o.n+1) p b r)) false:=by
     have:=hR (sl:=sl) (A:=A) (lp:=some (p,i1,i2)) (p:=p) hb hr (mb.less (Nat.le_add_right _ 6))
     rw [rb,lb] at this
     exact this
    .tl1 A lp F (z.app sl t.o t.ls) _ _ _ p sl lm h1 zl3 hq hn (m1.less (Nat.le_trans (by decide) (Nat.le_add_left 7 _))) rfl fun i1 i2=>.cg (LH lp (z.app sl t.o t.ls)++F) (fun U=>d) (cb i1 i2) fun l2 hl2=>
     have ll:List.length l2=(bodyO (z.rows.length+t.o.len+2) (z.lbs.length+t.o.n+1) p b r).n:=hl2
     have rr:((zbO sl (z.app sl t.o t.ls) (z.lbs.length+t.o.n) ns lm).app sl (bodyO (z.rows.length+t.o.len+2) (z.lbs.length+t.o.n+1) p b r) l2).rows.length=z.rows.length+t.o.len+2+(bodyO (z.rows.length+t.o.len+2) (z.lbs.length+t.o.n+1) p b r).len:=app_len.trans (congrArg (·+_) rb)
     have bd {b':Bool} {i:Nat} {L R:List Nat} (h:Suf (hp b' (zbO sl (z.app sl t.o t.ls) (z.lbs.length+t.o.n) ns lm).rows.length (bodyO (z.rows.length+t.o.len+2) (z.lbs.length+t.o.n+1) p b r).rows) (i::R) L):i<_:=Nat.lt_of_lt_of_eq (hp_in h) (app_len (sl:=sl) (z:=zbO sl (z.app sl t.o t.ls) (z.lbs.length+t.o.n) ns lm) (o:=bodyO (z.rows.length+t.o.len+2) (z.lbs.length+t.o.n+1) p b r) (ls:=l2)).symm
     .tl2 A (LH lp (z.app sl t.o t.ls)++F) ((zbO sl (z.app sl t.o t.ls) (z.lbs.length+t.o.n) ns lm).app sl (bodyO (z.rows.length+t.o.len+2) (z.lbs.length+t.o.n+1) p b r) l2) i1 i2 (z.lbs.length+t.o.n) (z.rows.length+t.o.len) _ _ p sl lm
      ⟨rr,rfl,mb.app ll (by have:=body_tot (a:=z.rows.length+t.o.len+2) (n:=z.lbs.length+t.o.n+1) (p:=p) (b:=b) (r:=r); lia),by lia,bd (b':=true),bd (b':=false)⟩<|
     .fe (t.ls++.str (lmS lm)::l2) (show List.length (t.ls++.str (lmS lm)::l2)=_ by rw [← eo,List.length_append,h.h,List.length_cons,ll]; show _=t.o.n+1+_; lia) ((each_fin (A:=A) (lp:=lp) (F:=F) (num:=z.lbs.length+t.o.n) (p:=p) (lm:=lm) (ns:=ns) rfl rfl rfl).trans (by rw [← eo]; rfl)) rfl)
   fun x l' t h=>.ex h.f.hd.2 fun c h2=>.ex h2 fun q e=>
    have hat:ws[x]?=some c:=h.f.hd.1▸(e▸h.f:Plc ws (c::q) t.dn (x::l')).at
    have rm:=h.room (sl:=sl) (z:=z) e hz
    .ex (zip_at h1 hat) fun m hm=>
    have hc:CF P N 1006 [c.av,cdAv sl A,.int (p+x:Nat),lpAv lp] (CH A lp (z.app sl t.o t.ls)) (putP sl A lp (z.app sl t.o t.ls) (put (z.rows.length+t.o.len) (z.lbs.length+t.o.n) (p+t.dn.length) (lpD lp) c)) false:=by
     have:=hT c (List.mem_of_getElem? hat) (sl:=sl) (A:=A) (lp:=lp) (p:=p+x) rm
     rw [app_len,app_lbs,h.h] at this
     rw [← h.f.hd.1]; exact this
    .ix (show IxS ((ns.zip ws).map zF) x (zF (m,c)) from ixS (by rw [List.getElem?_map,hm]; rfl) zl2)<|.pu F (fun U=>d) h.h hc fun l2 hl=>.go 0 rfl (.mk (PuS.mk (t.dn++[c]) q (t.o.add (put (z.rows.length+t.o.len) (z.lbs.length+t.o.n) (p+t.dn.length) (lpD lp) c)) l2) (h.next e hl))) (by kernel_rfl)
end
inductive PCmdOk (P:Params) (n:Nat):Tm->Prop
 | each {lm ns ws b r sh} (h:PLoopOk P n lm ns ws b r sh):PCmdOk P n (.each lm ns ws b r sh)
 | call {nm ws sh} (l:ws.length<=2) (t:∀ w∈ws,PTextOk P n w) (j:isJmp nm≠none->ws=[]):PCmdOk P n (.call nm ws sh)
structure EaQ where
 lm:Bool
 ns:List (List Bool)
 ws:List Tm
 b:Tm
 r:List Tm
 sh:Str
structure CaQ where
 nm:Nm
 ws:List Tm
 sh:Str
structure CallQ (P:Params) (n:Nat) (q:CaQ):Prop where
 l:q.ws.length<=2
 t:∀ w∈q.ws,PTextOk P n w
 j:isJmp q.nm≠none->q.ws=[]
theorem PCmdOk.or {P:Params} {n:Nat} {c:Tm} (h:PCmdOk P n c):(∃ q:EaQ,c=.each q.lm q.ns q.ws q.b q.r q.sh∧PLoopOk P n q.lm q.ns q.ws q.b q.r q.sh)∨∃ q:CaQ,c=.call q.nm q.ws q.sh∧CallQ P n q:=by
 induction h using PCmdOk.casesOn with
 | each h=>exact .inl ⟨⟨_,_,_,_,_,_⟩,rfl,h⟩
 | call l t j=>exact .inr ⟨⟨_,_,_⟩,rfl,l,t,j⟩
noncomputable def putX (a n p:Nat) (lp:Option Nat) (c:Tm) (r:List Tm):Out':=(put a n p lp c).add (putR (a+(put a n p lp c).len) (n+(put a n p lp c).n) p lp r)
theorem putR_c {a n p:Nat} {lp:Option Nat} {c:Tm} {r:List Tm}:putR a n p lp (c::r)=(Out'.row .pop).add (putX (a+1) n p lp c r):=rfl
structure PrC (cs:List Tm) (a n p:Nat) (lp:Option Nat) (full:Out') (l:List Nat) (t:PuS):Prop where
 f:Plc cs t.rs t.dn l
 h:t.ls.length=t.o.n
 g:t.o.tot+szL t.rs<=szL cs
 e:(t.dn=[]∧t.o=.nil∧full=match t.rs with | []=>.nil | c::r=>putX a n p lp c r)∨(t.dn≠[]∧full=t.o.add (putR (a+t.o.len) (n+t.o.n) p lp t.rs))
structure PrB (cs:List Tm) (a n p:Nat) (lp:Option Nat) (full:Out') (q:List Tm) (dn:List Tm) (l:List Nat) (c:Tm) (o:Out') (ls:List AV):Prop where
 f:Plc cs q (dn++[c]) l
 h:ls.length=o.n
 g:o.tot+(c.sz+szL q)<=szL cs
 e:full=o.add (putX (a+o.len) (n+o.n) p lp c q)
section
variable {cs q dn:List Tm} {a n p x:Nat} {lp:Option Nat} {full o X:Out'} {l:List Nat} {t:PuS} {c:Tm} {ls:List AV}
theorem PrC.z (h:PrC cs a n p lp full (x::l) t) (e:t.rs=c::q) (hx:x=0):PrB cs a n p lp full q t.dn l c t.o t.ls:=by
 have hf:=h.f
 have hg:=h.g
 have he:=h.e
 rw [e] at hf hg he
 rw [szL] at hg
 have d0:t.dn=[]:=List.length_eq_zero_iff.mp (hf.hd.1.symm.trans hx)
 refine ⟨hf.next,h.h,by lia,?_⟩
 rcases he with he | he
 ·rw [he.2.2,he.2.1,nil_add]; rfl
 ·exact (he.1 d0).elim
theorem PrC.s (h:PrC cs a n p lp full (x::l) t) (e:t.rs=c::q) (hx:0<x):PrB cs a n p lp full q t.dn l c (t.o.add (.row .pop)) t.ls:=by
 have hf:=h.f
 have hg:=h.g
 have he:=h.e
 rw [e] at hf hg he
 rw [szL] at hg
 refine ⟨hf.next,h.h,by rw [tot_add]; show _+1+_<=_; lia,?_⟩
 rcases he with he | he
 ·exact absurd (hf.hd.1.trans (congrArg List.length he.1)) (Nat.ne_of_gt hx)
 ·rw [he.2,putR_c,← add_add,at_add]; rfl
theorem PrB.next (h:PrB cs a n p lp full q dn l c o ls) {ls':List AV} (hl:ls'.length=(o.add (put (a+o.len) (n+o.n) p lp c)).n):PrC cs a n p lp full l ⟨dn++[c],q,o.add (put (a+o.len) (n+o.n) p lp c),ls'⟩:=
 ⟨h.f,hl,by
  have:=h.g
  have:=tot_C c (a:=a+o.len) (n:=n+o.n) (p:=p) (lp:=lp)
  show Out'.tot (Out'.add _ _)+_<=_
  rw [tot_add]
  lia,.inr ⟨List.append_ne_nil_of_right_ne_nil _ nofun,h.e.trans (by rw [at_add]; unfold putX; rw [← add_add]; show _=Out'.add _ (putR _ (n+(o.n+(put (a+o.len) (n+o.n) p lp c).n)) _ _ _); rw [← Nat.add_assoc n])⟩⟩
theorem PrC.all (h:PrC cs a n p lp full [] t) (hc:cs≠[]):full=t.o:=by
 have hr:=h.f.all
 rcases h.e with he | he
 ·exact absurd (h.f.f.e.trans (by rw [he.1,hr]; rfl)) hc
 ·rw [he.2,hr]; exact add_nil
variable {sl:Bool} {z:CS} {sh:Str} {A:CA} {m:LP} {F:HL} {b:Bool}
theorem src_app {k:Nat}:z.app sl (o.add (srcO k sh X)) ls={z.app sl (o.add X) ls with sr:=(z.app sl (o.add X) ls).sr++[srAv (k,k+X.len,sh)]}:=by
 unfold CS.app Out'.add srcO
 simp only [List.map_append,← List.append_assoc,List.map_cons,List.map_nil]
theorem hole_app:(z.app sl o ls).app sl (.row (.hole b)) []={z.app sl o ls with rows:=(z.app sl o ls).rows++[.tup [.str "jump",.none,.none]],B:=(z.app sl o ls).B++cond b [(z.app sl o ls).rows.length] [],C:=(z.app sl o ls).C++cond b [] [(z.app sl o ls).rows.length]}:=by
 generalize z.app sl o ls=z
 unfold CS.app Out'.row
 simp only [List.map_nil,List.append_nil]
 induction b using Bool.casesOn <;> rfl
theorem src_eq {k j:Nat} (e:j=k+X.len):(A.r,AObj.list (z.app sl (o.add X) ls).rows)::(A.g,.list (z.app sl (o.add X) ls).rgs)::(A.s,.list ((z.app sl (o.add X) ls).sr++[.tup [.int (k:Nat),.int (j:Nat),.str sh]]))::(A.l,.list (z.app sl (o.add X) ls).lbs)::(LH m (z.app sl (o.add X) ls)++F)=CH A m (z.app sl (o.add (srcO k sh X)) ls)++F:=by
 subst e
 rw [src_app]
 induction m using Option.casesOn <;> rfl
end
section
variable {P:Params} {Po:Post} {Λ:List LJ} {cs q dn:List Tm} {a n p N:Nat} {full o X:Out'} {l:List Nat} {c:Tm} {ls l2:List AV} {sl:Bool} {A:CA} {lp:LP} {z:CS} {F:HL}
noncomputable abbrev PrJ (sl:Bool) (A:CA) (lp:LP) (z:CS) (F:HL) (cs:List Tm) (p:Nat) (full:Out') (l:List Nat):LJ:=Jf (PrC cs z.rows.length z.lbs.length p (lpD lp) full) (fun U t=>CH A lp (z.app sl t.o t.ls)++F) (fun U U=>([.a,.a,.a,.a,.a,.a,.a]:List MV).map id) l
noncomputable def Hn.src (hB:PrB cs z.rows.length z.lbs.length p (lpD lp) full q dn l c o ls) (sh:Str) (ec:put (z.rows.length+o.len) (z.lbs.length+o.n) p (lpD lp) c=srcO (z.rows.length+o.len) sh X) (hl:l2.length=(o.add X).n) (hz:z.lim (szL cs)):Hn P Po (PrJ sl A lp z F cs p full l::Λ):=
 have rm:(z.app sl (o.add X) l2).lim 0:=hz.app hl (by have:=hB.g; have t:=tot_C c (a:=z.rows.length+o.len) (n:=z.lbs.length+o.n) (p:=p) (lp:=lpD lp); rw [ec,tot_src] at t; rw [tot_add]; lia)
 have e:(z.app sl (o.add X) l2).rows.length=z.rows.length+o.len+X.len:=by rw [app_len,len_add,Nat.add_assoc]
 .pl 2<|.pl 0<|.fa (Nat.le_of_lt rm.rows)<|.as (int_len e)<|.pl 2<|.fa rm.sr<|.hp (L:=(A.r,AObj.list (z.app sl (o.add X) l2).rows)::(A.g,.list (z.app sl (o.add X) l2).rgs)::(A.s,.list ((z.app sl (o.add X) l2).sr++[.tup [.int (z.rows.length+o.len:Nat),.int (z.rows.length+o.len+X.len:Nat),.str sh]]))::(A.l,.list (z.app sl (o.add X) l2).lbs)::(LH lp (z.app sl (o.add X) l2)++F))
  (M:=CH A lp (z.app sl (o.add (put (z.rows.length+o.len) (z.lbs.length+o.n) p (lpD lp) c)) l2)++F) (hpE (ec.symm▸src_eq rfl))<|
 .go 0 rfl (.mk (PuS.mk (dn++[c]) q (o.add (put (z.rows.length+o.len) (z.lbs.length+o.n) p (lpD lp) c)) l2) (hB.next (ec.symm▸hl)))
end
theorem nm_S (nm:Nm):AV.str (nmS nm)=.str (S (nmT nm)):=by induction nm using Nm.casesOn <;> kernel_rfl
theorem jmp_in (nm:Nm):(["break","continue"]:List Str).any (·==nmS nm)=(isJmp nm).isSome:=by induction nm using Nm.casesOn <;> kernel_rfl
theorem jmp_brk {nm:Nm} {b:Bool} (h:isJmp nm=some b):(nmS nm==("break":Str))=b:=by induction nm using Nm.casesOn <;> (first | (injection h; done) | cases h) <;> kernel_rfl
theorem jp_or (nm:Nm) (lp:LP) (p:Nat):(∃ b:Bool,isJmp nm=some b∧∃ q:Nat×Nat,lp=some (p,q.1,q.2))∨((∃ b:Bool,isJmp nm=some b)∧∃ q:Nat×Nat×Nat,lp=some q∧q.1≠p)∨((∃ b:Bool,isJmp nm=some b)∧lp=none)∨isJmp nm=none:=by
 induction isJmp nm using Option.casesOn with
 | none=>exact .inr (.inr (.inr rfl))
 | some b=>
  induction lp using Option.casesOn with
  | none=>exact .inr (.inr (.inl ⟨⟨b,rfl⟩,rfl⟩))
  | some q=>
   by_cases h:q.1=p
   ·exact .inl ⟨b,rfl,(q.2.1,q.2.2),by rw [← h]⟩
   ·exact .inr (.inl ⟨⟨b,rfl⟩,q,rfl,h⟩)
theorem callX_no {nm:Nm} {lp:LP} {p:Nat} {o:Out'} (h:((∃ b:Bool,isJmp nm=some b)∧∃ q:Nat×Nat×Nat,lp=some q∧q.1≠p)∨((∃ b:Bool,isJmp nm=some b)∧lp=none)∨isJmp nm=none):callX nm (lpD lp==some p) o=o:=by
 unfold callX
 rcases h with ⟨⟨b,h⟩,q,e,n⟩ | ⟨⟨b,h⟩,e⟩ | h
 ·rw [h,e]; dsimp only; rw [show (lpD (some q)==some p)=false from beq_eq_false_iff_ne.mpr fun z=>n (Option.some.inj z)]; rfl
 ·rw [h,e]; rfl
 ·rw [h]
theorem callX_yes {nm:Nm} {p i1 i2:Nat} {o:Out'} {b:Bool} (h:isJmp nm=some b):callX nm (lpD (some (p,i1,i2))==some p) o=.row (.hole b):=by
 unfold callX
 rw [h,show (lpD (some (p,i1,i2))==some p)=true from beq_self_eq_true _]; rfl
section
variable {P:Params} {N:Nat} {X:Tm->Prop}
theorem jump_eq {sl:Bool} {z:CS} {o:Out'} {ls:List AV} {A:CA} {p i1 i2:Nat} {F:HL} {b:Bool} {lp:LP} (e:lp=some (p,i1,i2)) {k:Nat} (hk:(z.app sl o ls).rows.length=k):(A.r,AObj.list ((z.app sl o ls).rows++[.tup [.str "jump",.none,.none]]))::(A.g,.list (z.app sl o ls).rgs)::(A.s,.list (z.app sl o ls).sr)::(A.l,.list (z.app sl o ls).lbs)::(i1,.list (cond b (natsAv (z.app sl o ls).B++[.int (k:Nat)]) (natsAv (z.app sl o ls).B)))::(i2,.list (cond b (natsAv (z.app sl o ls).C) (natsAv (z.app sl o ls).C++[.int (k:Nat)])))::F=CH A lp (z.app sl (o.add (.row (.hole b))) ls)++F:=by
 have:=app_app (sl:=sl) (z:=z) (o1:=o) (o2:=.row (.hole b)) (l1:=ls) (l2:=[])
 rw [List.append_nil] at this
 rw [← this,hole_app,hk,e]
 unfold CH LH natsAv
 induction b using Bool.casesOn <;> simp only [cond,List.map_append,List.append_nil] <;> rfl
theorem puts_ok (hC:∀ c,X c->PCmdOk P N c):PutsOk P (N+1) X:=fun {sl A lp z p b r} hb hr hz=>
 have al:(avs (b::r)).length=(b::r).length:=avs_len
 have al2:(avs (b::r)).length<=lim:=al▸Nat.le_trans (Nat.le_trans (szL_len (b::r)) (by unfold CS.lim at hz; show 1+b.sz+szL r<=_; lia)) (by decide:300000<=lim)
 have hz:z.lim (szL (b::r)):=hz
 have hX:∀ c∈b::r,X c:=fun c hc=>(List.mem_cons.mp hc).elim (fun e=>e▸hb) (hr c)
 cfd_of (fun d F=>.hp (L:=CH A lp z++F) (M:=CH A lp (z.app sl .nil [])++F) (hpE (by rw [app_nil]))<|.fa al2<|.fa al2<|.fa al2<|
  .fr (fun k:Nat=>.int k) (PrC (b::r) z.rows.length z.lbs.length p (lpD lp) (putX z.rows.length z.lbs.length p (lpD lp) b r)) (fun U t=>CH A lp (z.app sl t.o t.ls)++F) (fun U U=>[.a,.a,.a,.a,.a,.a,.a]) (List.range (avs (b::r)).length) ⟨[],b::r,.nil,[]⟩ ⟨.init al,rfl,Nat.le_of_eq (Nat.zero_add _),.inl ⟨rfl,rfl,rfl⟩⟩
   (fun t h=>have e:=h.all nofun;   .fe t.ls (show t.ls.length=(putX z.rows.length z.lbs.length p (lpD lp) b r).n by rw [e]; exact h.h) (show CH A lp (z.app sl t.o t.ls)++F=CH A lp (z.app sl (putX z.rows.length z.lbs.length p (lpD lp) b r) t.ls)++F by rw [e]) rfl)
   fun x l' t h=>.ex h.f.hd.2 fun c h2=>.ex h2 fun q e=>
    have hat:(b::r)[x]?=some c:=h.f.hd.1▸(e▸h.f:Plc (b::r) (c::q) t.dn (x::l')).at
    have ix {v:AV} (hv:c.av=v):IxS (avs (b::r)) x v:=ixS (by rw [avs_map,List.getElem?_map,hat]; exact congrArg some hv) al2
    have hc:=hC c (hX c (List.mem_of_getElem? hat))
    have rest {o':Out'} (hB:PrB (b::r) z.rows.length z.lbs.length p (lpD lp) (putX z.rows.length z.lbs.length p (lpD lp) b r) q t.dn l' c o' t.ls):Hn P ((putP sl A lp z (putX z.rows.length z.lbs.length p (lpD lp) b r)).fr F) [PrJ sl A lp z F (b::r) p (putX z.rows.length z.lbs.length p (lpD lp) b r) l']:=
     have m1:(z.app sl o' t.ls).lim (c.sz+szL q):=hz.app hB.h hB.g
     have re:(z.app sl o' t.ls).rows.length=z.rows.length+o'.len:=app_len
     have ln:(z.app sl o' t.ls).lbs.length=z.lbs.length+o'.n:=by rw [app_lbs,hB.h]
     .pl 0<|.fa (Nat.le_of_lt m1.rows)<|.as (int_len re)<|.or hc.or
     (fun h3=>.ex h3 fun k ek=>
      have pc:CF P N 1011 [(Tm.each k.lm k.ns k.ws k.b k.r k.sh).av,cdAv sl A,.int p,lpAv lp] (CH A lp (z.app sl o' t.ls)) (putP sl A lp (z.app sl o' t.ls) (eachO k.lm k.ns (z.rows.length+o'.len) (z.lbs.length+o'.n) p (putL (z.rows.length+o'.len) (z.lbs.length+o'.n) p (lpD lp) k.ws) (bodyO (z.rows.length+o'.len+(putL (z.rows.length+o'.len) (z.lbs.length+o'.n) p (lpD lp) k.ws).len+2) (z.lbs.length+o'.n+(putL (z.rows.length+o'.len) (z.lbs.length+o'.n) p (lpD lp) k.ws).n+1) p k.b k.r))) false:=by
       have:=ek.2 (sl:=sl) (A:=A) (lp:=lp) (z:=z.app sl o' t.ls) (p:=p) (ek.1▸m1.less (Nat.le_add_right ..))
       rw [re,ln] at this; exact this
      .ix (ix (congrArg Tm.av ek.1))<|.is (lm_in k.lm)<|.ix (ix (congrArg Tm.av ek.1))<|.pu F (fun U=>d) hB.h pc fun l2 hl=>.src hB k.sh (ek.1▸put_each) hl hz)
     fun h3=>.ex h3 fun k ek=>
      have ec:put (z.rows.length+o'.len) (z.lbs.length+o'.n) p (lpD lp) c=srcO (z.rows.length+o'.len) k.sh (callX k.nm (lpD lp==some p) (callO k.nm k.ws.length (putL (z.rows.length+o'.len+1) (z.lbs.length+o'.n) (p+1) (lpD lp) k.ws))):=ek.1▸rfl
      have hw:(z.app sl o' t.ls).lim (szL k.ws+3):=m1.less (by rw [ek.1,Tm.sz]; lia)
      have wl2:(avs k.ws).length<=lim:=avs_len▸Nat.le_trans ek.2.l (by decide)
      have els (hn:callX k.nm (lpD lp==some p) (callO k.nm k.ws.length (putL (z.rows.length+o'.len+1) (z.lbs.length+o'.n) (p+1) (lpD lp) k.ws))=callO k.nm k.ws.length (putL (z.rows.length+o'.len+1) (z.lbs.length+o'.n) (p+1) (lpD lp) k.ws)):Hn P ((putP sl A lp z (putX z.rows.length z.lbs.length p (lpD lp) b r)).fr F) [PrJ sl A lp z F (b::r) p (putX z.rows.length z.lbs.length p (lpD lp) b r) l']:=
       have zl:(z.app sl (o'.add (.row (.push (nmT k.nm)))) t.ls).lim (szL k.ws+2):=by
        have:=CS.lim.app (sl:=sl) (o:=.row (.push (nmT k.nm))) (ls:=[]) (j:=szL k.ws+2) hw rfl (by show 1+_<=_; lia)
        rwa [app_app,List.append_nil] at this
       .pl 0<|.ro A lp F (row:=.push (nmT k.nm)) rfl (congrArg (fun v=>AV.tup [.str "push",v,.none]) (nm_S k.nm)) hw<|
       .hp (L:=CH A lp (z.app sl (o'.add (.row (.push (nmT k.nm)))) t.ls)++F) (M:=CH A lp ((z.app sl (o'.add (.row (.push (nmT k.nm)))) t.ls).app sl .nil [])++F) (hpE (by rw [app_nil]))<|.fa wl2<|.fa wl2<|.fa wl2<|
       .fr (fun j:Nat=>.int j) (PuC k.ws (z.rows.length+o'.len+1) (z.lbs.length+o'.n) (p+1) (lpD lp)) (fun U u=>CH A lp ((z.app sl (o'.add (.row (.push (nmT k.nm)))) t.ls).app sl u.o u.ls)++F) (fun U U=>[.a]) (List.range (avs k.ws).length) ⟨[],k.ws,.nil,[]⟩ (.init avs_len)
        (fun u hu=>
         have eu:=hu.all
         have ru:((z.app sl (o'.add (.row (.push (nmT k.nm)))) t.ls).app sl u.o u.ls).lim 1:=zl.app hu.h (Nat.le_trans (Nat.add_le_add_right (Nat.le_trans (Nat.le_add_right ..) hu.g) 1) (Nat.le_succ _))
         have eX:(o'.add (.row (.push (nmT k.nm)))).add (u.o.add (.row (.invoke (1+k.ws.length))))=o'.add (callX k.nm (lpD lp==some p) (callO k.nm k.ws.length (putL (z.rows.length+o'.len+1) (z.lbs.length+o'.n) (p+1) (lpD lp) k.ws))):=by rw [hn,eu,add_add]; rfl
         .pl 0<|.fa wl2<|.as (int_len (avs_len (cs:=k.ws)))<|.ro A lp F (z:=z.app sl (o'.add (.row (.push (nmT k.nm)))) t.ls) (o:=u.o) (ls:=u.ls) (row:=.invoke (1+k.ws.length)) rfl rfl ru<|
         .hp (L:=CH A lp ((z.app sl (o'.add (.row (.push (nmT k.nm)))) t.ls).app sl (u.o.add (.row (.invoke (1+k.ws.length)))) u.ls)++F) (M:=CH A lp (z.app sl (o'.add (callX k.nm (lpD lp==some p) (callO k.nm k.ws.length (putL (z.rows.length+o'.len+1) (z.lbs.length+o'.n) (p+1) (lpD lp) k.ws)))) (t.ls++u.ls))++F) (hpE (by rw [app_app,eX]))<|
         .src (l2:=t.ls++u.ls) hB k.sh ec (by rw [← eX,List.length_append,hB.h,hu.h]; rfl) hz)
        fun y l2 u hu=>.ex hu.f.hd.2 fun w h4=>.ex h4 fun q2 e2=>
         have hat2:k.ws[y]?=some w:=hu.f.hd.1▸(e2▸hu.f:Plc k.ws (w::q2) u.dn (y::l2)).at
         have pw:CF P N 1006 [w.av,cdAv sl A,.int (p+1+y:Nat),lpAv lp] (CH A lp ((z.app sl (o'.add (.row (.push (nmT k.nm)))) t.ls).app sl u.o u.ls)) (putP sl A lp ((z.app sl (o'.add (.row (.push (nmT k.nm)))) t.ls).app sl u.o u.ls) (put (z.rows.length+o'.len+1+u.o.len) (z.lbs.length+o'.n+u.o.n) (p+1+u.dn.length) (lpD lp) w)) false:=by
          have:=ek.2.t w (List.mem_of_getElem? hat2) (sl:=sl) (A:=A) (lp:=lp) (p:=p+1+y) (hu.room (sl:=sl) e2 zl)
          rw [app_len,app_len,app_lbs,app_lbs,hu.h,hB.h,at_add,Nat.add_assoc z.lbs.length] at this
          rw [← hu.f.hd.1,Nat.add_assoc z.lbs.length]; exact this
         .ix (avs_at hat2 (Nat.le_succ_of_le ek.2.l) rfl)<|.pu F (fun U=>d) hu.h pw fun l3 hl=>.go 0 rfl (.mk (PuS.mk (u.dn++[w]) q2 (u.o.add (put (z.rows.length+o'.len+1+u.o.len) (z.lbs.length+o'.n+u.o.n) (p+1+u.dn.length) (lpD lp) w)) l3) (hu.next e2 hl))
      have av:=ix (congrArg Tm.av ek.1)
      have jin {b:Bool} (h:isJmp k.nm=some b):(["break","continue"]:List Str).any (·==nmS k.nm)=true:=(jmp_in k.nm).trans (by rw [h]; rfl)
      .or (jp_or k.nm lp p) (fun hj=>.ex hj fun b' hj=>.ex hj.2 fun i ei=>
       have ey:callX k.nm (lpD lp==some p) (callO k.nm k.ws.length (putL (z.rows.length+o'.len+1) (z.lbs.length+o'.n) (p+1) (lpD lp) k.ws))=.row (.hole b'):=by rw [ei]; exact callX_yes hj.1
       .lv "loop" (congrArg lpAv ei)<|.hp (L:=CH A lp (z.app sl o' t.ls)++F) (M:=CH A (some (p,i.1,i.2)) (z.app sl o' t.ls)++F) (hpE (by rw [ei]))<|.ix av<|.is (nm_in k.nm)<|.is (jin hj.1)<|.is (show (!isN (lpAv (some (p,i.1,i.2))))=true from rfl)<|.is (eqT (x:=p) (y:=p) rfl)<|.or (bool_or b')
       (fun hb=>.is ((jmp_brk hj.1).trans hb)<|.pl 4<|.pl 4<|.fa m1.hs.1<|.pl 0<|.pl 0<|.fa m1.rows<|
        .hp (L:=(A.r,AObj.list ((z.app sl o' t.ls).rows++[.tup [.str "jump",.none,.none]]))::(A.g,.list (z.app sl o' t.ls).rgs)::(A.s,.list (z.app sl o' t.ls).sr)::(A.l,.list (z.app sl o' t.ls).lbs)::(i.1,.list (natsAv (z.app sl o' t.ls).B++[.int (z.rows.length+o'.len:Nat)]))::(i.2,.list (natsAv (z.app sl o' t.ls).C))::F) (M:=CH A lp (z.app sl (o'.add (callX k.nm (lpD lp==some p) (callO k.nm k.ws.length (putL (z.rows.length+o'.len+1) (z.lbs.length+o'.n) (p+1) (lpD lp) k.ws)))) t.ls)++F) (hpE (by rw [ey]; subst hb; exact jump_eq (A:=A) (F:=F) (b:=true) ei re))<|.src (l2:=t.ls) hB k.sh ec (by rw [ey]; exact hB.h) hz)
       fun hb=>.is ((jmp_brk hj.1).trans hb)<|.pl 5<|.pl 5<|.fa m1.hs.2<|.pl 0<|.pl 0<|.fa m1.rows<|
        .hp (L:=(A.r,AObj.list ((z.app sl o' t.ls).rows++[.tup [.str "jump",.none,.none]]))::(A.g,.list (z.app sl o' t.ls).rgs)::(A.s,.list (z.app sl o' t.ls).sr)::(A.l,.list (z.app sl o' t.ls).lbs)::(i.1,.list (natsAv (z.app sl o' t.ls).B))::(i.2,.list (natsAv (z.app sl o' t.ls).C++[.int (z.rows.length+o'.len:Nat)]))::F) (M:=CH A lp (z.app sl (o'.add (callX k.nm (lpD lp==some p) (callO k.nm k.ws.length (putL (z.rows.length+o'.len+1) (z.lbs.length+o'.n) (p+1) (lpD lp) k.ws)))) t.ls)++F) (hpE (by rw [ey]; subst hb; exact jump_eq (A:=A) (F:=F) (b:=false) ei re))<|.src (l2:=t.ls) hB k.sh ec (by rw [ey]; exact hB.h) hz)
      fun hj=>
       have ee:=els (callX_no hj)
       .or hj (fun hj=>.ex hj.1 fun b' h4=>.ex hj.2 fun i ei=>.lv "loop" (congrArg lpAv ei.1)<|.ix av<|.is (nm_in k.nm)<|.is (jin h4)<|.is (show (!isN (lpAv (some i)))=true from rfl)<|.is (eqF ei.2)<|.lv "loop" (congrArg lpAv ei.1).symm ee) fun hj=>
       .or hj (fun hj=>.ex hj.1 fun b' h4=>.lv "loop" (congrArg lpAv hj.2)<|.ix av<|.is (nm_in k.nm)<|.is (jin h4)<|.lv "loop" (congrArg lpAv hj.2).symm ee)
       fun hj=>.ix av<|.is (nm_in k.nm)<|.is ((jmp_in k.nm).trans (by rw [hj])) ee
    .or (Nat.eq_zero_or_pos x) (fun hx=>.is (ltF (x:=0) (y:=x) (by rw [hx]; decide))<|rest (h.z e hx))
     fun hx=>.is (ltT (x:=0) (y:=x) hx)<|.pl 0<|.ro A lp F (row:=.pop) rfl rfl (hz.app h.h (Nat.le_trans (Nat.le_add_right ..) h.g):(z.app sl t.o t.ls).lim 0)<|rest (h.s e hx)) (by kernel_rfl)
end
structure MA where
 (m h op ac a c n r g s vs vx vy cm lg se sl ea bk tx ty tl il fi:Nat)
 rows:List AV
 rgs:List Rg
 ss:List (Nat×Nat×Str)
structure EE where
 (n o ls kp:Nat)
 L:LT
 nx:Nat
 ns:List (List Bool)
 kept:List T
structure VM where
 (k pc:Nat)
 st:List T
 s:RS
 (steps spent dp:Nat)
 (sx sy:Bool)
 text:T
noncomputable def machO (A:MA) (steps:Nat) (text:T):AObj:=.inst 296 [("host",.ref A.h),("ops",.ref A.op),("maker",.none),("acts",.ref A.ac),("book",.ref A.bk),("pause",.none),("steps",.int steps),("text",.str (S text))]
noncomputable def actO (A:MA) (pc k:Nat):AObj:=.inst 191 [("code",.ref A.c),("nest",.ref A.n),("pc",.int pc),("stack",.ref k),("slots",.ref A.sl),("each",.ref A.ea),("caught",.tup [.int 0,.str "",.none])]
noncomputable def hostO (A:MA) (dp spent:Nat):AObj:=.inst 593 [("tools",.ref A.tl),("inline",.ref A.il),("limit",.int 40),("fuel",.none),("depth",.int dp),("spent",.int spent),("epoch",.int 0),("frame",.none),("coroutine",.none),("vars",.ref A.vs),("commands",.ref A.cm),("firsts",.ref A.fi)]
noncomputable def varO (t:T) (n tr:Nat):AObj:=.inst 345 [("kind",.str "scalar"),("value",.str (S t)),("traces",.ref tr),("is_busy",.bool false),("is_element",.bool false),("writes",.int n)]
noncomputable def cmdV (A:MA):AV:=.tup [.fn 1025,.tup [.ref A.lg,.ref A.se,.ref A.m]]
noncomputable def cmdsD (A:MA):List (AV×AV):=[(.str "rec",cmdV A),(.str "put",cmdV A),(.str "stop",cmdV A),(.str "break",cmdV A),(.str "continue",cmdV A)]
noncomputable def opsD:List (AV×AV):=[(.str "push",.fn 722),(.str "pop",.fn 729),(.str "load",.fn 736),(.str "load_name",.fn 743),(.str "load_element",.fn 750),(.str "store",.fn 757),(.str "store_name",.fn 764),(.str "store_element",.fn 771),(.str "join",.fn 778),(.str "invoke",.fn 792),(.str "start",.fn 806),(.str "jump",.fn 813),(.str "fail",.fn 820),
 (.str "each_start",.fn 855),(.str "each_step",.fn 869),(.str "each_take",.fn 876),(.str "each_end",.fn 883)]
noncomputable def codeO (A:MA):AObj:=.inst 324 [("rows",.ref A.r),("ranges",.ref A.g),("names",.lst [.str "x",.str "y"]),("sources",.ref A.s),("epoch",.int 0)]
noncomputable def nestO:AObj:=.inst 105 [("script",.str ""),("back",.none),("is_proc",.bool false),("label",.str "")]
noncomputable def eachB (e:EE):AObj:=.inst 844 [("groups",.tup (e.ns.map namesAv)),("lists",.ref e.ls),("at",.int e.nx),("kept",.ref e.kp)]
noncomputable abbrev ekv (e:EE):AV×AV:=(.int e.n,.ref e.o)
noncomputable def esD (X:List EE):List (AV×AV):=X.reverse.map ekv
noncomputable def eH (e:EE):HL:=(e.o,eachB e)::(e.ls,.list (idsL e.L))::(e.kp,.list (strsL e.kept))::itH e.L
noncomputable def esH:List EE->HL
 | []=>[]
 | e::X=>eH e++esH X
noncomputable def slotAv (b:Bool) (i:Nat):AV:=cond b (.ref i) .none
noncomputable def MHg (A:MA) (acts:List AV) (v:VM) (D:List (AV×AV)):HL:=
 (A.m,machO A v.steps v.text)::(A.ac,.list acts)::(A.a,actO A v.pc v.k)::(v.k,.list (strsL v.st))::(A.ea,.dict D)::(A.h,hostO A v.dp v.spent)::
 (A.vs,.dict [(.str "x",.ref A.vx),(.str "y",.ref A.vy)])::(A.vx,varO v.s.x v.s.nx A.tx)::(A.vy,varO v.s.y v.s.ny A.ty)::(A.cm,.dict (cmdsD A))::(A.op,.dict opsD)::(A.c,codeO A)::
 (A.r,.list A.rows)::(A.g,.list (A.rgs.map rgAv))::(A.s,.list (A.ss.map srAv))::(A.n,nestO)::(A.lg,.list (logAv v.s.log))::(A.se,.list (List.replicate v.s.log.length (.ref A.a)))::
 [(A.sl,.list [slotAv v.sx A.vx,slotAv v.sy A.vy])]
noncomputable abbrev MH (A:MA) (v:VM) (D:List (AV×AV)):HL:=MHg A [.ref A.a] v D
noncomputable def MA.var (A:MA) (y:Bool):Nat:=cond y A.vy A.vx
noncomputable def VM.slot (v:VM) (y:Bool):VM:={v with sx:=cond y v.sx true,sy:=cond y true v.sy}
noncomputable def Hn.cF {P:Params} {Po:Post} {Λ:List LJ} {n:Nat} {a:Addr} {xs:List AV} {A:HL} {p:Post} {z:Bool} (F:HL) (h:CF P n a xs A p z) (r:∀ x,p.R x->Hn P Po Λ):Hn P Po Λ:=.cg F (fun d=>d - n) h r
noncomputable def Hn.cO {P:Params} {Po:Post} {Λ:List LJ} {n:Nat} {a:Addr} {xs:List AV} {A M:HL} {o:Out} {z:Bool} (F:HL) (h:CF P n a xs A (.one M o) z) (r:Hn P Po Λ):Hn P Po Λ:=.cF F h fun U U=>r
noncomputable abbrev MC (P:Params) (n:Nat) (a:Addr) (xs:List AV) (A:MA) (D:List (AV×AV)) (v v':VM) (r:AV):Prop:=CF P n a xs (MH A v D) (.one (MH A v' D) (.ok r)) false
noncomputable abbrev MG (P:Params) (n:Nat) (a:Addr) (xs:List AV) (A:MA) (D:List (AV×AV)) (ac:List AV) (v:VM) (r:AV):Prop:=CF P n a xs (MHg A ac v D) (.one (MHg A ac v D) (.ok r)) false
theorem nin_of {L:HL} {k i:Nat} {kvs:List (AV×AV)} {x:Str} {r:Option AV} {b:Bool} (e:L[k]?=some (i,.dict kvs)) (g:getD kvs (.str x)=some r) (hb:(!r.isSome)=b):CmpH L .NotIn (.str x) (.ref i) (.bool b):=⟨_,rfl,fun σ h=>hb▸.nin (.d (h.at e) g)⟩
theorem vars_get (A:MA) (y:Bool):getD [(.str "x",.ref A.vx),(.str "y",.ref A.vy)] (.str (vS y))=some (some (.ref (A.var y))):=by induction y using Bool.casesOn <;> kernel_rfl
theorem stk_lt {l:List T} (h:l.length<=99999):(strsL l).length<lim:=strsL_len▸Nat.lt_of_le_of_lt h (by decide)
noncomputable def Hn.psh {P:Params} {Po:Post} {Λ:List LJ} (st:List T) (t:T) (h:st.length<=99999) (r:Hn P Po Λ):Hn P Po Λ:=.pl 3<|.fa (stk_lt h)<|.ed 3 (congrArg AObj.list (ts_app st t)) r
theorem pop_st {l:List T} {t:T} (h:l.length<=99999):PopS (.list (strsL (l++[t]))) (.tup [.str (S t),.lst (strsL l)]):=strsL_app (a:=l) (b:=[t])▸.mk (stk_lt h)
section
variable {P:Params} (A:MA) (D:List (AV×AV)) (v:VM) (y:Bool) (t:T) (w:AV)
theorem place_spec (ac:List AV:=[.ref A.a]):MG P 2 505 [.ref A.h,.str (vS y)] A D ac v (.ref (A.var y)):=cf_of (fun F=>.pl 5<|.il<|.ch (nin_of (L:=MHg A ac v D++F) (k:=6) rfl (vars_get A y) rfl)<|.pl 6<|.ix (show GdS _ _ _ from vars_get A y) .ok) (by kernel_rfl)
theorem read_var_spec (ac:List AV:=[.ref A.a]):MG P 1 512 [.ref A.h,.ref (A.var y),w] A D ac v (.str (S (v.s.var y))):=match y with
 | false=>cf_of (fun F=>.pl 7<|.pl 7 .ok) (by kernel_rfl)
 | true=>cf_of (fun F=>.pl 8<|.pl 8 .ok) (by kernel_rfl)
theorem read_spec (ac:List AV:=[.ref A.a]):MG P 3 526 [.ref A.h,.str (vS y)] A D ac v (.str (S (v.s.var y))):=cf_of (fun F=>.pl 5<|.pl 5<|.cO F (place_spec A D v y ac)<|.cO F (read_var_spec A D v y (.str (vS y)) ac) .ok) (by kernel_rfl)
theorem stamp_spec (ac:List AV:=[.ref A.a]):MG P 3 547 [.ref A.h,.str (vS y)] A D ac v (.int (v.s.cnt y)):=match y with
 | false=>cf_of (fun F=>.pl 5<|.cO F (place_spec A D v false ac)<|.pl 7 .ok) (by kernel_rfl)
 | true=>cf_of (fun F=>.pl 5<|.cO F (place_spec A D v true ac)<|.pl 8 .ok) (by kernel_rfl)
theorem write_spec:MC P 3 533 [.ref A.h,.str (vS y),.str (S t)] A D v {v with s:=v.s.wr y t} (.str (S t)):=match y with
 | false=>cf_of (fun F=>.pl 5<|.pl 5<|.cO F (place_spec A D v false)<|.il<|.il<|.pl 7<|.pl 7<|.pl 7<|.pl 7 .ok) (by kernel_rfl)
 | true=>cf_of (fun F=>.pl 5<|.pl 5<|.cO F (place_spec A D v true)<|.il<|.il<|.pl 8<|.pl 8<|.pl 8<|.pl 8 .ok) (by kernel_rfl)
theorem ik2 {a b:AV} {i:Nat} (h:i<2):IkS [a,b] i:=⟨h,leK rfl⟩
theorem slot_spec:MC P 3 708 [.ref A.m,.ref A.a,.int (cond y 1 0:Nat),.str (vS y)] A D v (v.slot y) (.ref (A.var y)):=by
 obtain ⟨k,pc,st,s,steps,spent,dp,sx,sy,text⟩:=v
 induction y using Bool.casesOn
 ·induction sx using Bool.casesOn
  ·exact cf_of (fun F=>.pl 2<|.pl 18<|.pl 0<|.pl 5<|.cO F (place_spec A D ⟨k,pc,st,s,steps,spent,dp,false,sy,text⟩ false)<|.pl 2<|.pl 18<|.fa (ik2 (a:=.none) (b:=slotAv sy A.vy) (i:=0) (by decide))<|.pl 2<|.pl 18 .ok) (by kernel_rfl)
  ·exact cf_of (fun F=>.pl 2<|.pl 18<|.pl 2<|.pl 18 .ok) (by kernel_rfl)
 ·induction sy using Bool.casesOn
  ·exact cf_of (fun F=>.pl 2<|.pl 18<|.pl 0<|.pl 5<|.cO F (place_spec A D ⟨k,pc,st,s,steps,spent,dp,sx,false,text⟩ true)<|.pl 2<|.pl 18<|.fa (ik2 (a:=slotAv sx A.vx) (b:=.none) (i:=1) (by decide))<|.pl 2<|.pl 18 .ok) (by kernel_rfl)
  ·exact cf_of (fun F=>.pl 2<|.pl 18<|.pl 2<|.pl 18 .ok) (by kernel_rfl)
theorem push_spec (h:v.st.length<=99999):MC P 1 722 [.ref A.m,.ref A.a,.str (S t),w] A D v {v with st:=v.st++[t]} .none:=cf_of (fun F=>.pl 2<|.pl 3<|.psh v.st t h .ok) (by kernel_rfl)
theorem popop_spec {st:List T} {u:AV} (e:v.st=st++[t]) (h:st.length<=99999):MC P 1 729 [.ref A.m,.ref A.a,u,w] A D v {v with st:=st} .none:=cf_of (fun F=>.pl 2<|.pl 3<|.pl 3<|.v (show PopS (.list (strsL v.st)) _ from e▸pop_st h) .ok) (by kernel_rfl)
theorem load_spec (h:v.st.length<=99999):MC P 4 736 [.ref A.m,.ref A.a,.int (cond y 1 0:Nat),.str (vS y)] A D v {v.slot y with st:=v.st++[v.s.var y]} .none:=cf_of (fun F=>.pl 2<|.pl 3<|.pl 0<|.pl 5<|.cO F (slot_spec A D v y)<|.cO F (read_var_spec A D (v.slot y) y (.str (vS y)))<|.psh v.st (v.s.var y) h .ok) (by kernel_rfl)
theorem load_name_spec (h:v.st.length<=99999):MC P 4 743 [.ref A.m,.ref A.a,.str (vS y),w] A D v {v with st:=v.st++[v.s.var y]} .none:=cf_of (fun F=>.pl 2<|.pl 3<|.pl 0<|.pl 5<|.cO F (read_spec A D v y)<|.psh v.st (v.s.var y) h .ok) (by kernel_rfl)
end
noncomputable def bkO (k:Nat):HL->HL×List Chk
 | e::r=>(r.take k++e::r.drop k,[])
 | []=>([],[])
theorem bkO_ok {k:Nat}:∀ (K:HL) (σ:AHeap),H σ K->H σ (bkO k K).1
 | [],_,z=>z
 | e::r,_,z=>z.perm (by have:=(List.perm_middle (a:=e) (l₁:=r.take k) (l₂:=r.drop k)).symm; rwa [List.take_append_drop] at this)
noncomputable def Hn.bk {P:Params} {Po:Post} {Λ:List LJ} (k:Nat) (r:Hn P Po Λ):Hn P Po Λ:=.hs ⟨bkO k,fun K U=>bkO_ok K⟩ r
theorem joinL_flat:∀ ls:List T,joinL [] ls=ls.flatten
 | []=>rfl
 | [x]=>(List.append_nil x).symm
 | x::y::r=>by
  show x++[]++joinL [] (y::r)=x++(y::r).flatten
  rw [List.append_nil,joinL_flat (y::r)]
theorem sum_le {b:Nat}:∀ {ls:List T},(∀ l∈ls,l.length<=b)->(ls.map (·.length)).sum<=ls.length*b
 | [],_=>Nat.zero_le _
 | x::r,h=>by
  rw [List.length_cons,Nat.succ_mul,Nat.add_comm]
  exact Nat.add_le_add (h x (.head _)) (sum_le fun l hl=>h l (.tail _ hl))
theorem flatJ {ts:List T} (h3:ts.length<=3) (ht:∀ t∈ts,t.length<=100):JnS "" (strsL ts) (.str (S ts.flatten)):=by
 rw [← joinL_flat]
 exact joinS (sep:=[]) (by unfold strsL; rw [List.map_map]; rfl) (joinOk_S (lim_le (Nat.le_trans (Nat.add_le_add_right (Nat.le_trans (sum_le ht) (Nat.mul_le_mul_right 100 h3)) _) (by rw [List.length_nil,Nat.mul_zero]; decide))))
noncomputable abbrev MX (P:Params) (n:Nat) (a:Addr) (xs:List AV) (A:MA) (D:List (AV×AV)) (v:VM) (f:Nat->VM) (r:AV):Prop:=CF P n a xs (MH A v D) ⟨Nat,fun U=>True,fun j=>MH A (f j) D,fun U=>.ok r⟩ false
noncomputable def Hn.cX {P:Params} {Po:Post} {Λ:List LJ} {n:Nat} {a:Addr} {xs:List AV} {A:MA} {D:List (AV×AV)} {v:VM} {f:Nat->VM} {w:AV} (F:HL) (h:MX P n a xs A D v f w) (r:Nat->Hn P Po Λ):Hn P Po Λ:=.cF F h fun j U=>r j
section
variable {P:Params} (A:MA) (D:List (AV×AV)) (v:VM)
theorem taken_spec {st ts:List T} (e:v.st=st++ts) (h:v.st.length<=99999):MX P 1 715 [.ref A.a,.int ts.length] A D v (fun j=>{v with k:=j,st:=st}) (.lst (strsL ts)):=
 have hl:(strsL v.st).length<=lim:=Nat.le_of_lt (stk_lt h)
 have e1:AV.lst ((strsL v.st).drop st.length)=.lst (strsL ts):=by rw [e,strsL_app,← strsL_len (ls:=st),List.drop_left]
 have e2:AObj.list ((strsL v.st).take st.length)=.list (strsL st):=by rw [e,strsL_app,← strsL_len (ls:=st),List.take_left]
 have e3:(strsL v.st).length=st.length+ts.length:=by rw [strsL_len,e,List.length_append]
 cf_of (fun F=>.pl 2<|.pl 3<|.fa hl<|.bi (subB (x:=(strsL v.st).length) (y:=ts.length) e3)<|.pl 2<|.pl 3<|.fa hl<|.as e1<|.pl 2<|.pl 3<|.fa hl<|.nw fun j=>.pl 3<|.ed 0 e2<|.dr 4<|.bk 3<|.fin j trivial) (by kernel_rfl)
theorem join_spec {st ts:List T} {w:AV} (e:v.st=st++ts) (h:v.st.length<=99999) (h3:ts.length<=3) (ht:∀ t∈ts,t.length<=100):MX P 2 778 [.ref A.m,.ref A.a,.int ts.length,w] A D v (fun j=>{v with k:=j,st:=st++[ts.flatten]}) .none:=
 have hs:st.length<=99999:=Nat.le_trans (by rw [e,List.length_append]; exact Nat.le_add_right ..) h
 cf_of (fun F=>.cX F (taken_spec A D v e h) fun j=>.pl 2<|.pl 3<|.v (flatJ h3 ht)<|.psh st ts.flatten hs<|.fin j trivial) (by kernel_rfl)
theorem jump_spec {to:Nat} {w:AV}:MX P 3 813 [.ref A.m,.ref A.a,.int to,w] A D v (fun n=>{v with pc:=to,spent:=n}) .none:=
 cf_of (fun F=>.il<|.or (Nat.lt_or_ge to v.pc) (fun h=>.pl 2<|.is (ltT h)<|.pl 0<|.pl 5<|.il<|.pl 5<|.pl 5<|.pl 5<|.pl 2<|.fin (v.spent+1) trivial)
  fun h=>.pl 2<|.is (ltF (Nat.not_lt.mpr h))<|.pl 2<|.fin v.spent trivial) (by kernel_rfl)
noncomputable def mpM (A:MA) (D:List (AV×AV)) (v:VM) (r:Ex T×RS) (x:Nat×Nat):HL:=match r with
 | (.ok _,s)=>MH A {v with s:=s} D
 | (.ex c w,s)=>(x.1,exc0 c w ecN x.2)::MH A {v with s:=s} D
noncomputable def MPost (A:MA) (D:List (AV×AV)) (v:VM) (r:Ex T×RS):Post:=⟨Nat×Nat,fun U=>True,mpM A D v r,rpO r⟩
noncomputable def Hn.me {P:Params} {F:HL} {Λ:List LJ} {A:MA} {D:List (AV×AV)} {v:VM} {r r':Ex T×RS} (e:r=r') (x:Nat×Nat):Hn P ((MPost A D v r).fr F) Λ:=.fe x trivial (M:=mpM A D v r' x++F) (o:=rpO r' x) (congrArg (fun r=>mpM A D v r x++F) e.symm) (congrArg (fun r=>rpO r x) e.symm)
noncomputable def Hn.rm {P:Params} {Po:Post} {Λ:List LJ} {n:Nat} {ad:Addr} {xs:List AV} {B:HL} {A:MA} {D:List (AV×AV)} {v:VM} {r:Ex T×RS} {z:Bool} (F:HL) (h:CF P n ad xs B (MPost A D v r) z) (f:∀ w s,r=(.ok w,s)->Hn P Po Λ) (g:∀ c w s,r=(.ex c w,s)->∀ x:Nat×Nat,Hn P Po Λ):Hn P Po Λ:=
 .or (ex_or r) (fun h1=>.ex h1 fun q e=>.cF F ((congrArg (fun r=>CF P n ad xs B (MPost A D v r) z) e).mp h:CF P n ad xs B (MPost A D v (.ok q.1,q.2)) z) fun U U=>f q.1 q.2 e)
  fun h1=>.ex h1 fun q e=>.cF F ((congrArg (fun r=>CF P n ad xs B (MPost A D v r) z) e).mp h:CF P n ad xs B (MPost A D v (.ex q.1 q.2.1,q.2.2)) z) fun x U=>g q.1 q.2.1 q.2.2 e x
theorem lastX {a:AV}:IxS [a] (-1) a:=⟨0,.m (k:=1) (n:=1) ⟨Nat.one_pos,Nat.le_refl 1⟩ (by decide),rfl⟩
theorem mulB0:BinS .Mult (.int 1000) (.int 0) (.int 0):=fun z σ Q q=>.mi (by decide +kernel) (by decide +kernel) q
theorem seen_app (n:Nat) (a:AV):List.replicate n a++[a]=List.replicate (n+1) a:=List.replicate_succ'.symm
theorem act_spec {dl:Nat} {nm:Nm} {ts:List T} (hk:OkI dl nm ts) (hlog:v.s.log.length<=90000) (hst:v.st.length<=99999):CF P 4 1025 [.ref A.h,.lst (strsL (nmT nm::ts)),.tup [.ref A.lg,.ref A.se,.ref A.m]] (MH A v D) (MPost A D v (doIt nm ts v.st.length v.s)) true:=by
 induction hk using OkI.casesOn with
 | @re u w hu _ hw=>exact cfn_of (fun F=>.pl 0<|.pl 0<|.pl 1<|.fa (leK rfl:[AV.ref A.a].length<=lim)<|.pl 1<|.pl 17<|.pl 17<|.fa (show (List.replicate v.s.log.length (AV.ref A.a)).length<lim from List.length_replicate.symm▸Nat.lt_of_le_of_lt hlog (by decide))<|.ed 17 (congrArg AObj.list (show List.replicate v.s.log.length (AV.ref A.a)++[.ref A.a]=List.replicate (v.s.log++[([u,w],v.st.length)]).length (.ref A.a) by rw [seen_app,len_app]))<|
   .pl 16<|.fa (leK rfl:[AV.str (S (nmT .re)),.str (S u),.str (S w)].length<=lim)<|.fa (leK rfl:[AV.str (S u),.str (S w)].length<=lim)<|.pl 2<|.pl 3<|.fa (Nat.le_of_lt (stk_lt hst))<|.as (int_len (strsL_len (ls:=v.st)))<|.pl 0<|.pl 1<|.fa (leK rfl:[AV.ref A.a].length<=lim)<|.bi (subB (x:=1) (y:=1) (n:=0) rfl)<|.bi mulB0<|.pl 16<|.fa (log_len hlog)<|.ed 16 (congrArg AObj.list (log_app v.s.log [u,w] v.st.length))<|.me rfl (0,0)) (by kernel_rfl)
 | @put y w hw=>
  have e:doIt .put [vT y,w] v.st.length v.s=(.ok w,v.s.wr y w):=by induction y using Bool.casesOn <;> rfl
  have ws:MC P 3 533 [.ref A.h,.str (S (vT y)),.str (S w)] A D v {v with s:=v.s.wr y w} (.str (S w)):=vS_T y▸write_spec A D v y w
  rw [e]
  exact cfn_of (fun F=>.pl 5<|.cO F ws<|.me rfl (0,0)) (by kernel_rfl)
 | @stop u hu=>
  rcases Nat.eq_zero_or_pos (stopC u) with h | h
  ·rw [show doIt .stop [u] v.st.length v.s=(.ok u,v.s) from if_pos h]
   exact cfn_of (fun F=>.nw fun U=>.pl 0<|.dr 0<|.nw fun U=>.pl 0<|.pl 0<|.ix (stop_get u)<|.dr 0<|.is (ltF (x:=0) (y:=stopC u) (by rw [h]; decide))<|.me rfl (0,0)) (by kernel_rfl)
  ·rw [show doIt .stop [u] v.st.length v.s=(.ex (stopC u) [],v.s) from if_neg (Nat.ne_of_gt h)]
   exact cfn_of (fun F=>.nw fun U=>.pl 0<|.dr 0<|.nw fun U=>.pl 0<|.pl 0<|.ix (stop_get u)<|.dr 0<|.is (ltT (x:=0) (y:=stopC u) h)<|.xc fun i el=>.pl 1<|.dr 0<|.me rfl (i,el)) (by kernel_rfl)
 | brk=>exact cfn_of (fun F=>.nw fun U=>.pl 0<|.dr 0<|.xc fun i el=>.pl 1<|.dr 0<|.me rfl (i,el)) (by kernel_rfl)
 | cnt=>exact cfn_of (fun F=>.nw fun U=>.pl 0<|.dr 0<|.xc fun i el=>.pl 1<|.dr 0<|.me rfl (i,el)) (by kernel_rfl)
theorem cmds_get (nm:Nm):getD (cmdsD A) (.str (S (nmT nm)))=some (some (cmdV A)):=by induction nm using Nm.casesOn <;> kernel_rfl
theorem begin_spec {dl:Nat} {nm:Nm} {ts:List T} (hk:OkI dl nm ts) (hlog:v.s.log.length<=90000) (hst:v.st.length<=99999):CF P 6 590 [.ref A.h,.lst (strsL (nmT nm::ts))] (MH A v D) (MPost A D {v with spent:=v.spent+1} (doIt nm ts v.st.length v.s)) true:=
 have hl:(strsL (nmT nm::ts)).length<=lim:=strsL_len▸Nat.le_trans (Nat.succ_le_succ (okI_len hk)) (by decide)
 cfn_of (fun F=>.ix (show IxS (strsL (nmT nm::ts)) 0 (.str (S (nmT nm))) from ixS (k:=0) rfl hl)<|.pl 5<|.ch (nin_of (L:=MH A v D++F) (k:=9) rfl (cmds_get A nm) rfl)<|.pl 5<|.il<|.pl 5<|.pl 5<|.pl 5<|.pl 5<|.ix (show IxS (strsL (nmT nm::ts)) 0 (.str (S (nmT nm))) from ixS (k:=0) rfl hl)<|.pl 9<|.ix (show GdS _ _ _ from cmds_get A nm)<|.il<|
  .rm F (act_spec A D {v with spent:=v.spent+1} hk hlog hst) (fun w s e=>.me e (0,0)) fun c w s e x=>.me e x) (by kernel_rfl)
noncomputable def ivM (A:MA) (D:List (AV×AV)) (v:VM) (st:List T) (r:Ex T×RS) (x:Nat×Nat×Nat):HL:=match r with
 | (.ok u,s)=>MH A {v with k:=x.1,st:=st++[u],spent:=v.spent+1,s:=s} D
 | (.ex c u,s)=>(x.2.1,exc0 c u ecN x.2.2)::MH A {v with k:=x.1,st:=st,spent:=v.spent+1,s:=s} D
noncomputable def ivO (r:Ex T×RS) (x:Nat×Nat×Nat):Out:=match r with
 | (.ok _,_)=>.ok .none
 | (.ex _ _,_)=>.er x.2.1
noncomputable def IPost (A:MA) (D:List (AV×AV)) (v:VM) (st:List T) (r:Ex T×RS):Post:=⟨Nat×Nat×Nat,fun U=>True,ivM A D v st r,ivO r⟩
noncomputable def Hn.ie {F:HL} {Λ:List LJ} {st:List T} {r r':Ex T×RS} (e:r=r') (x:Nat×Nat×Nat):Hn P ((IPost A D v st r).fr F) Λ:=.fe x trivial (M:=ivM A D v st r' x++F) (o:=ivO r' x) (congrArg (fun r=>ivM A D v st r x++F) e.symm) (congrArg (fun r=>ivO r x) e.symm)
theorem invoke_spec {dl:Nat} {nm:Nm} {st ts:List T} {w:AV} (hk:OkI dl nm ts) (hlog:v.s.log.length<=90000) (hst:v.st.length<=99999) (e:v.st=st++nmT nm::ts):CF P 8 792 [.ref A.m,.ref A.a,.int (1+ts.length:Nat),w] (MH A v D) (IPost A D v st (doIt nm ts st.length v.s)) true:=
 have hl:(strsL (nmT nm::ts)).length<=lim:=strsL_len▸Nat.le_trans (Nat.succ_le_succ (okI_len hk)) (by decide)
 have hs:st.length<=99999:=Nat.le_trans (by rw [e,List.length_append]; exact Nat.le_add_right ..) hst
 have tk:MX P 1 715 [.ref A.a,.int (1+ts.length:Nat)] A D v (fun j=>{v with k:=j,st:=st}) (.lst (strsL (nmT nm::ts))):=Nat.add_comm ts.length 1▸taken_spec (P:=P) A D v e hst
 cfn_of (fun F=>.cX F tk fun j=>.il<|.fa hl<|.is (eqF (x:=(strsL (nmT nm::ts)).length) (y:=0) nofun)<|.pl 0<|.pl 0<|.pl 5<|
  .rm F (begin_spec A D {v with k:=j,st:=st} hk hlog hs) (fun u s er=>.il<|.pl 0<|.il<|.pl 0<|.pl 0<|.pl 1<|.fa (leK rfl:[AV.ref A.a].length<=lim)<|.pl 0<|.pl 1<|.ix (lastX (a:=.ref A.a))<|.pl 2<|.pl 3<|.psh st u hs<|.ie A D v er (j,0,0))
   fun c u s er x=>.ie A D v er (j,x.1,x.2)) (by kernel_rfl)
end
noncomputable def KL (n:Nat) (X:List EE):Prop:=∀ e∈X,e.n<n
theorem key_all (n:Nat):∀ L:List EE,(L.map ekv).all (fun e=>keyOk (AV.int n) e.1)=true
 | []=>rfl
 | _::L=>key_all n L
theorem key_ne {n m:Nat} (h:m≠n):keyIs (.int n) (.int m)=false:=eqF fun z=>h z.symm
theorem key_find {n:Nat} {R:List (AV×AV)}:∀ {L:List EE},(∀ e∈L,e.n≠n)->(L.map ekv++R).find? (fun e=>keyIs (AV.int n) e.1)=R.find? (fun e=>keyIs (AV.int n) e.1)
 | [],_=>rfl
 | e::L,h=>by
  show (match keyIs (.int n) (.int e.n) with | true=>some (ekv e) | false=>(L.map ekv++R).find? _)=_
  rw [key_ne (h e (.head _))]
  exact key_find fun e he=>h e (.tail _ he)
theorem key_put {n:Nat} {v:AV}:∀ {L:List EE},(∀ e∈L,e.n≠n)->putD (L.map ekv) (.int n) v=L.map ekv++[(.int n,v)]
 | [],_=>rfl
 | e::L,h=>by
  show (if keyIs (.int n) (.int e.n)=true then _ else _)=_
  rw [key_ne (h e (.head _)),if_neg (by decide),key_put fun e he=>h e (.tail _ he)]; rfl
theorem key_del {n:Nat} {v:AV}:∀ {L:List EE},(∀ e∈L,e.n≠n)->delD (L.map ekv++[(.int n,v)]) (.int n)=L.map ekv
 | [],_=>if_pos (beq_self_eq_true (n:Int))
 | e::L,h=>by
  show (if keyIs (.int n) (.int e.n)=true then _ else _)=_
  rw [key_ne (h e (.head _)),if_neg (by decide)]
  exact congrArg (ekv e::·) (key_del fun e he=>h e (.tail _ he))
theorem KL.ne {n:Nat} {X:List EE} (h:KL n X):∀ e∈X.reverse,e.n≠n:=fun e he=>Nat.ne_of_lt (h e (List.mem_reverse.mp he))
theorem esD_cons (e:EE) (X:List EE):esD (e::X)=esD X++[(.int e.n,.ref e.o)]:=by unfold esD; rw [List.reverse_cons,List.map_append]; rfl
theorem es_len (X:List EE):(esD X).length=X.length:=by unfold esD; rw [List.length_map,List.length_reverse]
theorem getD_of {kvs:List (AV×AV)} {n:Nat} {r:Option (AV×AV)} (h:kvs.all (fun e=>keyOk (AV.int n) e.1)=true) (k:kvs.find? (fun e=>keyIs (AV.int n) e.1)=r):getD kvs (.int n)=some (r.map (·.2)):=by unfold getD; rw [if_pos h,k]
theorem es_new {n:Nat} {X:List EE} (h:KL n X):getD (esD X) (.int n)=some none:=by
 have:=key_find (R:=[]) h.ne
 rw [List.append_nil] at this
 exact getD_of (key_all n _) this
theorem es_get {e:EE} {X:List EE} (h:KL e.n X):getD (esD (e::X)) (.int e.n)=some (some (.ref e.o)):=by
 rw [esD_cons]
 have h1:(esD X++[(AV.int e.n,AV.ref e.o)]).all (fun x=>keyOk (AV.int e.n) x.1)=true:=by rw [List.all_append,show (esD X).all (fun x=>keyOk (AV.int e.n) x.1)=true from key_all _ _]; rfl
 have h2:[(AV.int e.n,AV.ref e.o)].find? (fun x=>keyIs (AV.int e.n) x.1)=some (.int e.n,.ref e.o):=by rw [List.find?_cons,show keyIs (.int e.n) (.int e.n)=true from beq_self_eq_true (e.n:Int)]
 exact getD_of h1 ((key_find h.ne).trans h2)
noncomputable def remA (nx:Nat) (ns:List (List Bool)) (its:List (List T)):List (List T):=ns.zipWith (fun m l=>l.drop (nx*m.length)) its
structure EOk (e:EE):Prop where
 n:e.ns.length=e.L.length
 l:e.ns.length<=2
 g:∀ m∈e.ns,0<m.length∧m.length<=2
 v:∀ a∈itT e.L,∀ u∈a,isV u
 k:∀ a∈itT e.L,a.length<=3
 x:e.nx<=3
noncomputable def EE.es (e:EE):Nat×ES:=(e.n,⟨e.ns,remA e.nx e.ns (itT e.L),e.kept⟩)
theorem remA_next (nx:Nat):∀ (ns:List (List Bool)) (its:List (List T)) (s:RS),ns.length=its.length->(nextA ns (remA nx ns its) s).1=remA (nx+1) ns its
 | [],_,_,_=>rfl
 | m::ns,its,s,h=>by
  induction its using List.casesOn with | nil=>injection h | cons l its=>?_
  show (nextG m (l.drop (nx*m.length)) s).1::_=l.drop ((nx+1)*m.length)::_
  rw [nextG_1,List.drop_drop,Nat.succ_mul]
  exact congrArg _ (remA_next nx ns its _ (Nat.succ.inj h))
theorem inMH {A:HL} {x:Nat×AObj} {F:HL} (σ:AHeap) (h:H σ (x::(A++F))):H σ (A++x::F):=h.perm List.perm_middle.symm
theorem outMH {A:HL} {x:Nat×AObj} {F:HL} (σ:AHeap) (h:H σ (A++x::F)):H σ (x::(A++F)):=h.perm List.perm_middle
theorem CF.fst {P:Params} {n:Nat} {a:Addr} {xs:List AV} {A:HL} {p:Post} {z:Bool} (h:CF P n a xs A p z) (x:Nat×AObj):CF P n a xs (x::A) ⟨p.α,p.R,fun y=>x::p.M y,p.o⟩ z:=
 fun d hd F hz Q E k σ hσ=>h d hd (x::F) hz Q E (fun y r σ' h'=>k y r σ' (outMH σ' h')) σ (inMH σ hσ)
noncomputable def stM (A:MA) (X:List EE) (v:VM) (st:List T) (r:Option (List (List T))) (x:Nat×EE×Nat×Nat):HL:=match r with
 | some _=>MH A {v with k:=x.1,st:=st} (esD (x.2.1::X))++eH x.2.1
 | none=>(x.2.2.1,exc0 1 uobT ecB x.2.2.2)::MH A {v with k:=x.1,st:=st} (esD X)
noncomputable def stO (r:Option (List (List T))) (x:Nat×EE×Nat×Nat):Out:=match r with
 | some _=>.ok .none
 | none=>.er x.2.2.1
inductive StR (n:Nat) (ns:List (List Bool)) (r:Option (List (List T))) (x:Nat×EE×Nat×Nat):Prop
 | ok {L:LT} {o ls kp:Nat} (e:r=some (itT L)) (h:x.2.1=⟨n,o,ls,kp,L,0,ns,[]⟩)
 | no (e:r=none)
noncomputable abbrev StP (A:MA) (X:List EE) (v:VM) (st:List T) (n:Nat) (ns:List (List Bool)) (r:Option (List (List T))):Post:=⟨Nat×EE×Nat×Nat,StR n ns r,stM A X v st r,stO r⟩
theorem it_app (L:LT) (i:Nat) (l:List T):itH (L++[(i,l)])=itH L++[(i,.list (strsL l))]:=by unfold itH; rw [List.map_append]; rfl
theorem start_in {M F:HL} {L:LT} {ls i:Nat} {a:AObj} {vs:List V} (σ:AHeap) (h:H σ ((i,.list (txtL vs))::(ls,a)::(M++(itH L++F)))):H σ ((ls,a)::(M++(itH (L++[(i,vs.map V.txt)])++F))):=by
 have e:txtL vs=strsL (vs.map V.txt):=by rw [txtL,strsL,List.map_map]; rfl
 rw [it_app,List.append_assoc (itH L),← List.append_assoc M]
 rw [← List.append_assoc M,e] at h
 exact h.perm ((List.Perm.swap _ _ _).trans (List.Perm.cons _ List.perm_middle.symm))
theorem start_out {M F I:HL} {o ls kp:Nat×AObj} (σ:AHeap) (h:H σ (kp::o::ls::(M++(I++F)))):H σ (M++(o::ls::kp::I)++F):=h.perm (by
 rw [List.append_assoc]
 refine (List.perm_append_comm_assoc [kp,o,ls] M (I++F)).trans (List.Perm.append_left M ?_)
 exact (List.Perm.swap o kp _).trans (List.Perm.cons o (List.Perm.swap ls kp _)))
theorem start_no {M F I:HL} {x:Nat×AObj} (σ:AHeap) (h:H σ (x::(M++(I++F)))):H σ (x::(M++F)):=h.sub (.cons_cons _ (List.Sublist.append_left (List.sublist_append_right ..) _))
noncomputable def e0:EE:=⟨0,0,0,0,[],0,[],[]⟩
section
variable {P:Params} (A:MA) (X:List EE) (v:VM)
theorem start_spec {st ts:List T} {n:Nat} {ns:List (List Bool)} (e:v.st=st++ts) (h:v.st.length<=99999) (h1:ts.length=ns.length) (h2:ns.length<=2) (ho:∀ t∈ts,okArg t) (kl:KL n X) (hX:X.length<=900):CF P 7 855 [.ref A.m,.ref A.a,.int n,.tup (ns.map namesAv)] (MH A v (esD X)) (StP A X v st n ns (splits ts)) true:=
 have nl:(ns.map namesAv).length=ts.length:=by rw [List.length_map,h1]
 have nl2:(ns.map namesAv).length<=lim:=nl▸h1▸Nat.le_trans h2 (by decide)
 have tl:(strsL ts).length<=lim:=by rw [strsL_len,h1]; exact Nat.le_trans h2 (by decide)
 cfnd_of (fun d F=>.nw fun ls=>.fa nl2<|.as (int_len nl)<|.cF F ((taken_spec A (esD X) v e h).fst (ls,.list [])) fun (k:Nat) _=>.fa tl<|
  .fr (fun t:T=>.str (S t)) (SpC ts) (fun U L=>(ls,.list (idsL L))::(MH A {v with k:=k,st:=st} (esD X)++(itH L++F))) (fun U U=>[.a]) ts [] (.init ho)
   (fun L hL=>.nw fun o=>.il<|.pl 0<|.pl 0<|.pl 0<|.nw fun kp=>.pl 1<|.pl 5<|.pl 7<|.fa (⟨rfl,⟨_,es_new kl⟩,by rw [es_len]; exact Nat.le_trans hX (by decide)⟩:DkS (esD X) (.int n))<|
    .ed 7 (congrArg AObj.dict ((key_put (v:=.ref o) kl.ne).trans (esD_cons ⟨n,o,ls,kp,L,0,ns,[]⟩ X).symm))<|
    .hp (L:=(kp,.list [])::(o,eachB ⟨n,o,ls,kp,L,0,ns,[]⟩)::(ls,.list (idsL L))::(MH A {v with k:=k,st:=st} (esD (⟨n,o,ls,kp,L,0,ns,[]⟩::X))++(itH L++F))) (M:=MH A {v with k:=k,st:=st} (esD (⟨n,o,ls,kp,L,0,ns,[]⟩::X))++eH ⟨n,o,ls,kp,L,0,ns,[]⟩++F) start_out<|
    .fe (k,⟨n,o,ls,kp,L,0,ns,[]⟩,0,0) (.ok hL.all rfl) (M:=MH A {v with k:=k,st:=st} (esD (⟨n,o,ls,kp,L,0,ns,[]⟩::X))++eH ⟨n,o,ls,kp,L,0,ns,[]⟩++F) (o:=.ok .none) (show _=stM A X v st (splits ts) _++F by rw [hL.all]; rfl) (show _=stO (splits ts) _ by rw [hL.all]; rfl))
   fun t l L hL=>.or (sp_or (hL.o t (.head _)))
    (fun hb=>.pl 0<|.ck (fun d=>d - 5) (hb.1.symm▸split_bad:CF P 5 672 [.str (S t)] [] (.ex 1 uobT ecB) true) fun x U=>.dr 1<|
     .hp (L:=(x.1,exc0 1 uobT ecB x.2)::(MH A {v with k:=k,st:=st} (esD X)++(itH L++F))) (M:=(x.1,exc0 1 uobT ecB x.2)::(MH A {v with k:=k,st:=st} (esD X)++F)) start_no<|
     .fe (k,e0,x.1,x.2) (.no (hL.bad hb.2)) (M:=(x.1,exc0 1 uobT ecB x.2)::(MH A {v with k:=k,st:=st} (esD X)++F)) (o:=.er x.1) (show _=stM A X v st (splits ts) _++F by rw [hL.bad hb.2]; rfl) (show _=stO (splits ts) _ by rw [hL.bad hb.2]; rfl))
    fun hg=>.ex hg fun vs hg=>.pl 0<|.ck (fun d=>d - 5) (split_spec hg.1) fun (i:Nat) _=>.pl 1<|.fa (show (idsL L).length<lim by have:=hL.n; rw [List.length_cons,h1] at this; unfold idsL; rw [List.length_map]; exact Nat.lt_of_le_of_lt (by lia:L.length<=2) (by decide))<|
     .ed 1 (congrArg AObj.list (ids_app L i (vs.map V.txt)))<|.hp (L:=(i,.list (txtL vs))::(ls,.list (idsL (L++[(i,vs.map V.txt)])))::(MH A {v with k:=k,st:=st} (esD X)++(itH L++F))) (M:=(ls,.list (idsL (L++[(i,vs.map V.txt)])))::(MH A {v with k:=k,st:=st} (esD X)++(itH (L++[(i,vs.map V.txt)])++F))) start_in<|
     .go 0 rfl (.mk (l:=l) (L++[(i,vs.map V.txt)]) (hL.next i hg.2))) (by kernel_rfl)
end
structure Zp (ns:List (List Bool)) (L:LT) (l:List Nat) (D R:LT) (g:List (List Bool)):Prop where
 l:l=List.range' D.length R.length
 f:L=D++R
 d:ns.drop D.length=g
 n:g.length=R.length
structure ZpH (x:Nat) (D R:LT) (g:List (List Bool)) (q:List Bool×(Nat×List T)×List (List Bool)×LT):Prop where
 x:x=D.length
 g:g=q.1::q.2.2.1
 R:R=q.2.1::q.2.2.2
section
variable {ns g:List (List Bool)} {L D R:LT} {x:Nat} {l:List Nat} {q:List Bool×(Nat×List T)×List (List Bool)×LT}
theorem Zp.init {n:Nat} (h:ns.length=L.length) (e:n=L.length):Zp ns L (List.range n) [] L ns:=⟨e▸List.range_eq_range',rfl,rfl,h⟩
theorem Zp.hd (h:Zp ns L (x::l) D R g):∃ q:List Bool×(Nat×List T)×List (List Bool)×LT,ZpH x D R g q:=by
 have h1:=h.l
 have h2:=h.n
 induction R using List.casesOn with
 | nil=>injection h1
 | cons c R=>induction g using List.casesOn with
  | nil=>injection h2
  | cons m g=>exact ⟨(m,c,g,R),(List.cons.inj h1).1,rfl,rfl⟩
theorem Zp.next (h:Zp ns L (x::l) D R g) (k:ZpH x D R g q):Zp ns L l (D++[q.2.1]) q.2.2.2 q.2.2.1:=by
 obtain ⟨h1,h2,h3,h4⟩:=h
 rw [k.R] at h1 h2 h4
 rw [k.g] at h3 h4
 exact ⟨by rw [len_app]; exact (List.cons.inj h1).2,by rw [h2,List.append_assoc]; rfl,by rw [len_app,← List.drop_drop,h3]; rfl,Nat.succ.inj h4⟩
theorem Zp.sp (h:Zp ns L (x::l) D R g) (k:ZpH x D R g q):L=D++q.2.1::q.2.2.2:=k.R▸h.f
theorem Zp.mem (h:Zp ns L (x::l) D R g) (k:ZpH x D R g q):ns[x]?=some q.1:=by
 have e2:=List.getElem?_drop (xs:=ns) (i:=D.length) (j:=0)
 rw [h.d,k.g] at e2
 rw [k.x]; exact e2.symm
theorem Zp.nm (h:Zp ns L (x::l) D R g) (k:ZpH x D R g q) (hn:ns.length<=2):IxS (ns.map namesAv) x (namesAv q.1):=
 ixS (by rw [List.getElem?_map,h.mem k]; rfl) (by rw [List.length_map]; exact Nat.le_trans hn (by decide))
theorem Zp.id (h:Zp ns L (x::l) D R g) (k:ZpH x D R g q) (hn:L.length<=2):IxS (idsL L) x (.ref q.2.1.1):=
 ixS (by rw [h.sp k,k.x]; unfold idsL; rw [List.map_append,List.getElem?_append_right (by rw [List.length_map]; exact Nat.le_refl _),List.length_map,Nat.sub_self]; rfl) (by rw [idsL,List.length_map]; exact Nat.le_trans hn (by decide))
theorem Zp.inL (h:Zp ns L (x::l) D R g) (k:ZpH x D R g q):q.2.1.2∈itT L:=List.mem_map.mpr ⟨q.2.1,by rw [h.sp k]; exact List.mem_append_right _ (.head _),rfl⟩
end
theorem opn {A F:HL} {L D R:LT} {c:Nat×List T} (e:L=D++c::R) (σ:AHeap) (h:H σ (A++(itH L++F))):H σ (A++(c.1,.list (strsL c.2))::(itH (D++R)++F)):=h.perm (e▸itH_mid.symm)
theorem cls {A F:HL} {L D R:LT} {c:Nat×List T} (e:L=D++c::R) (σ:AHeap) (h:H σ (A++(c.1,.list (strsL c.2))::(itH (D++R)++F))):H σ (A++(itH L++F)):=h.perm (e▸itH_mid)
noncomputable abbrev M22 (A:MA) (v:VM) (D:List (AV×AV)) (e:EE):HL:=MH A v D++[(e.o,eachB e),(e.ls,.list (idsL e.L)),(e.kp,.list (strsL e.kept))]
theorem mulN' {x y:Nat} (hx:x<=100) (hy:y<=100):BinS .Mult (.int x) (.int y) (.int (x*y:Nat)):=fun z σ Q q=>.mi (small_nat (Nat.le_trans hx (by decide))) (small_nat (Nat.le_trans hy (by decide))) q
structure OvS where
 D:LT
 R:LT
 g:List (List Bool)
structure OvC (e:EE) (l:List Nat) (t:OvS):Prop where
 f:Zp e.ns e.L l t.D t.R t.g
 z:leftT (remA e.nx e.ns (itT e.L))=leftT (remA e.nx t.g (itT t.R))
theorem rem_cons {nx x:Nat} {D R:LT} {g:List (List Bool)} {q:List Bool×(Nat×List T)×List (List Bool)×LT} (k:ZpH x D R g q):remA nx g (itT R)=q.2.1.2.drop (nx*q.1.length)::remA nx q.2.2.1 (itT q.2.2.2):=by rw [k.g,k.R]; rfl
section
variable {P:Params} (A:MA) (v:VM) (e:EE)
theorem over_spec (D:List (AV×AV)) (w:EOk e):CF P 1 862 [.ref e.o] (MH A v D++eH e) (.one (MH A v D++eH e) (.ok (.bool (decide (leftT (remA e.nx e.ns (itT e.L))=0))))) false:=
 have nl:(e.ns.map namesAv).length=e.L.length:=by rw [List.length_map,w.n]
 have nl2:(e.ns.map namesAv).length<=lim:=nl▸w.n▸Nat.le_trans w.l (by decide)
 have ll:e.L.length<=2:=w.n▸w.l
 cf_of (fun F=>.pl 19<|.fa nl2<|.fa nl2<|.fa nl2<|
  .fr (fun i:Nat=>.int i) (OvC e) (fun U U=>M22 A v D e++(itH e.L++F)) (fun U U=>[.a]) (List.range (e.ns.map namesAv).length) ⟨[],e.L,e.ns⟩ ⟨.init w.n nl,rfl⟩
   (fun t h=>.as (show AV.bool true=.bool (decide (leftT (remA e.nx e.ns (itT e.L))=0)) by
    have h1:=h.f.l
    have h2:=h.f.n
    rw [h.z]
    induction hR:t.R using List.casesOn with
    | cons=>rw [hR] at h1; injection h1
    | nil=>induction hg:t.g using List.casesOn with
     | nil=>rfl
     | cons=>rw [hR,hg] at h2; injection h2) .ok)
   fun x l t h=>.ex h.f.hd fun q k=>
    have mm:=w.g q.1 (List.mem_of_getElem? (h.f.mem k))
    have cl:q.2.1.2.length<=lim:=Nat.le_trans (w.k _ (h.f.inL k)) (by decide)
    have ml:(q.1.map fun y=>AV.str (vS y)).length=q.1.length:=List.length_map ..
    have zz:=h.z.trans (congrArg leftT (rem_cons k))
    have tst (r:Hn P ((Post.one (MH A v D++eH e) (.ok (.bool (decide (leftT (remA e.nx e.ns (itT e.L))=0))))).fr F) [Jf (OvC e) (fun U U=>M22 A v D e++(itH e.L++F)) (fun U U=>[MV.a].map id) l]):=.pl 19<|.pl 19<|.ix (h.f.nm k w.l)<|.fa (ml▸Nat.le_trans mm.2 (by decide):(q.1.map fun y=>AV.str (vS y)).length<=lim)<|.as (int_len ml)<|.bi (mulN' (Nat.le_trans w.x (by decide)) (Nat.le_trans mm.2 (by decide)))<|.pl 19<|.pl 20<|.ix (h.f.id k ll)<|.pl 22<|.fa (strsL_len▸cl:(strsL q.2.1.2).length<=lim)<|.as (int_len (strsL_len (ls:=q.2.1.2)))<|r
    .hp (L:=M22 A v D e++(itH e.L++F)) (M:=M22 A v D e++(q.2.1.1,.list (strsL q.2.1.2))::(itH (t.D++q.2.2.2)++F)) (opn (h.f.sp k))<|
    .or (Nat.lt_or_ge (e.nx*q.1.length) q.2.1.2.length)
     (fun hlt=>tst<|Hn.is (ltT hlt)<|
      .hp (L:=M22 A v D e++(q.2.1.1,.list (strsL q.2.1.2))::(itH (t.D++q.2.2.2)++F)) (M:=M22 A v D e++(itH e.L++F)) (cls (h.f.sp k))<|.as (show AV.bool false=.bool (decide (leftT (remA e.nx e.ns (itT e.L))=0)) by
       rw [zz,decide_eq_false]
       show ¬ (List.drop _ _).length+leftT _=0
       rw [List.length_drop]; lia) .ok)
     fun hge=>tst<|Hn.is (ltF (Nat.not_lt.mpr hge))<|
      .hp (L:=M22 A v D e++(q.2.1.1,.list (strsL q.2.1.2))::(itH (t.D++q.2.2.2)++F)) (M:=M22 A v D e++(itH e.L++F)) (cls (h.f.sp k))<|.go 0 rfl (.mk (OvS.mk (t.D++[q.2.1]) q.2.2.2 q.2.2.1) ⟨h.f.next k,by
       rw [zz]
       show (List.drop _ _).length+leftT _=_
       rw [List.length_drop,Nat.sub_eq_zero_of_le hge,Nat.zero_add]⟩)) (by kernel_rfl)
end
structure SnS where
 D:LT
 R:LT
 g:List (List Bool)
 s:RS
structure SnC (e:EE) (s':RS) (l:List Nat) (t:SnS):Prop where
 f:Zp e.ns e.L l t.D t.R t.g
 r:s'=(nextA t.g (remA e.nx t.g (itT t.R)) t.s).2
structure InC (s':RS) (a:List T) (m:List Bool) (t:Nat×RS):Prop where
 r:s'=(nextG m (a.drop t.1) t.2).2
theorem InC.next {s':RS} {a:List T} {y:Bool} {m:List Bool} {t:Nat×RS} (h:InC s' a (y::m) t) {u:T} (hu:a[t.1]?.getD []=u):InC s' a m (t.1+1,t.2.wr y u):=⟨by
 rw [h.r]
 show (nextG m (a.drop t.1).tail (t.2.wr y ((a.drop t.1).headD []))).2=_
 rw [List.headD_eq_head?_getD,List.head?_drop,hu,List.tail_drop]⟩
theorem SnC.nil {e:EE} {s':RS} {t:SnS} (h:SnC e s' [] t):s'=t.s:=by
 have h1:=h.f.l
 have h2:=h.f.n
 have hr:=h.r
 induction hR:t.R using List.casesOn with
 | cons=>rw [hR] at h1; injection h1
 | nil=>induction hg:t.g using List.casesOn with
  | nil=>rw [hg] at hr; exact hr
  | cons=>rw [hR,hg] at h2; injection h2
section
variable {P:Params} (A:MA) (X:List EE) (v:VM) (e:EE)
theorem step0_spec {to:Nat} (w:EOk e) (kl:KL e.n X) (z:leftT (remA e.nx e.ns (itT e.L))=0):CF P 3 869 [.ref A.m,.ref A.a,.int e.n,.int to] (MH A v (esD (e::X))++eH e) (.one (MH A {v with pc:=to} (esD (e::X))++eH e) (.ok .none)) false:=
 cf_of (fun F=>.pl 2<|.pl 4<|.ix (show GdS _ _ _ from es_get kl)<|.cO F (over_spec A v e (esD (e::X)) w)<|.tr (decide_eq_true z)<|.pl 2 .ok) (by kernel_rfl)
theorem stepN_spec {to:AV} (w:EOk e) (kl:KL e.n X) (z:leftT (remA e.nx e.ns (itT e.L))≠0):CF P 5 869 [.ref A.m,.ref A.a,.int e.n,to] (MH A v (esD (e::X))++eH e) (.one (MH A {v with s:=(nextA e.ns (remA e.nx e.ns (itT e.L)) v.s).2} (esD (e::X))++eH {e with nx:=e.nx+1}) (.ok .none)) false:=
 have nl:(e.ns.map namesAv).length=e.L.length:=by rw [List.length_map,w.n]
 have nl2:(e.ns.map namesAv).length<=lim:=nl▸w.n▸Nat.le_trans w.l (by decide)
 have ll:e.L.length<=2:=w.n▸w.l
 cf_of (fun F=>.pl 2<|.pl 4<|.ix (show GdS _ _ _ from es_get kl)<|.cO F (over_spec A v e (esD (e::X)) w)<|.tr (decide_eq_false z)<|.pl 19<|.pl 19<|.pl 19<|.pl 19<|.fa nl2<|.fa nl2<|.fa nl2<|
  .fr (fun i:Nat=>.int i) (SnC e (nextA e.ns (remA e.nx e.ns (itT e.L)) v.s).2) (fun U t=>M22 A {v with s:=t.s} (esD (e::X)) {e with nx:=e.nx+1}++(itH e.L++F)) (fun U U=>[.a,.a,.a,.a]) (List.range (e.ns.map namesAv).length) ⟨[],e.L,e.ns,v.s⟩ ⟨.init w.n nl,rfl⟩
   (fun t h=>.fe () trivial (M:=M22 A {v with s:=t.s} (esD (e::X)) {e with nx:=e.nx+1}++(itH e.L++F)) (by rw [← h.nil]; rfl) rfl)
   fun x l t h=>.ex h.f.hd fun q k=>
    have mm:=w.g q.1 (List.mem_of_getElem? (h.f.mem k))
    have cl:(strsL q.2.1.2).length<=lim:=strsL_len▸Nat.le_trans (w.k _ (h.f.inL k)) (by decide)
    have ml:(q.1.map fun y=>AV.str (vS y)).length=q.1.length:=List.length_map ..
    have ml2:(q.1.map fun y=>AV.str (vS y)).length<=lim:=ml▸Nat.le_trans mm.2 (by decide)
    have hr:=h.r.trans (congrArg (fun z=>(nextA t.g z t.s).2) (rem_cons k))
    .hp (L:=M22 A {v with s:=t.s} (esD (e::X)) {e with nx:=e.nx+1}++(itH e.L++F)) (M:=M22 A {v with s:=t.s} (esD (e::X)) {e with nx:=e.nx+1}++(q.2.1.1,.list (strsL q.2.1.2))::(itH (t.D++q.2.2.2)++F)) (opn (h.f.sp k))<|
    .pl 19<|.pl 20<|.ix (h.f.id k ll)<|.pl 19<|.ix (h.f.nm k w.l)<|.fa ml2<|.as (int_len ml)<|.bi (mulN' (Nat.le_trans w.x (by decide)) (Nat.le_trans mm.2 (by decide)))<|.pl 19<|.ix (h.f.nm k w.l)<|.fa ml2<|
    .fr (fun y:Bool=>.str (vS y)) (InC (nextG q.1 (q.2.1.2.drop (e.nx*q.1.length)) t.s).2 q.2.1.2) (fun U u=>M22 A {v with s:=u.2} (esD (e::X)) {e with nx:=e.nx+1}++(q.2.1.1,.list (strsL q.2.1.2))::(itH (t.D++q.2.2.2)++F)) (fun U u=>[.a,.v (.int (u.1:Nat))]) q.1 (e.nx*q.1.length,t.s) ⟨rfl⟩
     (fun u hu=>.hp (L:=M22 A {v with s:=u.2} (esD (e::X)) {e with nx:=e.nx+1}++(q.2.1.1,.list (strsL q.2.1.2))::(itH (t.D++q.2.2.2)++F)) (M:=M22 A {v with s:=u.2} (esD (e::X)) {e with nx:=e.nx+1}++(itH e.L++F)) (cls (h.f.sp k))<|.go 0 rfl (.mk (SnS.mk (t.D++[q.2.1]) q.2.2.2 q.2.2.1 u.2) ⟨h.f.next k,by
      rw [hr,k.g]; exact congrArg (fun s=>(nextA q.2.2.1 (remA e.nx q.2.2.1 (itT q.2.2.2)) s).2) hu.r⟩))
     fun y m u hu=>
      have wr (b:T):=write_spec (P:=P) A (esD (e::X)) {v with s:=u.2} y b
      .or (Nat.lt_or_ge u.1 q.2.1.2.length)
      (fun hlt=>.pl 0<|.pl 5<|.pl 22<|.fa cl<|.as (int_len (strsL_len (ls:=q.2.1.2)))<|.is (ltT hlt)<|.pl 22<|.ix (show IxS (strsL q.2.1.2) u.1 (.str (S q.2.1.2[u.1])) from ixS (by rw [strsL,List.getElem?_map,List.getElem?_eq_getElem hlt]; rfl) cl)<|
       .cO ((e.o,eachB {e with nx:=e.nx+1})::(e.ls,.list (idsL e.L))::(e.kp,.list (strsL e.kept))::(q.2.1.1,.list (strsL q.2.1.2))::(itH (t.D++q.2.2.2)++F)) (wr q.2.1.2[u.1])<|.go 0 rfl (.mk (l:=m) (u.1+1,u.2.wr y q.2.1.2[u.1]) (hu.next (by rw [List.getElem?_eq_getElem hlt]; rfl))))
      fun hge=>.pl 0<|.pl 5<|.pl 22<|.fa cl<|.as (int_len (strsL_len (ls:=q.2.1.2)))<|.is (ltF (Nat.not_lt.mpr hge))<|
       .cO ((e.o,eachB {e with nx:=e.nx+1})::(e.ls,.list (idsL e.L))::(e.kp,.list (strsL e.kept))::(q.2.1.1,.list (strsL q.2.1.2))::(itH (t.D++q.2.2.2)++F)) (wr [])<|.go 0 rfl (.mk (l:=m) (u.1+1,u.2.wr y []) (hu.next (by rw [List.getElem?_eq_none hge]; rfl)))) (by kernel_rfl)
theorem take_spec {st:List T} {t:T} {u:AV} (kl:KL e.n X) (hk:e.kept.length<=10) (hs:v.st=st++[t]) (h:st.length<=99999):CF P 1 876 [.ref A.m,.ref A.a,.int e.n,u] (MH A v (esD (e::X))++eH e) (.one (MH A {v with st:=st} (esD (e::X))++eH {e with kept:=e.kept++[t]}) (.ok .none)) false:=
 cf_of (fun F=>.pl 2<|.pl 4<|.ix (show GdS _ _ _ from es_get kl)<|.pl 19<|.pl 21<|.pl 2<|.pl 3<|.pl 3<|.v (show PopS (.list (strsL v.st)) _ from hs▸pop_st h)<|.pl 21<|.fa (stk_lt (Nat.le_trans hk (by decide)))<|.ed 21 (congrArg AObj.list (ts_app e.kept t)) .ok) (by kernel_rfl)
theorem end_spec {u:AV} (kl:KL e.n X) (hk:e.kept.length<=10) (hj:∀ t∈e.kept,isJ t) (hX:X.length<=900) (h:v.st.length<=99999):CF P 5 883 [.ref A.m,.ref A.a,.int e.n,u] (MH A v (esD (e::X))++eH e) (.one (MH A {v with st:=v.st++[joinT e.kept]} (esD X)) (.ok .none)) false:=
 cf_of (fun F=>.pl 2<|.pl 3<|.pl 2<|.pl 4<|.pl 4<|.v (⟨rfl,es_get kl,by rw [es_len]; exact Nat.le_trans (Nat.succ_le_succ hX) (by decide)⟩:DpS (esD (e::X)) (.int e.n) (.ref e.o))<|.pl 19<|
  .ed 4 (congrArg AObj.dict (show delD (esD (e::X)) (.int e.n)=esD X by rw [esD_cons]; exact key_del kl.ne))<|.mv 21<|.ck (fun d=>d - 4) (join_list_spec e.kp hj (Nat.le_trans hk (by decide))) fun U U=>.pl 4<|.fa (stk_lt h)<|.ed 4 (congrArg AObj.list (ts_app v.st (joinT e.kept)))<|.dr 0<|.dr 19<|.dr 19<|
  .hp (L:=MH A {v with st:=v.st++[joinT e.kept]} (esD X)++(itH e.L++F)) (M:=MH A {v with st:=v.st++[joinT e.kept]} (esD X)++F) itH_drop .ok) (by kernel_rfl)
end
noncomputable def excO (c:Nat) (v:T) (ec:AV) (el:Nat) (x:Str×Bool):AObj:=.exc 84 [("code",.int c),("value",.str (S v)),("errorcode",ec),("level",.int 0),("ret",.int 0),("info",.str x.1),("is_noted",.bool x.2),("line",.int 0),("extra",.ref el)]
noncomputable abbrev MH0 (A:MA) (v:VM) (D:List (AV×AV)):HL:=MHg A [] v D
noncomputable def heldAv:Option Rg->AV
 | some g=>rgAv g
 | none=>.none
theorem takes_cons {g:Rg} {R:List Rg} {q c:Nat}:takes (g::R) q c=if hasR q g=true∧(c=3∨c=4) then some g else takes R q c:=by
 unfold takes tk
 rw [List.find?_cons]
 by_cases h:c=3∨c=4
 ·rw [if_pos h,if_pos h]
  induction hasR q g using Bool.casesOn
  ·rw [if_neg (fun z=>nomatch z.1)]
  ·rw [if_pos ⟨rfl,h⟩]
 ·rw [if_neg h,if_neg (fun z=>h z.2),if_neg h]
section
variable {P:Params}
theorem cut_spec {s:Str} (hs:s.length<=9000):CF P 1 146 [.str s,.int 150] [] ⟨Str,fun z=>z.length<=9003,fun U=>[],fun z=>.ok (.str z)⟩ false:=
 have hl:s.length<=lim:=Nat.le_trans hs (by decide)
 have h1:=PyProof.Txt.length_slice_le s none (some 150)
 have h3:("...":Str).length<=3:=leK (by kernel_rfl)
 have h2:(Txt.slice s none (some 150)).length+("...":Str).length<=9003:=Nat.add_le_add (Nat.le_trans h1 hs) h3
 cf_of (fun F=>.or (Nat.lt_or_ge 150 s.length) (fun h=>.fa hl<|.is (ltT h)<|.v (show SlcS (.str s) .none (.int 150) (.str (Txt.slice s none (some 150))) from fun z σ Q q=>.str .n .i hl q)<|.bi (strB (x:=Txt.slice s none (some 150)) (y:="...") (Nat.le_trans h2 (by decide)))<|.fin (Txt.slice s none (some 150)++("...":Str)) (show (Txt.slice s none (some 150)++("...":Str)).length<=9003 by rw [str_app]; exact h2))
  fun h=>.fa hl<|.is (ltF (Nat.not_lt.mpr h))<|.fin s (Nat.le_trans hs (by decide))) (by kernel_rfl)
noncomputable abbrev excP (i c:Nat) (w:T) (ec:AV) (el:Nat) (M:HL):Post:=⟨Str×Bool,fun U=>True,fun x=>(i,excO c w ec el x)::M,fun U=>.ok .none⟩
theorem note_spec {s:Str} {i c el:Nat} {w:T} {ec:AV} (hs:s.length<=9000) (hw:w.length<=500):CF P 2 153 [.ref i,.str s] [(i,exc0 c w ec el)] (excP i c w ec el []) false:=
 have la {x y:Str} {a b:Nat} (h:x.length<=a) (k:y.length<=b):(x++y).length<=a+b:=str_app x y▸Nat.add_le_add h k
 have h1:(S w).length<=500:=S_len w▸hw
 have h2:("\n    while executing\n\"":Str).length<=40:=leK (by kernel_rfl)
 have h3:("\"":Str).length<=1:=leK (by kernel_rfl)
 cf_of (fun F=>.or (Classical.em (c=1))
  (fun h=>.pl 0<|.is (show (!((c:Int)==1))=false by rw [h]; rfl)<|.pl 0<|.pl 0<|.bi (strB (x:=S w) (y:="\n    while executing\n\"") (Nat.le_trans (Nat.add_le_add h1 h2) (by decide)))<|.cx (cut_spec hs) fun z hz=>
   .bi (strB (x:=S w++("\n    while executing\n\"":Str)) (y:=z) (Nat.le_trans (Nat.add_le_add (la h1 h2) hz) (by decide)))<|.bi (strB (x:=S w++("\n    while executing\n\"":Str)++z) (y:="\"") (Nat.le_trans (Nat.add_le_add (la (la h1 h2) hz) h3) (by decide)))<|.pl 0<|.pl 0<|.fin (S w++("\n    while executing\n\"":Str)++z++("\"":Str),true) trivial)
  fun h=>.pl 0<|.is (show (!((c:Int)==1))=true by rw [show ((c:Int)==1)=false from eqF (y:=1) h]; rfl)<|.fin ("",false) trivial) (by kernel_rfl)
theorem note_source_spec (A:MA) (v:VM) (D:List (AV×AV)) {i c el p:Nat} {w:T} {ec:AV} (hw:w.length<=500) (hp:v.pc=p+1) (hs:∀ e∈A.ss,e.2.2.length<=9000) (hl:A.ss.length<=90000):CF P 3 209 [.ref A.a,.ref i] ((i,exc0 c w ec el)::MH A v D) (excP i c w ec el (MH A v D)) false:=
 have sl:(A.ss.map srAv).length<=lim:=by rw [List.length_map]; exact Nat.le_trans hl (by decide)
 cf_of (fun F=>.pl 3<|.bi (subB (x:=v.pc) (y:=1) (n:=p) hp)<|.pl 3<|.pl 12<|.pl 15<|.fa sl<|
  .fr srAv (fun l D=>Suf A.ss l D) (fun U U=>(i,exc0 c w ec el)::(MH A v D++F)) (fun U U=>[.a,.a,.a]) A.ss [] ⟨rfl⟩ (fun U U=>.fin ("",false) trivial)
   fun e l a h=>.or (Nat.lt_or_ge p e.1) (fun h1=>.is (leF (x:=e.1) (y:=p) (Nat.not_le.mpr h1))<|.go 0 rfl (.mk (l:=l) (a++[e]) h.next))
    fun h1=>.or (Nat.lt_or_ge p e.2.1) (fun h2=>.is (leT (x:=e.1) (y:=p) h1)<|.is (ltT (x:=p) (y:=e.2.1) h2)<|.cF (MH A v D++F) (note_spec (i:=i) (c:=c) (el:=el) (w:=w) (ec:=ec) (hs e h.mem) hw) fun x U=>.fin x trivial)
     fun h2=>.is (leT (x:=e.1) (y:=p) h1)<|.is (ltF (x:=p) (y:=e.2.1) (Nat.not_lt.mpr h2))<|.go 0 rfl (.mk (l:=l) (a++[e]) h.next)) (by kernel_rfl)
theorem taker_spec (g p c:Nat) {rgs:List Rg} (hl:rgs.length<=90000):CF P 1 202 [.ref g,.int p,.int c] [(g,.list (rgs.map rgAv))] (.one [(g,.list (rgs.map rgAv))] (.ok (heldAv (takes rgs p c)))) false:=
 have gl:(rgs.map rgAv).length<=lim:=by rw [List.length_map]; exact Nat.le_trans hl (by decide)
 cf_of (fun F=>.pl 0<|.fa gl<|
  .fr rgAv (fun l (_:Unit)=>takes rgs p c=takes l p c) (fun U U=>(g,.list (rgs.map rgAv))::F) (fun U U=>[.a,.a,.a,.a,.a,.a,.a]) rgs () rfl
   (fun U h=>.as (show AV.none=heldAv (takes rgs p c) by rw [h]; unfold takes tk; split <;> rfl) .ok)
   fun e l U h=>
    have no (z:¬ (hasR p e=true∧(c=3∨c=4))):takes rgs p c=takes l p c:=by rw [h,takes_cons,if_neg z]
    have yes (a:e.fst<=p) (b:p<e.beh) (z:c=3∨c=4):rgAv e=heldAv (takes rgs p c):=by rw [h,takes_cons,if_pos ⟨Bool.and_eq_true_iff.mpr ⟨Nat.ble_eq_true_of_le a,Nat.ble_eq_true_of_le b⟩,z⟩]; rfl
    have nf (a:p<e.fst∨e.beh<=p):¬ (hasR p e=true∧(c=3∨c=4)):=fun z=>by
     have z:=Bool.and_eq_true_iff.mp z.1
     exact a.elim (Nat.not_lt.mpr (Nat.le_of_ble_eq_true z.1)) (Nat.not_le.mpr (Nat.le_of_ble_eq_true z.2))
    .or (Nat.lt_or_ge p e.fst) (fun h1=>.is (leF (x:=e.fst) (y:=p) (Nat.not_le.mpr h1))<|.go 0 rfl (.mk (l:=l) () (no (nf (.inl h1)))))
    fun h1=>.or (Nat.lt_or_ge p e.beh) (fun h2=>.is (leT (x:=e.fst) (y:=p) h1)<|.is (ltT (x:=p) (y:=e.beh) h2)<|
     .or (show c=3∨c=4∨¬ (c=3∨c=4) by lia) (fun h3=>.is (show (("loop":Str)=="catch")=false by kernel_rfl)<|.is (eqT (x:=c) (y:=3) h3)<|.as (yes h1 h2 (.inl h3)) .ok)
     fun h3=>.or h3 (fun h3=>.is (show (("loop":Str)=="catch")=false by kernel_rfl)<|.is (eqF (x:=c) (y:=3) (by lia))<|.is (eqT (x:=c) (y:=4) h3)<|.as (yes h1 h2 (.inr h3)) .ok)
     fun h3=>.is (show (("loop":Str)=="catch")=false by kernel_rfl)<|.is (eqF (x:=c) (y:=3) (by lia))<|.is (eqF (x:=c) (y:=4) (by lia))<|.go 0 rfl (.mk (l:=l) () (no fun z=>h3 z.2)))
    fun h2=>.is (leT (x:=e.fst) (y:=p) h1)<|.is (ltF (x:=p) (y:=e.beh) (Nat.not_lt.mpr h2))<|.go 0 rfl (.mk (l:=l) () (no (nf (.inr h2))))) (by kernel_rfl)
theorem go_on_spec (A:MA) (v:VM) (D:List (AV×AV)) {i c el:Nat} {w:T} {ec:AV} {x:Str×Bool} {g:Rg} (hc:c=3∨c=4) (h:v.st.length<=99999):CF P 1 272 [.ref A.m,.ref A.a,rgAv g,.ref i] ((i,excO c w ec el x)::MH A v D) ⟨Nat,fun U=>True,fun k=>MH A {v with k:=k,st:=v.st.take g.dep,pc:=if c=3 then g.fin else g.aga} D,fun U=>.ok .none⟩ false:=
 have e2:AObj.list ((strsL v.st).take g.dep)=.list (strsL (v.st.take g.dep)):=by unfold strsL; rw [List.map_take]
 have fin (k:Nat) {F:HL} {Λ:List LJ} {q:Nat} (e:q=if c=3 then g.fin else g.aga):Hn P (Post.fr ⟨Nat,fun U=>True,fun k=>MH A {v with k:=k,st:=v.st.take g.dep,pc:=if c=3 then g.fin else g.aga} D,fun U=>.ok .none⟩ F) Λ:=.dr 1<|.dr 4<|.bk 3<|.fe k trivial (M:=MH A {v with k:=k,st:=v.st.take g.dep,pc:=q} D++F) (by rw [e]; rfl) rfl
 cf_of (fun F=>.pl 3<|.pl 4<|.fa (Nat.le_of_lt (stk_lt h))<|.nw fun k=>.pl 4<|.ed 0 e2<|.pl 4<|.or hc
  (fun h3=>.is (show (("loop":Str)=="catch")=false by kernel_rfl)<|.pl 1<|.is (eqF (x:=c) (y:=4) (by lia))<|fin k (if_pos h3).symm)
  fun h4=>.is (show (("loop":Str)=="catch")=false by kernel_rfl)<|.pl 1<|.is (eqT (x:=c) (y:=4) h4)<|.pl 4<|fin k (if_neg (by lia)).symm) (by kernel_rfl)
theorem drop_spec (A:MA) (v:VM) (D:List (AV×AV)):CF P 2 244 [.ref A.m] (MH A v D) (.one (MH0 A v D) (.ok .none)) false:=
 cf_of (fun F=>.pl 0<|.pl 5<|.pl 0<|.pl 1<|.pl 1<|.v (show PopS (.list ([]++[.ref A.a])) (.tup [.ref A.a,.lst []]) from .mk (by decide))<|.pl 2<|.il<|.pl 15<|.ok) (by kernel_rfl)
end
noncomputable def Srt:List EE->Prop
 | []=>True
 | e::X=>KL e.n X∧Srt X
theorem srt_len:∀ {X:List EE} {N:Nat},Srt X->KL N X->X.length<=N
 | [],N,_,_=>Nat.zero_le _
 | e::X,N,h,k=>Nat.lt_of_le_of_lt (srt_len h.2 h.1) (k e (.head _))
structure XsOk (X:List EE):Prop where
 e:∀ e∈X,EOk e
 s:Srt X
 b:KL 900 X
structure Rep (v:VM) (X:List EE) (ms:MS):Prop where
 pc:v.pc=ms.pc
 st:v.st=ms.st
 es:X.map EE.es=ms.es
 s:v.s=ms.s
structure Ctx (A:MA) (R:List Row) (sl:Bool):Prop where
 rows:A.rows=R.map (rowAv sl)
 len:R.length<=90000
 ss:∀ e∈A.ss,e.2.2.length<=9000
 sl:A.ss.length<=90000
 gl:A.rgs.length<=90000
 est:∀ n ns,.estart n ns∈R->n<900
structure XS where
 v:VM
 X:List EE
 i:Nat
 el:Nat
 ec:AV
 y:Str×Bool
noncomputable abbrev stOk (A:MA) (dp:Nat) (ms:MS):Post:=⟨VM×List EE,fun x=>(Rep x.1 x.2 ms∧XsOk x.2)∧x.1.dp=dp,fun x=>MH A x.1 (esD x.2)++esH x.2,fun U=>.ok .none⟩
noncomputable abbrev stEx (A:MA) (dp c:Nat) (w:T) (s:RS):Post:=⟨XS,fun x=>x.v.s=s∧x.v.dp=dp,fun x=>(x.i,excO c w x.ec x.el x.y)::(MH0 A x.v (esD x.X)++esH x.X),fun x=>.er x.i⟩
section
variable {P:Params} {Po:Post} {Λ:List LJ}
noncomputable def Hn.sp1 (A:MA) (v:VM) (D:List (AV×AV)) (G:HL) {op:Str} {va vb:AV} {f:Addr} (hr:A.rows[v.pc]?=some (.tup [.str op,va,vb])) (hl:A.rows.length<=lim) (ho:getD opsD (.str op)=some (some (.fn f))) (k:Hn P Po Λ):Hn P Po Λ:=
 .pl 0<|.pl 1<|.ix (lastX (a:=.ref A.a))<|.pl 2<|.pl 2<|.pl 11<|.pl 12<|.fa hl<|.is (leF (x:=A.rows.length) (y:=v.pc) (Nat.not_le.mpr (getElem_lt hr)))<|.pl 2<|.pl 11<|.pl 2<|.pl 12<|.ix (ixS hr hl)<|.pl 2<|.pl 2<|.pl 0<|.pl 0<|
 .pl 0<|.ch (nin_of (L:=MH A {v with pc:=v.pc+1,steps:=v.steps+1} D++G) (k:=10) rfl ho rfl)<|.pl 0<|.pl 10<|.ix (show GdS opsD (.str op) (.fn f) from ho) k
noncomputable def Hn.unC (A:MA) (v:VM) (D:List (AV×AV)) (G:HL) (i el:Nat) (ec:AV) {c p:Nat} {w:T} {g:Rg} {R:List Row} {sl:Bool} (X:Ctx A R sl) (hw:w.length<=500) (hp:v.pc=p+1) (hst:v.st.length<=99999) (hc:c=3∨c=4) (ht:takes A.rgs p c=some g) (k:∀ (_:Nat) {Λ':List LJ},Hn P Po Λ'):Hn P Po Λ:=
 .pl 0<|.pl 1<|.il<|.wh (fun (_:Unit)=>0) (fun U=>True) (fun U=>(i,exc0 c w ec el)::(MH A v D++G)) (fun U=>[.a,.a,.a,.v (.ref i)]) () trivial fun U U=>
 .pl 1<|.pl 2<|.fa (leK rfl:[AV.ref A.a].length<=lim)<|.pl 1<|.pl 2<|.ix (lastX (a:=.ref A.a))<|.cF G (note_source_spec A v D (i:=i) (c:=c) (el:=el) (w:=w) (ec:=ec) hw hp X.ss X.sl) fun y U=>
 .pl 3<|.pl 12<|.pl 3<|.bi (subB (x:=v.pc) (y:=1) (n:=p) hp)<|.pl 0<|.mv 14<|.ck (fun d=>d - 1) (ht▸taker_spec A.g p c X.gl:CF P 1 202 [.ref A.g,.int p,.int c] [(A.g,.list (A.rgs.map rgAv))] (.one [(A.g,.list (A.rgs.map rgAv))] (.ok (heldAv (some g)))) false) fun U U=>
 .bk 14<|.pl 1<|.cF G (go_on_spec A v D (i:=i) (c:=c) (el:=el) (w:=w) (ec:=ec) (x:=y) (g:=g) hc hst) fun j U=>k j
noncomputable def unM (A:MA) (v:VM) (D:List (AV×AV)) (G:HL) (i el:Nat) (ec:AV) (c:Nat) (w:T):Option (Str×Bool)->HL
 | none=>(i,exc0 c w ec el)::(MH A v D++G)
 | some y=>(i,excO c w ec el y)::(MH0 A v D++G)
theorem opt_or {α:Type} (x:Option α):x=none∨∃ y,x=some y:=by induction x using Option.casesOn; exact .inl rfl; exact .inr ⟨_,rfl⟩
noncomputable def optN {α:Type}:Option α->Nat
 | none=>1
 | some _=>0
noncomputable def Hn.unE (A:MA) (v:VM) (D:List (AV×AV)) (G:HL) (i el:Nat) (ec:AV) {c p:Nat} {w:T} {R:List Row} {sl:Bool} (X:Ctx A R sl) (hw:w.length<=500) (hp:v.pc=p+1) (ht:takes A.rgs p c=none) (k:∀ (_:Str×Bool) {Λ':List LJ},Hn P Po Λ'):Hn P Po Λ:=
 .pl 0<|.pl 1<|.il<|.wh optN (fun U=>True) (unM A v D G i el ec c w) (fun U=>[.a,.a,.a,.v (.ref i)]) none trivial fun x U=>.or (opt_or x)
 (fun e=>.hp (L:=unM A v D G i el ec c w x) (M:=unM A v D G i el ec c w none) (hpE (congrArg _ e))<|.pl 1<|.pl 2<|.fa (leK rfl:[AV.ref A.a].length<=lim)<|.pl 1<|.pl 2<|.ix (lastX (a:=.ref A.a))<|.cF G (note_source_spec A v D (i:=i) (c:=c) (el:=el) (w:=w) (ec:=ec) hw hp X.ss X.sl) fun y U=>
  .pl 3<|.pl 12<|.pl 3<|.bi (subB (x:=v.pc) (y:=1) (n:=p) hp)<|.pl 0<|.mv 14<|.ck (fun d=>d - 1) (ht▸taker_spec A.g p c X.gl:CF P 1 202 [.ref A.g,.int p,.int c] [(A.g,.list (A.rgs.map rgAv))] (.one [(A.g,.list (A.rgs.map rgAv))] (.ok (heldAv none))) false) fun U U=>
  .bk 14<|.pl 3<|.pl 16<|.pl 1<|.cF G ((drop_spec A v D).fst (i,excO c w ec el y)) fun U U=>.go 0 rfl (.mk (some y) trivial (by rw [e]; exact Nat.one_pos)))
 fun e=>.ex e fun y e=>.hp (L:=unM A v D G i el ec c w x) (M:=unM A v D G i el ec c w (some y)) (hpE (congrArg _ e))<|.pl 1<|.pl 2<|.fa (Nat.zero_le _:([]:List AV).length<=lim)<|.pl 0<|k y
theorem row_at {A:MA} {R:List Row} {sl:Bool} {v:VM} {r:Row} {a:AV} (X:Ctx A R sl) (h:R[v.pc]?=some r) (e:rowAv sl r=a):A.rows[v.pc]?=some a:=by rw [X.rows,List.getElem?_map,h]; exact congrArg some e
theorem rows_le {A:MA} {R:List Row} {sl:Bool} (X:Ctx A R sl):A.rows.length<=lim:=by rw [X.rows,List.length_map]; exact Nat.le_trans X.len (by decide)
theorem st9 {st:List T} (h:st.length<=90000):st.length<=99999:=Nat.le_trans h (by decide)
theorem st3 {st ts:List T} (h:st.length<=90000) (k:ts.length<=9999):(st++ts).length<=99999:=List.length_append.symm▸Nat.add_le_add h k
end
theorem es_cons {X:List EE} {n:Nat} {e:ES} {es:List (Nat×ES)} (h:X.map EE.es=(n,e)::es):∃ x X',X=x::X'∧x.n=n∧(⟨x.ns,remA x.nx x.ns (itT x.L),x.kept⟩:ES)=e∧X'.map EE.es=es:=by
 induction X using List.casesOn with
 | nil=>injection h
 | cons x X=>(injection h with e1 e2; cases e1; cases e2); exact ⟨x,X,rfl,rfl,rfl,rfl⟩
theorem rem_0:∀ {ns:List (List Bool)} {its:List (List T)},ns.length=its.length->remA 0 ns its=its
 | [],[],_=>rfl
 | m::ns,l::its,h=>by
  show l.drop (0*m.length)::remA 0 ns its=_
  rw [Nat.zero_mul,List.drop_zero,rem_0 (Nat.succ.inj h)]
theorem left_3:∀ {nx:Nat} {ns:List (List Bool)} {its:List (List T)},(∀ m∈ns,0<m.length)->(∀ l∈its,l.length<=3)->3<=nx->leftT (remA nx ns its)=0
 | _,[],_,_,_,_=>rfl
 | _,_::_,[],_,_,_=>rfl
 | nx,m::ns,l::its,hm,hl,h=>by
  show (l.drop (nx*m.length)).length+leftT (remA nx ns its)=0
  rw [left_3 (fun m h=>hm m (.tail _ h)) (fun l h=>hl l (.tail _ h)) h,List.length_drop]
  have:=Nat.le_trans (hl l (.head _)) (Nat.le_trans h (Nat.le_mul_of_pos_right nx (hm m (.head _))))
  lia
theorem eOk_next {x:EE} (w:EOk x) (h:leftT (remA x.nx x.ns (itT x.L))≠0):EOk {x with nx:=x.nx+1}:=
 ⟨w.n,w.l,w.g,w.v,w.k,Nat.lt_of_not_le fun z=>h (left_3 (fun m hm=>(w.g m hm).1) w.k z)⟩
theorem XsOk.tl {x:EE} {X:List EE} (h:XsOk (x::X)):XsOk X:=⟨fun e he=>h.e e (.tail _ he),h.s.2,fun e he=>h.b e (.tail _ he)⟩
theorem XsOk.up {x y:EE} {X:List EE} (h:XsOk (x::X)) (w:EOk y) (e:y.n=x.n):XsOk (y::X):=
 ⟨fun z hz=>(List.mem_cons.mp hz).elim (fun q=>q▸w) fun q=>h.e z (.tail _ q),⟨e▸h.s.1,h.s.2⟩,fun z hz=>(List.mem_cons.mp hz).elim (fun q=>by rw [q,e]; exact h.b x (.head _)) fun q=>h.b z (.tail _ q)⟩
theorem XsOk.new {x:EE} {X:List EE} (h:XsOk X) (w:EOk x) (k:KL x.n X) (b:x.n<900):XsOk (x::X):=
 ⟨fun z hz=>(List.mem_cons.mp hz).elim (fun q=>q▸w) (h.e z),⟨k,h.s⟩,fun z hz=>(List.mem_cons.mp hz).elim (fun q=>q▸b) (h.b z)⟩
theorem KL.of {n:Nat} {X:List EE} (h:∀ e∈X.map EE.es,e.1<n):KL n X:=fun e he=>h _ (List.mem_map.mpr ⟨e,he,rfl⟩)
theorem st_new {n:Nat} {ns:List (List Bool)} {its:List (List T)} {ts:List T} {x:Nat×EE×Nat×Nat} (r:StR n ns (some its) x) (h1:ts.length=ns.length) (h2:ns.length<=2) (h3:∀ m∈ns,0<m.length∧m.length<=2) (hs:splits ts=some its):EOk x.2.1∧EE.es x.2.1=(n,⟨ns,its,[]⟩)∧x.2.1.n=n:=by
 induction r using StR.casesOn with
 | no e=>injection e
 | @ok L o ls kp e h=>
  (injection e with e1; subst e1)
  have k:=splits_ok hs
  have kl:ns.length=L.length:=h1.symm.trans (k.1.symm.trans (List.length_map _))
  rw [h]
  exact ⟨⟨kl,h2,h3,k.2.v,k.2.k,Nat.zero_le _⟩,by show (n,(⟨ns,remA 0 ns (itT L),[]⟩:ES))=_; rw [rem_0 (k.1.trans h1).symm],rfl⟩
section
variable {P:Params} {n:Nat} {a:Addr} {xs:List AV} {A B:HL} {p q:Post} {z:Bool}
theorem CF.frm (h:CF P n a xs A p z) (B:HL):CF P n a xs (A++B) (p.fr B) z:=fun d hd F hz=>by
 have:=h d hd (B++F) hz
 unfold Post.fr at this ⊢
 simp only [List.append_assoc]
 exact this
end
noncomputable abbrev st1 (v:VM):VM:={v with pc:=v.pc+1,steps:=v.steps+1}
section
variable {P:Params} {A:MA} {R:List Row} {sl:Bool} {v:VM} {X:List EE} {ms ms':MS}
theorem stp_of {op:Str} {va vb:AV} {f dp n:Nat} {D:List (AV×AV)} {B:HL} {α:Type} {Q:α->Prop} {M:α->HL} {z:Bool} (hr:A.rows[v.pc]?=some (.tup [.str op,va,vb])) (hl:A.rows.length<=lim) (ho:getD opsD (.str op)=some (some (.fn f))) (hf:f=722∨f=729∨f=736∨f=743∨f=778∨f=792∨f=813∨f=855∨f=869∨f=876∨f=883) (hn:n<=9) (h:CF P n f [.ref A.m,.ref A.a,va,vb] (MH A (st1 v) D++B) ⟨α,Q,M,fun U=>.ok .none⟩ z)
  (k:∀ x,Q x->∃ y:VM×List EE,((Rep y.1 y.2 ms'∧XsOk y.2)∧y.1.dp=dp)∧MH A y.1 (esD y.2)++esH y.2=M x):CF P 10 286 [.ref A.m] (MH A v D++B) (stOk A dp ms') true:=
 by
 have h:CF P 9 f [.ref A.m,.ref A.a,va,vb] (MH A (st1 v) D++B) ⟨α,Q,M,fun U=>.ok .none⟩ true:=fun d hd F hz=>h.le hn d hd F fun U=>hz rfl
 rcases hf with rfl | rfl | rfl | rfl | rfl | rfl | rfl | rfl | rfl | rfl | rfl <;> exact cfn_of (fun F=>.sp1 A v D (B++F) hr hl ho<|.cF F h fun x hx=>.ex (k x hx) fun y e=>.fe y e.1 (M:=M x++F) (o:=.ok .none) (congrArg (·++F) e.2.symm) rfl) (by kernel_rfl)
theorem stp_1 {op:Str} {va vb:AV} {f n:Nat} {z:Bool} {v2:VM} (hr:A.rows[v.pc]?=some (.tup [.str op,va,vb])) (hl:A.rows.length<=lim) (ho:getD opsD (.str op)=some (some (.fn f))) (hf:f=722∨f=729∨f=736∨f=743∨f=778∨f=792∨f=813∨f=855∨f=869∨f=876∨f=883) (hn:n<=9) (hX:XsOk X) (h:CF P n f [.ref A.m,.ref A.a,va,vb] (MH A (st1 v) (esD X)) (.one (MH A v2 (esD X)) (.ok .none)) z) (r:Rep v2 X ms'∧v2.dp=v.dp):CF P 10 286 [.ref A.m] (MH A v (esD X)++esH X) (stOk A v.dp ms') true:=
 stp_of hr hl ho hf hn (h.frm (esH X)) fun U U=>⟨(v2,X),⟨⟨r.1,hX⟩,r.2⟩,rfl⟩
theorem stp_x {op:Str} {va vb:AV} {f n:Nat} {z:Bool} {g:Nat->VM} (hr:A.rows[v.pc]?=some (.tup [.str op,va,vb])) (hl:A.rows.length<=lim) (ho:getD opsD (.str op)=some (some (.fn f))) (hf:f=722∨f=729∨f=736∨f=743∨f=778∨f=792∨f=813∨f=855∨f=869∨f=876∨f=883) (hn:n<=9) (hX:XsOk X) (h:MX P n f [.ref A.m,.ref A.a,va,vb] A (esD X) (st1 v) g .none) (r:∀ j,Rep (g j) X ms'∧(g j).dp=v.dp):CF P 10 286 [.ref A.m] (MH A v (esD X)++esH X) (stOk A v.dp ms') true:=
 stp_of hr hl ho hf hn (h.frm (esH X)) fun j U=>⟨(g j,X),⟨⟨(r j).1,hX⟩,(r j).2⟩,rfl⟩
theorem stp_e {op:Str} {va vb:AV} {f n:Nat} {z:Bool} {v2:VM} {x y:EE} {Y:List EE} (hr:A.rows[v.pc]?=some (.tup [.str op,va,vb])) (hl:A.rows.length<=lim) (ho:getD opsD (.str op)=some (some (.fn f))) (hf:f=722∨f=729∨f=736∨f=743∨f=778∨f=792∨f=813∨f=855∨f=869∨f=876∨f=883) (hn:n<=9) (h:CF P n f [.ref A.m,.ref A.a,va,vb] (MH A (st1 v) (esD (x::Y))++eH x) (.one (MH A v2 (esD (x::Y))++eH y) (.ok .none)) z)
  (e:(y.n,y.o)=(x.n,x.o)) (hX:XsOk (y::Y)) (r:Rep v2 (y::Y) ms'∧v2.dp=v.dp):CF P 10 286 [.ref A.m] (MH A v (esD (x::Y))++esH (x::Y)) (stOk A v.dp ms') true:=
 stp_of hr hl ho hf hn (List.append_assoc (MH A (st1 v) (esD (x::Y))) (eH x) (esH Y)▸h.frm (esH Y)) fun U U=>⟨(v2,y::Y),⟨⟨r.1,hX⟩,r.2⟩,by
  show MH A v2 (esD (y::Y))++(eH y++esH Y)=MH A v2 (esD (x::Y))++eH y++esH Y
  rw [esD_cons,esD_cons,(Prod.mk.inj e).1,(Prod.mk.inj e).2,List.append_assoc]⟩
theorem step_ok (C:Ctx A R sl) (ho:Op R ms (.ok ms')) (r:Rep v X ms) (hX:XsOk X):CF P 10 286 [.ref A.m] (MH A v (esD X)++esH X) (stOk A v.dp ms') true:=by
 have rp:=r.pc
 have rs:=r.st
 have re:=r.es
 have ru:=r.s
 have ll:=rows_le C
 have xl:X.length<=900:=srt_len hX.s hX.b
 have rp1:v.pc+1=ms.pc+1:=congrArg (·+1) rp
 have fin {v2:VM} {X2:List EE} {m:MS} (e:OpR.ok ms'=.ok m) (k:Rep v2 X2 m):Rep v2 X2 ms':=by (injection e with e1; subst e1); exact k
 induction ho using Op.casesOn with
 | @push t h hl e=>exact stp_1 (row_at C (rp.symm▸h) rfl) ll (by kernel_rfl) (by decide) (by decide) hX (push_spec A (esD X) (st1 v) t .none (st9 (rs.symm▸hl))) ⟨fin e ⟨rp1,congrArg (·++[t]) rs,re,ru⟩,rfl⟩
 | @load y h hl e=>
  have q:v.st++[v.s.var y]=ms.st++[ms.s.var y]:=by rw [rs,ru]
  induction sl using Bool.casesOn with
  | true=>exact stp_1 (row_at C (rp.symm▸h) rfl) ll (by kernel_rfl) (by decide) (by decide) hX (load_spec A (esD X) (st1 v) y (st9 (rs.symm▸hl))) ⟨fin e ⟨rp1,q,re,ru⟩,rfl⟩
  | false=>exact stp_1 (row_at C (rp.symm▸h) rfl) ll (by kernel_rfl) (by decide) (by decide) hX (load_name_spec A (esD X) (st1 v) y .none (st9 (rs.symm▸hl))) ⟨fin e ⟨rp1,q,re,ru⟩,rfl⟩
 | @join st ts k h hk h3 ht hl s e=>
  subst hk
  have rs:=rs.trans s
  exact stp_x (z:=true) (row_at C (rp.symm▸h) rfl) ll (by kernel_rfl) (by decide) (by decide) hX (join_spec A (esD X) (st1 v) (w:=.none) rs (rs▸st3 hl (Nat.le_trans h3 (by decide))) h3 ht) fun j=>⟨fin e ⟨rp1,rfl,re,ru⟩,rfl⟩
 | @start n ns st ts items h h1 h2 h3 ho hs hn hl s e=>
  have rs:=rs.trans s
  have kl:KL n X:=KL.of (re.symm▸hn)
  exact stp_of (row_at C (rp.symm▸h) rfl) ll (by kernel_rfl) (by decide) (by decide) ((hs▸start_spec A X (st1 v) rs (rs▸st3 hl (h1▸Nat.le_trans h2 (by decide))) h1 h2 ho kl xl:CF P 7 855 [.ref A.m,.ref A.a,.int n,.tup (ns.map namesAv)] (MH A (st1 v) (esD X)) (StP A X (st1 v) st n ns (some items)) true).frm (esH X)) fun x hx=>
   have w:=st_new hx h1 h2 h3 hs
   ⟨({st1 v with k:=x.1,st:=st},x.2.1::X),⟨⟨fin e ⟨rp1,rfl,congr (congrArg List.cons w.2.1) re,ru⟩,hX.new w.1 (w.2.2▸kl) (w.2.2▸C.est _ _ (List.mem_of_getElem? h))⟩,rfl⟩,(List.append_assoc (MH A {st1 v with k:=x.1,st:=st} (esD (x.2.1::X))) (eH x.2.1) (esH X)).symm⟩
 | startX h h1 h2 ho hs hn l s e=>injection e
 | @stepE n to q es h hz k e=>
  obtain ⟨x,Y,rfl,rfl,rfl,ry⟩:=es_cons (re.trans k)
  exact stp_e (row_at C (rp.symm▸h) rfl) ll (by kernel_rfl) (by decide) (by decide) (step0_spec A Y (st1 v) x (to:=to) (hX.e x (.head _)) hX.s.1 hz) rfl hX ⟨fin e ⟨rfl,rs,re,ru⟩,rfl⟩
 | @stepN n to q es h hz k e=>
  obtain ⟨x,Y,rfl,rfl,rfl,ry⟩:=es_cons (re.trans k)
  exact stp_e (row_at C (rp.symm▸h) rfl) ll (by kernel_rfl) (by decide) (by decide) (stepN_spec A Y (st1 v) x (to:=.int to) (hX.e x (.head _)) hX.s.1 hz) rfl (hX.up (eOk_next (hX.e x (.head _)) hz) rfl)
   ⟨fin e ⟨rp1,rs,congr (congrArg (fun i l=>(x.n,(⟨x.ns,i,x.kept⟩:ES))::l) (remA_next x.nx x.ns (itT x.L) ms.s ((hX.e x (.head _)).n.trans (List.length_map _).symm)).symm) ry,by show (nextA x.ns (remA x.nx x.ns (itT x.L)) v.s).2=_; rw [ru]⟩,rfl⟩
 | @take n q es st u h hk hl s k e=>
  obtain ⟨x,Y,rfl,rfl,rfl,ry⟩:=es_cons (re.trans k)
  exact stp_e (row_at C (rp.symm▸h) rfl) ll (by kernel_rfl) (by decide) (by decide) (take_spec A Y (st1 v) x (u:=.none) hX.s.1 hk (rs.trans s) (st9 hl)) rfl (hX.up (let w:=hX.e x (.head _); ⟨w.n,w.l,w.g,w.v,w.k,w.x⟩) rfl) ⟨fin e ⟨rp1,rfl,congrArg _ ry,ru⟩,rfl⟩
 | @pop st u h hl s e=>exact stp_1 (row_at C (rp.symm▸h) rfl) ll (by kernel_rfl) (by decide) (by decide) hX (popop_spec A (esD X) (st1 v) u .none (u:=.none) (rs.trans s) (st9 hl)) ⟨fin e ⟨rp1,rfl,re,ru⟩,rfl⟩
 | @jump to h e=>exact stp_x (z:=true) (row_at C (rp.symm▸h) rfl) ll (by kernel_rfl) (by decide) (by decide) hX (jump_spec A (esD X) (st1 v) (to:=to) (w:=.none)) fun j=>⟨fin e ⟨rfl,rs,re,ru⟩,rfl⟩
 | @fin n q es h hj hk hl k e=>
  obtain ⟨x,Y,rfl,rfl,rfl,ry⟩:=es_cons (re.trans k)
  exact stp_of (row_at C (rp.symm▸h) rfl) ll (by kernel_rfl) (by decide) (by decide) (List.append_assoc (MH A (st1 v) (esD (x::Y))) (eH x) (esH Y)▸(end_spec A Y (st1 v) x (u:=.none) hX.s.1 hk hj (Nat.le_of_lt xl) (st9 (rs.symm▸hl))).frm (esH Y)) fun U U=>⟨({st1 v with st:=v.st++[joinT x.kept]},Y),⟨⟨fin e ⟨rp1,congrArg (·++[joinT x.kept]) rs,ry,ru⟩,hX.tl⟩,rfl⟩,rfl⟩
 | @invoke nm st ts k dl h hk o hl hg s e=>
  subst hk
  have rs:=rs.trans s
  rcases ex_or (doIt nm ts st.length ms.s) with ⟨q,hd⟩ | ⟨q,hd⟩
  ·rw [hd] at e
   have h8:=invoke_spec (P:=P) A (esD X) (st1 v) (w:=.none) o (ru.symm▸hg) (rs▸st3 hl (Nat.le_trans (Nat.succ_le_succ (okI_len o)) (by decide))) rs
   rw [show doIt nm ts st.length (st1 v).s=(.ok q.1,q.2) from ru▸hd] at h8
   exact stp_of (row_at C (rp.symm▸h) rfl) ll (by kernel_rfl) (by decide) (by decide) (h8.frm (esH X)) fun x U=>⟨({st1 v with k:=x.1,st:=st++[q.1],spent:=v.spent+1,s:=q.2},X),⟨⟨fin e ⟨rp1,rfl,re,rfl⟩,hX⟩,rfl⟩,rfl⟩
  ·rw [hd] at e; injection e
end
theorem doIt_ex {dl:Nat} {nm:Nm} {ts:List T} {n c:Nat} {w:T} {s s':RS} (h:OkI dl nm ts) (e:doIt nm ts n s=(.ex c w,s')):w=[]∧c≠0:=by
 have k {b:Nat} (hb:b≠0) (e:((.ex b [],s):Ex T×RS)=(.ex c w,s')):w=[]∧c≠0:=by (injection e with e1 e2; cases e1; cases e2); exact ⟨rfl,hb⟩
 induction h using OkI.casesOn with
 | re=>cases e
 | put=>cases e
 | @stop u hu=>
  by_cases z:stopC u=0
  ·cases (show doIt .stop [u] n s=(.ok u,s) from if_pos z).symm.trans e
  ·exact k z ((show doIt .stop [u] n s=(.ex (stopC u) [],s) from if_neg z).symm.trans e)
 | brk=>exact k (by decide) e
 | cnt=>exact k (by decide) e
theorem tk_c {R:List Rg} {q c:Nat} {g:Rg} (h:takes R q c=some g):c=3∨c=4:=Classical.byContradiction fun z=>by unfold takes at h; rw [if_neg z] at h; injection h
inductive OpX (R:List Row) (ms:MS) (c:Nat) (w:T) (m:MS):Prop
 | st {n:Nat} {ns:List (List Bool)} {ts:List T} (h:R[ms.pc]?=some (.estart n ns)) (e:ms.st=m.st++ts) (h1:ts.length=ns.length) (h2:ns.length<=2) (ho:∀ t∈ts,okArg t) (hs:splits ts=none) (hn:∀ e∈ms.es,e.1<n) (hl:m.st.length<=90000) (hc:c=1) (hw:w=uobT) (hm:ms.s=m.s)
 | iv {nm:Nm} {ts:List T} {d:Nat} (h:R[ms.pc]?=some (.invoke (1+ts.length))) (e:ms.st=m.st++nmT nm::ts) (hk:OkI d nm ts) (hl:m.st.length<=90000) (hg:ms.s.log.length<=90000) (hd:doIt nm ts m.st.length ms.s=(.ex c w,m.s)) (hm:m.es=ms.es)
theorem Op.exI {R:List Row} {ms m:MS} {c:Nat} {w:T} (h:Op R ms (.ex c w m)):OpX R ms c w m:=by
 induction h using Op.casesOn with
 | startX h h1 h2 ho hs hn hl s e=>(injection e with e1 e2 e3; subst e1 e2 e3); exact .st h s h1 h2 ho hs hn hl rfl rfl rfl
 | @invoke nm st ts k d h hk o hl hg s e=>
  rcases ex_or (doIt nm ts st.length ms.s) with ⟨q,hd⟩ | ⟨q,hd⟩
  ·rw [hd] at e; injection e
  ·rw [hd] at e; (injection e with e1 e2 e3; subst e1 e2 e3); exact .iv (hk▸h) s o hl hg hd rfl
 | push _ _ e=>injection e
 | load _ _ e=>injection e
 | join _ _ _ _ _ _ e=>injection e
 | start _ _ _ _ _ _ _ _ _ e=>injection e
 | stepE _ _ _ e=>injection e
 | stepN _ _ _ e=>injection e
 | take _ _ _ _ _ e=>injection e
 | pop _ _ _ e=>injection e
 | jump _ e=>injection e
 | fin _ _ _ _ _ e=>injection e
section
variable {P:Params} {A:MA} {R:List Row} {sl:Bool} {v:VM} {X:List EE} {ms m:MS} {c:Nat} {w:T} {g:Rg}
theorem iv_spec {nm:Nm} {ts st:List T} {d:Nat} {s s':RS} (r:v.s=s) (e:v.st=st++nmT nm::ts) (hk:OkI d nm ts) (hl:st.length<=90000) (hg:s.log.length<=90000) (hd:doIt nm ts st.length s=(.ex c w,s')):CF P 8 792 [.ref A.m,.ref A.a,.int (1+ts.length:Nat),.none] (MH A {v with pc:=v.pc+1,steps:=v.steps+1} (esD X)) (IPost A (esD X) {v with pc:=v.pc+1,steps:=v.steps+1} st (.ex c w,s')) true:=by
 subst r
 have:=invoke_spec (P:=P) A (esD X) {v with pc:=v.pc+1,steps:=v.steps+1} (w:=.none) hk hg (e▸st3 hl (Nat.le_trans (Nat.succ_le_succ (okI_len hk)) (by decide))) e
 have hd:doIt nm ts st.length ({v with pc:=v.pc+1,steps:=v.steps+1}:VM).s=(.ex c w,s'):=hd
 rwa [hd] at this
theorem step_caught (C:Ctx A R sl) (ho:Op R ms (.ex c w m)) (ht:takes A.rgs ms.pc c=some g) (r:Rep v X ms) (hX:XsOk X):CF P 10 286 [.ref A.m] (MH A v (esD X)++esH X) (stOk A v.dp {m with st:=m.st.take g.dep,pc:=if c=3 then g.fin else g.aga}) true:=by
 induction ho.exI using OpX.casesOn with
 | st h e h1 h2 h3 h4 h5 h6 hc=>exact absurd (tk_c ht) (by rw [hc]; decide)
 | @iv nm ts d h e hk hl hg hd hm=>
  have rp:=r.pc
  have wl:w.length<=500:=by rw [(doIt_ex hk hd).1]; exact Nat.zero_le _
  rw [← rp] at h ht
  exact cfnd_of (fun d F=>.sp1 A v (esD X) (esH X++F) (row_at C h rfl) (rows_le C) (show getD opsD (.str "invoke")=some (some (.fn 792)) by kernel_rfl)<|.cF (esH X++F) (iv_spec (P:=P) (A:=A) (X:=X) (v:=v) r.s (r.st.trans e) hk hl hg hd) fun x U=>
   .unC A {v with pc:=v.pc+1,steps:=v.steps+1,k:=x.1,st:=m.st,spent:=v.spent+1,s:=m.s} (esD X) (esH X++F) x.2.1 x.2.2 ecN C wl rfl (st9 hl) (tk_c ht) ht fun j=>
   .fin ({v with k:=j,steps:=v.steps+1,st:=m.st.take g.dep,pc:=if c=3 then g.fin else g.aga,spent:=v.spent+1,s:=m.s},X) ⟨⟨⟨rfl,rfl,r.es.trans hm.symm,rfl⟩,hX⟩,rfl⟩) (by kernel_rfl)
theorem step_esc (C:Ctx A R sl) (ho:Op R ms (.ex c w m)) (ht:takes A.rgs ms.pc c=none) (r:Rep v X ms) (hX:XsOk X):CF P 10 286 [.ref A.m] (MH A v (esD X)++esH X) (stEx A v.dp c w m.s) true:=by
 have rp:=r.pc
 induction ho.exI using OpX.casesOn with
 | @st n ns ts h e h1 h2 hO hs hn hl hc hw hm=>
  have kl:KL n X:=KL.of (by rw [r.es]; exact hn)
  have rs:=r.st.trans e
  rw [← rp] at h ht
  subst hc; subst hw
  exact cfnd_of (fun d F=>.sp1 A v (esD X) (esH X++F) (row_at C h rfl) (rows_le C) (show getD opsD (.str "each_start")=some (some (.fn 855)) by kernel_rfl)<|.cF (esH X++F) (hs▸start_spec A X {v with pc:=v.pc+1,steps:=v.steps+1} rs (rs▸st3 hl (h1▸Nat.le_trans h2 (by decide))) h1 h2 hO kl (srt_len hX.s hX.b):CF P 7 855 [.ref A.m,.ref A.a,.int n,.tup (ns.map namesAv)] (MH A {v with pc:=v.pc+1,steps:=v.steps+1} (esD X)) (StP A X {v with pc:=v.pc+1,steps:=v.steps+1} m.st n ns none) true) fun x U=>
   .unE A {v with pc:=v.pc+1,steps:=v.steps+1,k:=x.1,st:=m.st} (esD X) (esH X++F) x.2.2.1 x.2.2.2 ecB C (w:=uobT) (c:=1) (leK (by kernel_rfl)) rfl ht fun y=>.fin ⟨{v with pc:=v.pc+1,steps:=v.steps+1,k:=x.1,st:=m.st},X,x.2.2.1,x.2.2.2,ecB,y⟩ ⟨r.s.trans hm,rfl⟩) (by kernel_rfl)
 | @iv nm ts d h e hk hl hg hd hm=>
  have wl:w.length<=500:=by rw [(doIt_ex hk hd).1]; exact Nat.zero_le _
  rw [← rp] at h ht
  exact cfnd_of (fun d F=>.sp1 A v (esD X) (esH X++F) (row_at C h rfl) (rows_le C) (show getD opsD (.str "invoke")=some (some (.fn 792)) by kernel_rfl)<|.cF (esH X++F) (iv_spec (P:=P) (A:=A) (X:=X) (v:=v) r.s (r.st.trans e) hk hl hg hd) fun x U=>
   .unE A {v with pc:=v.pc+1,steps:=v.steps+1,k:=x.1,st:=m.st,spent:=v.spent+1,s:=m.s} (esD X) (esH X++F) x.2.1 x.2.2 ecN C wl rfl ht fun y=>.fin ⟨{v with pc:=v.pc+1,steps:=v.steps+1,k:=x.1,st:=m.st,spent:=v.spent+1,s:=m.s},X,x.2.1,x.2.2,ecN,y⟩ ⟨rfl,rfl⟩) (by kernel_rfl)
end
inductive StarN (C:Prog):Nat->MS->MS->Prop
 | zero {m}:StarN C 0 m m
 | succ {n a b c}:Stp C a b->StarN C n b c->StarN C (n+1) a c
theorem Star.count {C:Prog} {a b:MS} (h:Star C a b):∃ n,StarN C n a b:=by
 induction h with
 | refl=>exact ⟨0,.zero⟩
 | step s _ ih=>exact ih.elim fun n ih=>⟨n+1,.succ s ih⟩
section
variable {P:Params} {A:MA} {R:List Row} {sl:Bool} {v:VM} {X:List EE} {ms ms':MS}
theorem stp_spec (C:Ctx A R sl) (h:Stp ⟨R,A.rgs⟩ ms ms') (r:Rep v X ms) (hX:XsOk X):CF P 10 286 [.ref A.m] (MH A v (esD X)++esH X) (stOk A v.dp ms') true:=by
 induction h using Stp.casesOn with
 | op ho=>exact step_ok C ho r hX
 | caught ho ht=>exact step_caught C ho ht r hX
theorem last_spec (D:List (AV×AV)) {w:T} (C:Ctx A R sl) (hp:v.pc=R.length) (hs:v.st=[w]):CF P 4 286 [.ref A.m] (MH A v D) (.one (MH0 A {v with st:=[],text:=w} D) (.ok .none)) true:=
 have hl:A.rows.length=v.pc:=by rw [C.rows,List.length_map,hp]
 have s1:(strsL v.st).length<=lim:=by rw [hs]; exact leK rfl
 cfn_of (fun F=>.pl 0<|.pl 1<|.ix (lastX (a:=.ref A.a))<|.pl 2<|.pl 2<|.pl 11<|.pl 12<|.fa (rows_le C)<|.is (leT (x:=A.rows.length) (y:=v.pc) (Nat.le_of_eq hl))<|.pl 0<|
  .pl 2<|.pl 3<|.fa s1<|.is (ltT (x:=0) (y:=(strsL v.st).length) (by rw [hs]; exact Nat.one_pos))<|.pl 2<|.pl 3<|.pl 3<|.v (show PopS (.list (strsL v.st)) _ from hs▸pop_st (l:=[]) (t:=w) (by decide))<|.il<|.pl 0<|.cO F (drop_spec A {v with st:=[]} D)<|.pl 0<|.il<|.pl 0<|.pl 0<|.pl 1<|.fa (leK rfl:([]:List AV).length<=lim)<|.pl 0 .ok) (by kernel_rfl)
noncomputable def ctM (A:MA) (F:HL) (v:VM) (X:List EE):Option (MS×Nat)->HL
 | some _=>MH A v (esD X)++esH X++F
 | none=>MH0 A v (esD X)++F
noncomputable def ctN:Option (MS×Nat)->Nat
 | some q=>q.2+1
 | none=>0
structure RunC (A:MA) (R:List Row) (e:MS) (x:VM×List EE×Option (MS×Nat)):Prop where
 dp:x.1.dp=1
 on:∀ q,x.2.2=some q->Rep x.1 x.2.1 q.1∧XsOk x.2.1∧StarN ⟨R,A.rgs⟩ q.2 q.1 e
 off:x.2.2=none->x.1.s=e.s∧x.1.st=[]∧x.2.1=[]∧[x.1.text]=e.st
theorem starN_0 {C:Prog} {k:Nat} {a b:MS} (h:StarN C k a b):a=b∨∃ q:Nat×MS,k=q.1+1∧Stp C a q.2∧StarN C q.1 q.2 b:=by
 induction h using StarN.casesOn with
 | zero=>exact .inl rfl
 | succ s t=>exact .inr ⟨(_,_),rfl,s,t⟩
noncomputable def hostI (A:MA) (dp:Int) (spent:Nat):AObj:=.inst 593 [("tools",.ref A.tl),("inline",.ref A.il),("limit",.int 40),("fuel",.none),("depth",.int dp),("spent",.int spent),("epoch",.int 0),("frame",.none),("coroutine",.none),("vars",.ref A.vs),("commands",.ref A.cm),("firsts",.ref A.fi)]
theorem host_0 {dp n:Nat} (h:dp=1):hostI A ((dp:Int) - 1) n=hostO A 0 n:=by rw [h]; rfl
structure RunX (A:MA) (R:List Row) (e:MS) (x:VM×List EE×MS×Nat):Prop where
 dp:x.1.dp=1
 r:Rep x.1 x.2.1 x.2.2.1
 xo:XsOk x.2.1
 n:StarN ⟨R,A.rgs⟩ x.2.2.2 x.2.2.1 e
theorem RunC.emp {x:VM×List EE×Option (MS×Nat)} {e:MS} (h:RunC A R e x) {q:MS×Nat} (z:x.2.2=some q) (k:q.1=e) (n:e.es=[]):x.2.1=[]:=List.map_eq_nil_iff.mp (((h.on q z).1.es.trans (congrArg MS.es k)).trans n)
theorem mrun_ok {w:T} {s':RS} {k0:Nat} (C:Ctx A R sl) (hl:StarN ⟨R,A.rgs⟩ k0 ms ⟨R.length,[w],[],s'⟩) (r:Rep v X ms) (hX:XsOk X):CF P 12 293 [.ref A.m] (MH A {v with dp:=0} (esD X)++esH X) ⟨VM,fun v=>v.s=s'∧v.st=[]∧[v.text]=[w],fun v=>MH0 A {v with dp:=0} [],fun v=>.ok (.tup [.str "done",.str (S v.text)])⟩ true:=
 cfnd_of (fun d F=>.pl 0<|.pl 5<|.pl 5<|.pl 5<|.pl 5<|.wh (fun x=>ctN x.2.2) (RunC A R ⟨R.length,[w],[],s'⟩) (fun x=>ctM A F x.1 x.2.1 x.2.2) (fun U=>[]) ({v with dp:=1},X,some (ms,k0)) ⟨rfl,fun q e=>by (injection e with e1; subst e1); exact ⟨⟨r.pc,r.st,r.es,r.s⟩,hX,hl⟩,nofun⟩ fun x h=>.or (opt_or x.2.2)
  (fun e=>.hp (L:=ctM A F x.1 x.2.1 x.2.2) (M:=MH0 A x.1 []++F) (hpE (by rw [e,(h.off e).2.2.1]; rfl))<|.pl 0<|.pl 0<|.pl 1<|.fa (leK rfl:([]:List AV).length<=lim)<|.pl 5<|.pl 5<|.ed 5 (host_0 (A:=A) (n:=x.1.spent) h.dp)<|.pl 0<|.pl 0<|.fin x.1 ⟨(h.off e).1,(h.off e).2.1,(h.off e).2.2.2⟩)
  fun e=>.ex e fun q e=>.hp (L:=ctM A F x.1 x.2.1 x.2.2) (M:=MH A x.1 (esD x.2.1)++esH x.2.1++F) (hpE (congrArg (ctM A F x.1 x.2.1) e))<|.pl 0<|.pl 0<|.pl 1<|.fa (leK rfl:[AV.ref A.a].length<=lim)<|.pl 0<|.or (starN_0 (h.on q e).2.2)
   (fun z=>.cO (esH x.2.1++F) (last_spec (esD x.2.1) (w:=w) C ((h.on q e).1.pc.trans (congrArg MS.pc z)) ((h.on q e).1.st.trans (congrArg MS.st z)))<|.hp (L:=MH0 A {x.1 with st:=[],text:=w} (esD x.2.1)++(esH x.2.1++F)) (M:=MH0 A {x.1 with st:=[],text:=w} (esD [])++F) (hpE (by rw [h.emp e z rfl]; rfl))<|
    .go 0 rfl (.mk ({x.1 with st:=[],text:=w},[],none) ⟨h.dp,nofun,fun U=>⟨(h.on q e).1.s.trans (congrArg MS.s z),rfl,rfl,rfl⟩⟩ (by rw [e]; exact Nat.succ_pos _)))
   fun z=>.ex z fun p z=>.cF F (stp_spec C z.2.1 (h.on q e).1 (h.on q e).2.1) fun y hy=>.go 0 rfl (.mk (y.1,y.2,some (p.2,p.1)) ⟨hy.2.trans h.dp,fun q e=>by (injection e with e1; subst e1); exact ⟨hy.1.1,hy.1.2,z.2.2⟩,nofun⟩ (by rw [e]; show p.1+1<q.2+1; rw [z.1]; exact Nat.lt_succ_self _))) (by kernel_rfl)
theorem mrun_esc {c:Nat} {w:T} {s':RS} {k0:Nat} {e:MS} (C:Ctx A R sl) (hl:StarN ⟨R,A.rgs⟩ k0 ms e) (hE:Esc ⟨R,A.rgs⟩ e c w s') (r:Rep v X ms) (hX:XsOk X):CF P 12 293 [.ref A.m] (MH A {v with dp:=0} (esD X)++esH X) ⟨XS,fun x=>x.v.s=s',fun x=>(x.i,excO c w x.ec x.el x.y)::(MH0 A {x.v with dp:=0} (esD x.X)++esH x.X),fun x=>.er x.i⟩ true:=
 cfnd_of (fun d F=>.pl 0<|.pl 5<|.pl 5<|.pl 5<|.pl 5<|.wh (fun x=>x.2.2.2) (RunX A R e) (fun x=>MH A x.1 (esD x.2.1)++esH x.2.1++F) (fun U=>[]) ({v with dp:=1},X,ms,k0) ⟨rfl,⟨r.pc,r.st,r.es,r.s⟩,hX,hl⟩ fun x h=>.pl 0<|.pl 0<|.pl 1<|.fa (leK rfl:[AV.ref A.a].length<=lim)<|.pl 0<|.or (starN_0 h.n)
   (fun z=>.ex hE.h fun m hm=>.cF F (step_esc C (z▸hm.1) (z▸hE.t) h.r h.xo) fun y hy=>.pl 6<|.pl 6<|.ed 6 (host_0 (A:=A) (n:=y.v.spent) (hy.2.trans h.dp))<|.fin y (hy.1.trans hm.2))
   fun z=>.ex z fun p z=>.cF F (stp_spec C z.2.1 h.r h.xo) fun y hy=>.go 0 rfl (.mk (y.1,y.2,p.2,p.1) ⟨hy.2.trans h.dp,hy.1.1,hy.1.2,z.2.2⟩ (by rw [z.1]; exact Nat.lt_succ_self _))) (by kernel_rfl)
end
noncomputable def RS0:RS:=⟨[49,32,50],1,[101],1,[]⟩
noncomputable def V0 (k sp:Nat):VM:=⟨k,0,[],RS0,0,sp,0,false,false,[]⟩
structure RA where
 (a n sl ea:Nat)
noncomputable abbrev MA.at (A:MA) (ac:Nat) (x:RA):MA:={A with ac:=ac,a:=x.a,n:=x.n,sl:=x.sl,ea:=x.ea}
noncomputable def PreH (A:MA) (sp:Nat):HL:=
 (A.m,machO A 0 [])::(A.ac,.list [])::(A.h,hostO A 0 sp)::(A.vs,.dict [(.str "x",.ref A.vx),(.str "y",.ref A.vy)])::(A.vx,varO RS0.x RS0.nx A.tx)::(A.vy,varO RS0.y RS0.ny A.ty)::
 (A.cm,.dict (cmdsD A))::(A.op,.dict opsD)::(A.c,codeO A)::(A.r,.list A.rows)::(A.g,.list (A.rgs.map rgAv))::(A.s,.list (A.ss.map srAv))::(A.lg,.list [])::[(A.se,.list [])]
theorem perm20 {ac e s k a n m a0 h vs vx vy cm op c r g ss lg se:Nat×AObj} {F:HL}:∀ σ,H σ (ac::e::s::k::a::n::m::a0::h::vs::vx::vy::cm::op::c::r::g::ss::lg::se::F)->H σ (a0::m::ac::a::k::e::h::vs::vx::vy::cm::op::c::r::g::ss::n::lg::se::s::F):=fun σ z=>z.perm (by
 have p:([0,1,2,3,4,5,6,7,8,9,10,11,12,13,14,15,16,17,18,19]:List Nat).Perm [7,6,0,4,3,1,8,9,10,11,12,13,14,15,16,17,5,18,19,2]:=by decide +kernel
 exact (p.map fun i=>[ac,e,s,k,a,n,m,a0,h,vs,vx,vy,cm,op,c,r,g,ss,lg,se].getD i ac).append_right F)
section
variable {P:Params} {Po:Post} {Λ:List LJ} (A:MA) {R:List Row} {sl:Bool} {sp:Nat}
noncomputable def Hn.rc (F:HL) (k:∀ (ac j:Nat) (x:RA) {Λ':List LJ},Hn P Po Λ'):Hn P Po Λ:=
 .pl 0<|.pl 2<|.pl 0<|.nw fun n=>.il<|.pl 0<|.pl 0<|.pl 0<|.pl 0<|.nw fun a=>.il<|.pl 0<|.pl 0<|.pl 0<|.nw fun j=>.pl 1<|.pl 11<|.fa (leK rfl:[AV.str "x",AV.str "y"].length<=lim)<|.fa (by decide:2<=1000)<|.fa (leK rfl:(List.replicate [AV.str "x",AV.str "y"].length AV.none).length<=lim)<|.nw fun s=>.pl 2<|.nw fun e=>.pl 3<|.pl 3<|.nw fun ac=>.pl 6<|
 .hp (L:=(ac,.list [.ref a])::(e,.dict [])::(s,.list [.none,.none])::(j,.list [])::(a,actO (A.at ac ⟨a,n,s,e⟩) 0 j)::(n,nestO)::(A.m,machO (A.at ac ⟨a,n,s,e⟩) 0 [])::((PreH A sp).tail++F)) (M:=(A.ac,.list [])::(MH (A.at ac ⟨a,n,s,e⟩) (V0 j sp) (esD [])++esH []++F)) perm20<|k ac j ⟨a,n,s,e⟩
theorem Ctx.at {A:MA} (C:Ctx A R sl) (ac:Nat) (x:RA):Ctx (A.at ac x) R sl:=⟨C.rows,C.len,C.ss,C.sl,C.gl,C.est⟩
theorem code_ok {w:T} {s':RS} {k0:Nat} (C:Ctx A R sl) (hl:StarN ⟨R,A.rgs⟩ k0 ⟨0,[],[],RS0⟩ ⟨R.length,[w],[],s'⟩):CF P 13 307 [.ref A.m,.ref A.c] (PreH A sp) ⟨VM×RA,fun x=>x.1.s=s'∧x.1.st=[]∧[x.1.text]=[w],fun x=>MH0 (A.at A.ac x.2) {x.1 with dp:=0} [],fun x=>.ok (.str (S x.1.text))⟩ true:=
 cfnd_of (fun d F=>.rc A (sp:=sp) F fun ac j x=>.pl 1<|.cF F ((mrun_ok (C.at ac x) (v:=V0 j sp) (X:=[]) hl ⟨rfl,rfl,rfl,rfl⟩ ⟨nofun,trivial,nofun⟩).fst (A.ac,.list [])) fun v hv=>.pl 1<|.pl 1<|.pl 1<|.pl 6<|.dr 2<|.bk 1<|.fin (v,x) hv) (by kernel_rfl)
theorem code_esc {c:Nat} {w:T} {s':RS} {k0:Nat} {e:MS} (C:Ctx A R sl) (hl:StarN ⟨R,A.rgs⟩ k0 ⟨0,[],[],RS0⟩ e) (hE:Esc ⟨R,A.rgs⟩ e c w s'):CF P 13 307 [.ref A.m,.ref A.c] (PreH A sp) ⟨XS×RA,fun x=>x.1.v.s=s',fun x=>(x.1.i,excO c w x.1.ec x.1.el x.1.y)::(MH0 (A.at A.ac x.2) {x.1.v with dp:=0} (esD x.1.X)++esH x.1.X),fun x=>.er x.1.i⟩ true:=
 cfnd_of (fun d F=>.rc A (sp:=sp) F fun ac j x=>.pl 1<|.cF F ((mrun_esc (C.at ac x) (v:=V0 j sp) (X:=[]) hl hE ⟨rfl,rfl,rfl,rfl⟩ ⟨nofun,trivial,nofun⟩).fst (A.ac,.list [])) fun y hy=>.pl 2<|.pl 2<|.pl 2<|.pl 7<|.dr 3<|.bk 2<|.fin (y,x) hy) (by kernel_rfl)
end
structure OutG (n k:Nat) (o:Out'):Prop where
 e:∀ m ns,Row.estart m ns∈o.rows->m<n+o.n
 s:∀ e∈o.ss,e.2.2.length<=9000
 c:11*o.n<=k
theorem OutG.le {n k j:Nat} {o:Out'} (h:OutG n k o) (l:k<=j):OutG n j o:=⟨h.e,h.s,Nat.le_trans h.c l⟩
theorem OutG.nil {n:Nat}:OutG n 0 .nil:=⟨nofun,nofun,Nat.le_refl _⟩
theorem OutG.row {n:Nat} {r:Row} (h:∀ m ns,r≠.estart m ns):OutG n 0 (.row r):=⟨fun m ns q=>absurd (List.mem_singleton.mp q).symm (h m ns),nofun,Nat.le_refl _⟩
theorem OutG.add {n j k:Nat} {a b:Out'} (h:OutG n j a) (i:OutG (n+a.n) k b):OutG n (j+k) (a.add b):=
 ⟨fun m ns q=>(List.mem_append.mp q).elim (fun q=>Nat.lt_of_lt_of_le (h.e m ns q) (Nat.add_le_add_left (Nat.le_add_right ..) _)) fun q=>by have:=i.e m ns q; rw [Nat.add_assoc] at this; exact this,fun e q=>(List.mem_append.mp q).elim (h.s e) (i.s e),(Nat.mul_add 11 a.n b.n).symm▸Nat.add_le_add h.c i.c⟩
theorem OutG.src {n k a:Nat} {sh:Str} {o:Out'} (h:OutG n k o) (l:sh.length<=9000):OutG n k (srcO a sh o):=⟨h.e,fun e q=>(List.mem_append.mp q).elim (h.s e) fun q=>by rw [List.mem_singleton.mp q]; exact l,h.c⟩
theorem OutG.loop {n j k num:Nat} {lm:Bool} {ns:List (List Bool)} {g:Rg} {a b:Out'} (h:OutG n j a) (e:n+a.n=num) (i:OutG (num+1) k b):OutG n (j+k+11) (loopO lm ns num g a b):=by
 have z:n+(loopO lm ns num g a b).n=num+1+b.n:=by rw [← e]; show n+(a.n+1+b.n)=_; lia
 refine ⟨fun m ns' q=>?_,fun e q=>(List.mem_append.mp q).elim (h.s e) (i.s e),by have:=h.c; have:=i.c; show 11*(a.n+1+b.n)<=_; lia⟩
 rw [z]
 rcases List.mem_append.mp q with q | q
 ·have:=h.e m ns' q; lia
 rcases List.mem_cons.mp q with q | q
 ·(injection q with e1 e2; subst e1 e2); lia
 rcases List.mem_cons.mp q with q | q
 ·injection q
 rcases List.mem_append.mp q with q | q
 ·obtain ⟨x,hx,q⟩:=List.mem_map.mp q
  induction x using Row.casesOn <;> (first | (injection q; done) | (injection q with e1 e2; subst e1 e2))
  exact i.e _ _ hx
 ·induction lm using Bool.casesOn <;> simp only [takeR,cond,List.mem_cons,List.not_mem_nil,or_false,reduceCtorEq] at q
noncomputable def PG (t:Tm):Prop:=∀ a n p lp,OutG n t.sz (put a n p lp t)
theorem pg_L:∀ {l:List Tm},(∀ c∈l,PG c)->∀ {a n p lp},OutG n (szL l) (putL a n p lp l)
 | [],_,_,_,_,_=>.nil
 | c::r,h,_,_,_,_=>.le (.add (h c (.head _) ..) (pg_L fun c hc=>h c (.tail _ hc))) (by rw [szL,Nat.add_assoc]; exact Nat.le_add_left ..)
theorem pg_R:∀ {l:List Tm},(∀ c∈l,PG c)->∀ {a n p lp},OutG n (szL l) (putR a n p lp l)
 | [],_,_,_,_,_=>.nil
 | c::r,h,_,_,_,_=>.le (.add (.row nofun) (.add (h c (.head _) ..) (pg_R fun c hc=>h c (.tail _ hc)))) (by rw [szL]; lia)
noncomputable def dN (d i:Nat):Nat:=7*d+2*i+2
noncomputable def eN:Nat->Nat
 | 0=>0
 | d+1=>322+28*eN d
noncomputable def zN (d:Nat):Nat->Nat
 | 0=>eN d
 | i+1=>15+2*zN d i
structure Cm (P:Params) (d i:Nat) (c:Tm):Prop where
 s:SimE (Lv d) c
 r:CmdOk P (dN d i) c
 p:PCmdOk P (dN d i) c
 g:PG c
 z:c.sz<=zN d i
structure Wd (P:Params) (n b:Nat) (R:T->Prop) (c:Tm):Prop where
 s:SimE R c
 r:TextOk P n c
 p:PTextOk P n c
 g:PG c
 z:c.sz<=b
section
variable {P:Params} {d i n m b b':Nat} {R:T->Prop} {X:Tm->Prop} {t c:Tm} {w ws:List Tm}
theorem TextOk.le (h:TextOk P n c) (hn:n<=m):TextOk P m c:=fun {a dx lg p s} o k=>(h o k).le hn
theorem PTextOk.le (h:PTextOk P n c) (hn:n<=m):PTextOk P m c:=fun {sl A lp z p} k=>(h k).le hn
theorem Wd.le (h:Wd P n b R c) (hn:n<=m) (hb:b<=b'):Wd P m b' R c:=⟨h.s,TextOk.le h.r hn,PTextOk.le h.p hn,h.g,Nat.le_trans h.z hb⟩
theorem CmdOk.le (h:CmdOk P n c) (hn:n<=m):CmdOk P m c:=by
 induction h using CmdOk.casesOn with
 | each h=>exact .each fun {a dx lg p s} o k=>(h o k).le hn
 | call h=>exact .call ⟨h.l,fun w hw=>TextOk.le (h.t w hw) hn,h.b,h.o⟩
theorem PCmdOk.le (h:PCmdOk P n c) (hn:n<=m):PCmdOk P m c:=by
 induction h using PCmdOk.casesOn with
 | each h=>exact .each fun {sl A lp z p} k=>(h k).le hn
 | call l t j=>exact .call l (fun w hw=>PTextOk.le (t w hw) hn) j
theorem zN_up:zN d i<=zN d (i+1):=by show _<=15+2*zN d i; lia
theorem Cm.up (h:Cm P d i c):Cm P d (i+1) c:=⟨h.s,h.r.le (by unfold dN; lia),h.p.le (by unfold dN; lia),h.g,Nat.le_trans h.z zN_up⟩
theorem cm_runs:RunsOk P (dN d i+1) (Cm P d i):=run_ok (l:=d) (fun c h=>h.s.t) (Nat.le_add_left ..) fun c h=>h.r
theorem cm_puts:PutsOk P (dN d i+1) (Cm P d i):=puts_ok fun c h=>h.p
structure Pc (P:Params) (d i:Nat) (R:T->Prop) (c:Tm):Prop where
 s:SimE R c
 x:PcI (Cm P d i) c
 g:PG c
 z:c.sz<=1+zN d i
theorem pc_t {s:T} (h:R s) (k:s.length<=100):Pc P d i R (.t s):=⟨⟨sim_t,fun p=>.pure h⟩,.t k,fun a n p lp=>.le (.row nofun) (Nat.zero_le _),Nat.le_add_right ..⟩
theorem pc_v {y:Bool} (h:∀ {t},isV t->R t):Pc P d i R (.v y):=⟨⟨sim_v,fun p s hs=>.okI (h (hs.var y)) hs (Nat.le_add_right ..)⟩,.v,fun a n p lp=>.le (.row nofun) (Nat.zero_le _),Nat.le_add_right ..⟩
theorem pc_c (h:Cm P d i c) (k:∀ {t},Lv d t->R t):Pc P d i R (.c c):=⟨⟨sim_c h.s.s,fun p=>(h.s.t p).mono (Nat.le_add_left ..) fun U=>k⟩,.c h,fun a n p lp=>(h.g a n p lp).le (Nat.le_add_left ..),Nat.add_le_add_left h.z _⟩
theorem wo (hw:∀ c∈w,∃ R,Pc P d i R c∧∀ t,R t->t.length<=100) (h0:0<w.length) (hl:w.length<=3) (ht:∀ vs,F2 w vs->R vs.flatten) (hb:1+szL w<=b):Wd P (dN d i+2) b R (.word w):=
 have g:WG (Cm P d i) w:=⟨hl,fun c hc=>(hw c hc).elim fun R h=>h.1.x⟩
 ⟨⟨sim_w ⟨h0,hl,fun c hc=>(hw c hc).elim fun R h=>⟨h.1.s.s,fun p=>(h.1.s.t p).mono (Nat.le_refl _) h.2⟩⟩,fun p=>Trp.mono (b:=szL w+0) ((tr_L (fun c hc=>(hw c hc).elim fun R h=>⟨R,h.1.s.t⟩) p).bind fun vs q=>.pure (ht vs q)) (Nat.le_add_left ..) fun U q=>q⟩,
  text_ok (l:=d) (fun c h=>h.s.t) cm_runs g,ptext_ok cm_puts g,fun a n p lp=>.le (.add (pg_L fun c hc=>(hw c hc).elim fun R h=>h.1.g) (show OutG _ 0 _ by induction decide (1<w.length) using Bool.casesOn; exact .nil; exact .row nofun)) (Nat.le_add_left ..),hb⟩
theorem w1 (h:Pc P d i R c) (k:∀ t,R t->t.length<=100):Wd P (dN d i+2) (3+zN d i) R (.word [c]):=
 wo (fun x hx=>List.mem_singleton.mp hx▸⟨R,h,k⟩) Nat.one_pos (leK rfl) (fun vs q=>by
  cases q with | cons h1 r=>cases r with | nil=>
  show R (_++[]); rw [List.append_nil]; exact h1 R h.s.t) (by have:=h.z; show 1+(1+c.sz+0)<=_; lia)
theorem lv_100 {t:T} (h:Lv d t):t.length<=100:=h.to2.1
theorem okArg_100 {t:T} (h:okArg t):t.length<=100:=h.elim (fun h=>Nat.le_trans (isJ_len h) (by decide)) fun h=>h▸by decide
noncomputable def first (t:T):Prop:=t.length<=300∧okT t=true
set_option tactic.hygienic true in
theorem w3 (h:Cm P d i c):Wd P (dN d i+2) (7+zN d i) first (.word [.t [101],.c c,.v true]):=
 have p1:Pc P d i (fun t=>Lv 2 t) (.t [101]):=pc_t (Lv.ofV ⟨.e,rfl⟩) (by decide)
 have p2:Pc P d i (Lv d) (.c c):=pc_c h fun h=>h
 have p3:Pc P d i (fun t=>Lv 2 t) (.v true):=pc_v Lv.ofV
 wo (fun x hx=>by
   rcases List.mem_cons.mp hx with rfl | hx
   ·exact ⟨_,p1,fun U h=>h.1⟩
   rcases List.mem_cons.mp hx with rfl | hx
   ·exact ⟨_,p2,fun U=>lv_100⟩
   ·rw [List.mem_singleton.mp hx]; exact ⟨_,p3,fun U h=>h.1⟩) (Nat.succ_pos _) (leK rfl) (fun vs q=>by
  cases q with | cons h1 r=>cases r with | cons h2 r=>cases r with | cons h3 r=>cases r with | nil=>
  have a:=h1 _ p1.s.t
  have b:=(h2 _ p2.s.t).to2
  have c:=h3 _ p3.s.t
  rename_i x y z
  show first (x++(y++(z++[])))
  rw [List.append_nil]
  exact ⟨by rw [List.length_append,List.length_append]; have:=a.1; have:=b.1; have:=c.1; lia,by unfold okT; rw [List.all_append,List.all_append]; exact Bool.and_eq_true_iff.mpr ⟨a.2,Bool.and_eq_true_iff.mpr ⟨b.2,c.2⟩⟩⟩) (by have:=h.z; show 1+(1+1+(1+(1+c.sz)+(1+1+0)))<=_; lia)
theorem cm_call {nm:Nm} {sh:Str} (hl:ws.length<=2) (hw:∀ w∈ws,∃ R b,Wd P (dN d i+2) b R w) (hO:∀ ts,F2 ws ts->OkI d nm ts) (hj:isJmp nm≠none->ws=[]) (hs:sh.length<=9000) (hz:3+szL ws<=zN d (i+1)):Cm P d (i+1) (.call nm ws sh):=
 have tr:∀ p,Trp (runL p ws) (szL ws) (OkI d nm):=fun p=>(tr_L (fun c hc=>(hw c hc).elim fun R h=>h.elim fun b h=>⟨R,h.s.t⟩) p).mono (Nat.le_refl _) hO
 have e:dN d i+2=dN d (i+1):=by unfold dN; lia
 ⟨⟨sim_call (fun w h=>(hw w h).elim fun R h=>h.elim fun b h=>⟨R,h.s⟩) tr hj,fun p=>Trp.mono (b:=szL ws+1) ((tr (p+1)).bind fun ts q=>doIt_tr q) (by rw [Tm.sz]; lia) fun U q=>q⟩,
  .call ⟨hl,fun w h=>(hw w h).elim fun R h=>h.elim fun b h=>e▸h.r,fun w h=>(hw w h).elim fun R h=>h.elim fun b h=>⟨R,h.s.t⟩,fun p=>(tr p).mono (Nat.le_refl _) fun ts q=>⟨d,q⟩⟩,
  .call hl (fun w h=>(hw w h).elim fun R h=>h.elim fun b h=>e▸h.p) hj,fun a n p lp=>.src (by
   have k:OutG n (Tm.call nm ws sh).sz (callO nm ws.length (putL (a+1) n (p+1) lp ws)):=.le (.add (.row nofun) (.add (pg_L fun w h=>(hw w h).elim fun R h=>h.elim fun b h=>h.g) (.row nofun))) (by rw [Tm.sz]; lia)
   unfold callX
   induction isJmp nm using Option.casesOn with
   | none=>exact k
   | some b=>induction (lp==some p) using Bool.casesOn; exact k; exact .le (.row nofun) (Nat.zero_le _)) hs,hz⟩
theorem szL_le:∀ {l:List Tm},(∀ c∈l,c.sz<=b)->szL l<=l.length*(1+b)
 | [],_=>Nat.zero_le _
 | c::r,h=>by
  have:=szL_le fun c hc=>h c (.tail _ hc)
  have:=h c (.head _)
  rw [szL,List.length_cons,Nat.succ_mul]; lia
theorem cm_each {lm:Bool} {ns:List (List Bool)} {r:List Tm} {sh:Str} (D:EachD d ns ws) (hw:∀ w∈ws,Wd P (dN d 1+2) (3+zN d 1) okArg w) (hb:Cm P d 2 c) (hr:∀ c∈r,Cm P d 2 c) (rl:r.length<=1) (hs:sh.length<=9000):Cm P (d+1) 0 (.each lm ns ws c r sh):=
 have all:∀ x∈c::r,Cm P d 2 x:=fun x hx=>(List.mem_cons.mp hx).elim (fun e=>e▸hb) (hr x)
 ⟨⟨sim_each D (fun w h=>(hw w h).s) hb.s fun c h=>(hr c h).s,fun p=>each_tr D (fun w h=>(hw w h).s.t) hb.s.t fun c h=>(hr c h).s.t⟩,
  (CmdOk.each (loop_ok (n:=dN d 2+1) ⟨D,Nat.le_add_left 3 _,fun w h=>(hw w h).s.t,fun w h=>TextOk.le (hw w h).r (by unfold dN; lia),fun p=>body_tr hb.s.t fun c h=>(hr c h).s.t,fun hX=>cm_runs fun x hx=>all x (hX x hx)⟩)).le (by unfold dN; lia),
  (PCmdOk.each (ploop_ok (N:=dN d 2+1) D.n D.l (fun w h=>PTextOk.le (hw w h).p (by unfold dN; lia)) cm_puts hb hr)).le (by unfold dN; lia),
  fun a n p lp=>.src (.le (.loop (pg_L fun w h=>(hw w h).g) rfl (.add (hb.g ..) (pg_R fun c h=>(hr c h).g))) (by rw [Tm.sz]; lia)) hs,by
  have h1:=szL_le fun w h=>(hw w h).z
  have h2:=szL_le fun c h=>(hr c h).z
  have h3:=Nat.le_trans h1 (Nat.mul_le_mul_right _ D.l)
  have h4:=Nat.le_trans h2 (Nat.mul_le_mul_right _ rl)
  have h5:=hb.z
  have z1:zN d 1=15+2*eN d:=rfl
  have z2:zN d 2=15+2*(15+2*eN d):=rfl
  rw [z1] at h3
  rw [z2] at h4 h5
  show 8+szL ws+3*(1+c.sz+szL r)<=322+28*eN d
  lia⟩
noncomputable def Bn (P:Params) (d i:Nat) (t:Tm):Nat->Prop
 | 0=>Cm P d i t
 | 1=>Pc P d i (Lv d) t
 | 2=>Pc P d i okArg t
 | 3=>Wd P (dN d i+2) (7+zN d i) first t
 | 4=>Wd P (dN d i+2) (3+zN d i) (Lv d) t
 | _=>Wd P (dN d i+2) (3+zN d i) okArg t
theorem two {P:Tm->Prop} {a b:Tm} (h:P a) (k:P b):∀ w∈[a,b],P w:=fun w hw=>(List.mem_cons.mp hw).elim (fun e=>e▸h) fun hw=>List.mem_singleton.mp hw▸k
theorem Kc.ok {k:Nat} (h:Kc k d i t):Bn P d i t k:=by
 induction h with
 | up _ ih=>exact Cm.up ih
 | pt h=>exact pc_t h (lv_100 h)
 | pv=>exact pc_v Lv.ofV
 | pc _ ih=>exact pc_c ih fun q=>q
 | «at» h=>exact pc_t h (okArg_100 h)
 | av=>exact pc_v fun h=>.inl (isV_isJ h)
 | ac _ l ih=>exact pc_c ih fun q=>.inl (lv_J l q)
 | w3 _ ih=>exact Mine.w3 ih
 | wf _ ih=>exact ⟨⟨ih.s.s,fun p=>(ih.s.t p).mono (Nat.le_refl _) fun U q=>⟨Nat.le_trans (lv_100 q) (by decide),q.to2.2⟩⟩,ih.r,ih.p,ih.g,Nat.le_trans ih.z (Nat.add_le_add_right (by decide) _)⟩
 | w1 _ ih=>exact Mine.w1 ih fun U=>lv_100
 | wa _ ih=>exact Mine.w1 ih fun U=>okArg_100
 | @re d i w u sh _ _ l ih1 ih2=>
  exact cm_call (Nat.le_refl 2) (two ⟨_,_,ih1⟩ ⟨_,_,ih2⟩) (fun ts q=>by
   cases q with | cons h1 r=>cases r with | cons h2 r=>cases r with | nil=>
   have a:=h1 _ ih1.s.t
   exact .re a.1 a.2 (h2 _ ih2.s.t)) (fun h=>absurd rfl h) l (by have:=ih1.z; have:=ih2.z; show 3+(1+w.sz+(1+u.sz+0))<=15+2*zN d i; lia)
 | @put d i y u sh _ l ih=>
  have p1:Wd P (dN d i+2) (3+zN d i) (fun t=>t=vT y) (.word [.t (vT y)]):=Mine.w1 (pc_t rfl (by induction y using Bool.casesOn <;> decide)) fun t e=>e▸by induction y using Bool.casesOn <;> decide
  have p2:Wd P (dN d i+2) (3+zN d i) (Lv 0) u:=Wd.le (b:=3+zN 0 0) (n:=dN 0 0+2) ih (by unfold dN; lia) (Nat.add_le_add_left (Nat.zero_le _) _)
  exact cm_call (Nat.le_refl 2) (two ⟨_,_,p1⟩ ⟨_,_,p2⟩) (fun ts q=>by
   cases q with | cons h1 r=>cases r with | cons h2 r=>cases r with | nil=>
   have a:=h1 _ p1.s.t
   subst a
   exact .put (h2 _ p2.s.t)) (fun h=>absurd rfl h) l (by have:=p1.z; have:=p2.z; show 3+(1+Tm.sz _+(1+u.sz+0))<=15+2*zN d i; lia)
 | @stop d i u sh _ l ih=>
  exact cm_call (Nat.le_succ 1) (fun w hw=>List.mem_singleton.mp hw▸⟨_,_,ih⟩) (fun ts q=>by
   cases q with | cons h1 r=>cases r with | nil=>
   exact .stop (h1 _ ih.s.t)) (fun h=>absurd rfl h) l (by have:=ih.z; show 3+(1+u.sz+0)<=15+2*zN d i; lia)
 | brk l=>exact cm_call (Nat.zero_le _) nofun (fun ts q=>by cases q; exact .brk) (fun U=>rfl) l (Nat.le_trans (by decide) (Nat.le_add_right 15 _))
 | cnt l=>exact cm_call (Nat.zero_le _) nofun (fun ts q=>by cases q; exact .cnt) (fun U=>rfl) l (Nat.le_trans (by decide) (Nat.le_add_right 15 _))
 | each D _ _ _ rl l iw ib ir=>exact cm_each D iw ib ir rl l
end
noncomputable def lawO (b:Tm) (r:List Tm):Out':=(put 0 0 0 none b).add (putR (0+(put 0 0 0 none b).len) (0+(put 0 0 0 none b).n) 0 none r)
theorem at_law {o:Out'}:At ⟨o.rows,o.rgs⟩ 0 o none:=⟨⟨[],by rw [List.append_nil]; exact (List.map_id _).symm⟩,fun q U U=>(Option.or_none).symm⟩
theorem ok_RS0:okRS RS0:=⟨⟨.ot,rfl⟩,⟨.e,rfl⟩,nofun⟩
structure LawD (P:Params) (b:Tm) (r:List Tm):Prop where
 h:∀ c∈b::r,Cm P 2 1 c
 z:1+b.sz+szL r<=9800
section
variable {P:Params} {b:Tm} {r:List Tm}
theorem LawD.tr (h:LawD P b r):Trp (runR 0 [] (b::r)) (1+b.sz+szL r) (Lv 2):=body_tr (h.h b (.head _)).s.t fun c hc=>(h.h c (.tail _ hc)).s.t
theorem LawD.tot (h:LawD P b r):(lawO b r).tot<=9800:=Nat.le_trans (Nat.le_of_eq tot_add) (Nat.le_trans (Nat.add_le_add (tot_C b) (tot_R r)) (by have:=h.z; lia))
theorem LawD.g (h:LawD P b r):OutG 0 (1+b.sz+szL r) (lawO b r):=.le (.add ((h.h b (.head _)).g ..) (pg_R fun c hc=>(h.h c (.tail _ hc)).g)) (by lia)
theorem LawD.sim (h:LawD P b r):SimG ⟨(lawO b r).rows,(lawO b r).rgs⟩ none [] [] ⟨0,[],[],RS0⟩ (0+(lawO b r).len) v1 (runR 0 [] (b::r) RS0):=
 sim_body (R:=Lv 2) (ou:=none) (lp:=none) rfl (h.h b (.head _)).s (fun c hc=>(h.h c (.tail _ hc)).s) rfl at_law [] [] RS0 ⟨rfl,nofun,nofun,by have:=h.z; lia,ok_RS0,by have:=h.z; show 0+_<=_; lia⟩
theorem LawD.ok (h:LawD P b r) {w:T} {s':RS} (e:runR 0 [] (b::r) RS0=(.ok w,s')):∃ k,StarN ⟨(lawO b r).rows,(lawO b r).rgs⟩ k ⟨0,[],[],RS0⟩ ⟨(lawO b r).rows.length,[w],[],s'⟩:=by
 have k:=h.sim
 rw [e,Nat.zero_add] at k
 exact Star.count k
theorem LawD.ex (h:LawD P b r) {c:Nat} {w:T} {s':RS} (e:runR 0 [] (b::r) RS0=(.ex c w,s')):∃ q:Nat×MS,StarN ⟨(lawO b r).rows,(lawO b r).rgs⟩ q.1 ⟨0,[],[],RS0⟩ q.2∧Esc ⟨(lawO b r).rows,(lawO b r).rgs⟩ q.2 c w s':=by
 have k:=h.sim
 rw [e] at k
 induction k using Outc.casesOn with
 | brk e=>injection e
 | cnt e=>injection e
 | @out m n k z=>exact (Star.count k).elim fun j k=>⟨(j,m),k,z⟩
theorem LawD.ctx (h:LawD P b r) {A:MA} {sl:Bool} (e1:A.rows=(lawO b r).rows.map (rowAv sl)) (e2:A.rgs=(lawO b r).rgs) (e3:A.ss=(lawO b r).ss):Ctx A (lawO b r).rows sl:=by
 have t:=h.tot
 unfold Out'.tot at t
 have g:=h.g
 have z:=h.z
 exact ⟨e1,by lia,e3▸g.s,by rw [e3]; lia,by rw [e2]; lia,fun n ns q=>by have:=g.e n ns q; have:=g.c; lia⟩
end
theorem law_d {P:Params} {e:Tm} (h:Kc 0 2 0 e):LawD P firstC [e,lastC]:=by
 have a:Cm P 2 1 firstC:=k_first.ok
 have b:Cm P 2 0 e:=h.ok
 have c:Cm P 2 1 lastC:=k_last.ok
 refine ⟨fun x hx=>?_,?_⟩
 ·rcases List.mem_cons.mp hx with rfl | hx
  ·exact a
  ·exact two b.up c x hx
 ·have:=b.z
  have e1:firstC.sz=11:=rfl
  have e2:lastC.sz=11:=rfl
  have e3:zN 2 0=9338:=rfl
  show 1+firstC.sz+(1+e.sz+(1+lastC.sz+0))<=9800
  lia
structure Sd (σ:AHeap) (n:Nat) (a:AV):Prop where
 h:∃ d,DatR σ n a d∧PyData.eqv d d=true
section
variable {σ:AHeap} {n:Nat}
theorem sds:∀ {xs:List AV},(∀ x∈xs,Sd σ n x)->∃ ds,DatsR σ n xs ds∧PyData.eqvAll ds ds=true
 | [],_=>⟨[],.nil,rfl⟩
 | x::r,h=>(h x (.head _)).h.elim fun d hd=>(sds fun y hy=>h y (.tail _ hy)).elim fun ds k=>⟨d::ds,.cons hd.1 k.1,Bool.and_eq_true_iff.mpr ⟨hd.2,k.2⟩⟩
theorem Sd.str {t:T} (h:okT t=true):Sd σ (n+1) (.str (S t)):=⟨_,.str ((strOk_S t).trans h),beq_self_eq_true (S t)⟩
theorem Sd.int {i:Int}:Sd σ (n+1) (.int i):=⟨_,.int,beq_self_eq_true i⟩
theorem Sd.tup {xs:List AV} (h:∀ x∈xs,Sd σ n x):Sd σ (n+1) (.tup xs):=(sds h).elim fun ds k=>⟨.tuple ds,.tup k.1,k.2⟩
theorem sd2 {a b:AV} (h:Sd σ n a) (k:Sd σ n b):∀ x∈[a,b],Sd σ n x:=fun x hx=>(List.mem_cons.mp hx).elim (fun e=>e▸h) fun hx=>List.mem_singleton.mp hx▸k
theorem Sd.log {l:List (List T×Nat)} (h:∀ e∈l,∀ t∈e.1,okT t=true):∀ x∈logAv l,Sd σ (n+3) x:=fun x hx=>by
 obtain ⟨e,he,rfl⟩:=List.mem_map.mp hx
 exact .tup (sd2 (.tup fun x hx=>by obtain ⟨t,ht,rfl⟩:=List.mem_map.mp hx; exact .str (h e he t ht)) .int)
end
theorem ne_tup {a b:AV} (e:a=b) (h:∀ σ,Sd σ 6 a):CmpS .NotEq a b (.bool false):=⟨false,rfl,fun σ=>(h σ).h.elim fun d k=>e▸by
 have:=CmpR.ne (.d k.1 k.1)
 rw [k.2] at this; exact this⟩
theorem ne_logs {L:HL} {i j k m:Nat} {l l':List (List T×Nat)} (e:l=l') (h1:L[k]?=some (i,.list (logAv l))) (h2:L[m]?=some (j,.list (logAv l'))) (h:∀ e∈l,∀ t∈e.1,okT t=true):CmpH L .NotEq (.ref i) (.ref j) (.bool false):=⟨false,rfl,fun σ z=>(sds (Sd.log (n:=2) h)).elim fun ds q=>by
 have:=CmpR.ne (.d (.ref (z.at h1) q.1) (.ref (z.at (e▸h2)) q.1))
 rw [show PyData.eqv (.list ds) (.list ds)=true from q.2] at this; exact this⟩
theorem ne_acts {L:HL} {i k:Nat} (h:L[k]?=some (i,.list [])):CmpH L .NotEq (.ref i) (.lst []) (.bool false):=⟨_,rfl,fun σ z=>.ne (.d (.ref (z.at h) .nil) (.lst .nil))⟩
theorem ne_dict {L:HL} {i j k m:Nat} (h1:L[k]?=some (i,.dict [])) (h2:L[m]?=some (j,.dict [])):CmpH L .NotEq (.ref i) (.ref j) (.bool false):=⟨_,rfl,fun σ z=>.ne (.e (z.at h1) (z.at h2))⟩
theorem inn_of {L:HL} {k i:Nat} {kvs:List (AV×AV)} {x:Str} (e:L[k]?=some (i,.dict kvs)) (g:getD kvs (.str x)=some none):CmpH L .In (.str x) (.ref i) (.bool false):=⟨_,rfl,fun σ h=>.inn (.d (h.at e) g)⟩
noncomputable def hostB (tl il vs cm fi:Nat):AObj:=.inst 593 [("tools",.ref tl),("inline",.ref il),("limit",.int 40),("fuel",.none),("depth",.int 0),("spent",.int 0),("epoch",.int 0),("frame",.none),("coroutine",.none),("vars",.ref vs),("commands",.ref cm),("firsts",.ref fi)]
section
variable {P:Params} {ho tl il vs cm fi:Nat}
theorem new_var {n:Str} {t:T} {D:List (AV×AV)} (g:getD D (.str n)=some none) (l:D.length<=1000) (q:∀ i,getD (putD D (.str n) (.ref i)) (.str n)=some (some (.ref i))):CF P 4 533 [.ref ho,.str n,.str (S t)] [(ho,hostB tl il vs cm fi),(vs,.dict D)] ⟨Nat×Nat,fun U=>True,fun x=>[(ho,hostB tl il vs cm fi),(vs,.dict (putD D (.str n) (.ref x.1))),(x.1,varO t 1 x.2)],fun U=>.ok (.str (S t))⟩ false:=
 cf_of (fun F=>.pl 0<|.pl 0<|.il<|.pl 0<|.il<|.ch (nin_of (L:=(ho,hostB tl il vs cm fi)::(vs,.dict D)::F) (k:=1) rfl g rfl)<|.nw fun i=>.il<|.pl 0<|.pl 0<|.nw fun tr=>.pl 1<|.pl 1<|.pl 1<|.pl 1<|.pl 3<|.fa (⟨rfl,⟨_,g⟩,l⟩:DkS D (.str n))<|
  .pl 3<|.ix (show GdS _ _ _ from q i)<|.il<|.il<|.pl 1<|.pl 1<|.pl 1<|.pl 1<|.dr 0<|.bk 2<|.fin (i,tr) trivial) (by kernel_rfl)
noncomputable def adH (ho tl il vs cm fi gd:Nat) (n:Str) (w:AV) (C D:List (AV×AV)) (F:HL) (b:Bool):HL:=cond b ((gd,.kdict [(.str n,w)])::(ho,hostB tl il vs cm fi)::(cm,.dict (putD C (.str n) w))::(fi,.dict (putD D (.str n) (.bool true)))::(il,.dict [])::F) ((gd,.kdict [(.str n,w)])::(ho,hostB tl il vs cm fi)::(cm,.dict C)::(fi,.dict D)::(il,.dict [])::F)
structure AdC (n:Str) (l:List Str) (b:Bool):Prop where
 h:(l=[]∧b=true)∨(l=[n]∧b=false)
theorem getD_one {x:Str} {v:AV}:getD [(.str x,v)] (.str x)=some (some v):=by
 unfold getD
 rw [if_pos (by rfl),List.find?_cons,show keyIs (.str x) (.str x)=true from beq_self_eq_true x]; rfl
theorem add_spec {gd:Nat} {n:Str} {f w:AV} {C D:List (AV×AV)} (g:getD C (.str n)=some none) (g2:getD D (.str n)=some none) (l:C.length<=1000) (l2:D.length<=1000):CF P 4 576 [.ref ho,.ref gd] [(gd,.dict [(.str n,.tup [f,w])]),(ho,hostB tl il vs cm fi),(cm,.dict C),(fi,.dict D),(il,.dict [])]
  (.one [(ho,hostB tl il vs cm fi),(cm,.dict (putD C (.str n) (.tup [f,w]))),(fi,.dict (putD D (.str n) (.bool true))),(il,.dict [])] (.ok .none)) false:=
 cf_of (fun F=>.pl 0<|.fa (leK rfl:[(AV.str n,AV.tup [f,w])].length<=lim)<|.fr (fun x:Str=>.str x) (AdC n) (fun U b=>adH ho tl il vs cm fi gd n (.tup [f,w]) C D F b) (fun U U=>[.a,.a,.a]) [n] false ⟨.inr ⟨rfl,rfl⟩⟩
  (fun b h=>.hp (L:=adH ho tl il vs cm fi gd n (.tup [f,w]) C D F b) (M:=adH ho tl il vs cm fi gd n (.tup [f,w]) C D F true) (hpE (congrArg _ (h.h.elim (·.2) fun z=>nomatch z.1)))<|.dr 0 .ok)
  fun x l' b h=>have e:x=n∧l'=[]∧b=false:=h.h.elim (fun z=>nomatch z.1) fun z=>⟨(List.cons.inj z.1).1,(List.cons.inj z.1).2,z.2⟩
   .hp (L:=adH ho tl il vs cm fi gd n (.tup [f,w]) C D F b) (M:=adH ho tl il vs cm fi gd n (.tup [f,w]) C D F false) (hpE (congrArg _ e.2.2))<|.lv "name" (congrArg AV.str e.1)<|.pl 0<|.ix (show GdS [(.str n,.tup [f,w])] (.str n) (.tup [f,w]) from getD_one)<|.il<|.pl 1<|.il<|.pl 1<|.il<|
   .pl 1<|.pl 2<|.pl 2<|.fa (⟨rfl,g⟩:DnS C (.str n))<|.pl 1<|.pl 3<|.pl 3<|.fa (⟨rfl,g2⟩:DnS D (.str n))<|.pl 1<|.ch (inn_of (L:=adH ho tl il vs cm fi gd n (.tup [f,w]) C D F false) (k:=4) (i:=il) (kvs:=[]) (x:=n) rfl rfl)<|
   .pl 1<|.pl 2<|.fa (⟨rfl,⟨_,g⟩,l⟩:DkS C (.str n))<|.pl 1<|.pl 3<|.fa (⟨rfl,⟨_,g2⟩,l2⟩:DkS D (.str n))<|.go 0 rfl (.mk (l:=l') true ⟨.inl ⟨e.2.1,rfl⟩⟩)) (by kernel_rfl)
end
noncomputable abbrev nmL:List Nm:=[.re,.put,.stop,.brk,.cnt]
noncomputable def cmK (w:AV) (k:Nat):List (AV×AV):=(nmL.take k).map fun n=>(.str (nmS n),w)
noncomputable abbrev opN:List Str:=["each_start","each_step","each_take","each_end"]
noncomputable def opF:Nat->Addr
 | 0=>855 | 1=>869 | 2=>876 | _=>883
noncomputable abbrev eachD:List (AV×AV):=opsD.drop 13
noncomputable abbrev opsK (k:Nat):List (AV×AV):=opsD.take (13+k)
structure LpC {α:Type} (L l:List α) (k:Nat):Prop where
 e:l=L.drop k
 k:k<=L.length
theorem LpC.next {α:Type} {L l:List α} {x:α} {k:Nat} (h:LpC L (x::l) k):LpC L l (k+1):=by
 have e:=h.e
 refine ⟨by rw [← List.drop_drop,← e]; rfl,Nat.lt_of_le_of_ne h.k fun z=>?_⟩
 rw [z,List.drop_length] at e; injection e
theorem LpC.all {α:Type} {L:List α} {k:Nat} (h:LpC L [] k):k=L.length:=Nat.le_antisymm h.k (by
 have:=congrArg List.length h.e
 rw [List.length_drop,List.length_nil] at this; lia)
structure PtS (kvs:List (AV×AV)) (k v:AV) (kvs':List (AV×AV)):Prop where
 g:getD kvs k=some none
 p:putD kvs k v=kvs'
 l:kvs.length<=1000
theorem cm_k {w:AV} {x:Nm} {l:List Nm}:∀ {k:Nat},LpC nmL (x::l) k->PtS (cmK w k) (.str (nmS x)) w (cmK w (k+1))
 | 0,h=>by cases h.e; exact ⟨by kernel_rfl,by kernel_rfl,leK (by kernel_rfl)⟩
 | 1,h=>by cases h.e; exact ⟨by kernel_rfl,by kernel_rfl,leK (by kernel_rfl)⟩
 | 2,h=>by cases h.e; exact ⟨by kernel_rfl,by kernel_rfl,leK (by kernel_rfl)⟩
 | 3,h=>by cases h.e; exact ⟨by kernel_rfl,by kernel_rfl,leK (by kernel_rfl)⟩
 | 4,h=>by cases h.e; exact ⟨by kernel_rfl,by kernel_rfl,leK (by kernel_rfl)⟩
 | k+5,h=>nomatch h.e.trans (List.drop_of_length_le (Nat.le_add_left 5 k))
theorem op_k {x:Str} {l:List Str}:∀ {k:Nat},LpC opN (x::l) k->getD eachD (.str x)=some (some (.fn (opF k)))∧PtS (opsK k) (.str x) (.fn (opF k)) (opsK (k+1))
 | 0,h=>by cases h.e; exact ⟨by kernel_rfl,by kernel_rfl,by kernel_rfl,leK (by kernel_rfl)⟩
 | 1,h=>by cases h.e; exact ⟨by kernel_rfl,by kernel_rfl,by kernel_rfl,leK (by kernel_rfl)⟩
 | 2,h=>by cases h.e; exact ⟨by kernel_rfl,by kernel_rfl,by kernel_rfl,leK (by kernel_rfl)⟩
 | 3,h=>by cases h.e; exact ⟨by kernel_rfl,by kernel_rfl,by kernel_rfl,leK (by kernel_rfl)⟩
 | k+4,h=>nomatch h.e.trans (List.drop_of_length_le (Nat.le_add_left 4 k))
theorem CF.rl {P:Params} {n:Nat} {a:Addr} {xs:List AV} {A:HL} {p:Post} {z:Bool} (h:CF P n a xs A p z):∀ L:HL,CF P n a xs (L++A) ⟨p.α,p.R,fun y=>L++p.M y,p.o⟩ z
 | []=>h
 | x::L=>(h.rl L).fst x
noncomputable def machB (ho op ac bk:Nat):AObj:=.inst 296 [("host",.ref ho),("ops",.ref op),("maker",.none),("acts",.ref ac),("book",.ref bk),("pause",.none),("steps",.int 0),("text",.str (S []))]
section
variable {P:Params} {Po:Post} {Λ:List LJ}
noncomputable def Hn.stu (G:HL) (k':∀ (ho tl il vs cm fi op m ac bk lg se:Nat) (x y:Nat×Nat) {Λ':List LJ},Hn P Po Λ'):Hn P Po Λ:=
 .nw fun ho=>.il<|.il<|.nw fun tl=>.pl 1<|.nw fun il=>.pl 2<|.pl 2<|.pl 2<|.pl 2<|.pl 2<|.pl 2<|.pl 2<|.pl 2<|.nw fun vs=>.pl 3<|.nw fun cm=>.pl 4<|.nw fun fi=>.pl 5<|
 .il<|.nw fun op=>.il<|.nw fun lo=>.pl 0<|.fa (leK rfl:eachD.length<=lim)<|
 .fr (fun x:Str=>.str x) (LpC opN) (fun U k=>(lo,.kdict eachD)::(op,.dict (opsK k))::(fi,.dict [])::(cm,.dict [])::(vs,.dict [])::(il,.dict [])::(tl,.dict [])::(ho,hostB tl il vs cm fi)::G) (fun U U=>[.a]) opN 0 ⟨rfl,Nat.zero_le _⟩
  (fun k h=>.ed 1 (congrArg (fun k=>AObj.dict (opsK k)) h.all)<|.dr 0<|.nw fun m=>.il<|.pl 0<|.pl 0<|.pl 0<|.nw fun ac=>.pl 1<|.nw fun bk=>.pl 2<|.pl 2<|.pl 2<|.pl 2<|.nw fun lg=>.nw fun se=>.mv 9<|.mv 7<|.mv 8<|.mv 11<|
   .fa (leK rfl:(nmL.map fun n=>AV.str (nmS n)).length<=lim)<|.fr (fun n:Nm=>.str (nmS n)) (LpC nmL) (fun U k=>(ho,hostB tl il vs cm fi)::(cm,.dict (cmK (.tup [.fn 1025,.tup [.ref lg,.ref se,.ref m]]) k))::(fi,.dict (cmK (.bool true) k))::(il,.dict [])::(se,.list [])::(lg,.list [])::(bk,.dict [])::(ac,.list [])::(m,machB ho op ac bk)::(op,.dict opsD)::(vs,.dict [])::(tl,.dict [])::G) (fun U U=>[.a]) nmL 0 ⟨rfl,Nat.zero_le _⟩
    (fun k h=>.ed 1 (congrArg (fun k=>AObj.dict (cmK (.tup [.fn 1025,.tup [.ref lg,.ref se,.ref m]]) k)) h.all)<|.dr 11<|.mv 10<|.mv 1<|.pl 0<|.cx (new_var (ho:=ho) (tl:=tl) (il:=il) (vs:=vs) (cm:=cm) (fi:=fi) (n:="x") (t:=RS0.x) (D:=[]) (by kernel_rfl) (Nat.zero_le _) fun i=>by kernel_rfl) fun x U=>
     .pl 0<|.cx (new_var (ho:=ho) (tl:=tl) (il:=il) (vs:=vs) (cm:=cm) (fi:=fi) (n:="y") (t:=RS0.y) (D:=putD [] (.str "x") (.ref x.1)) (by kernel_rfl) (leK rfl) fun i=>by kernel_rfl) fun y U=>k' ho tl il vs cm fi op m ac bk lg se x y)
    fun x l k h=>.pl 0<|.nw fun gd=>.ca (add_spec (ho:=ho) (tl:=tl) (il:=il) (vs:=vs) (cm:=cm) (fi:=fi) (gd:=gd) (f:=.fn 1025) (w:=.tup [.ref lg,.ref se,.ref m]) (cm_k (w:=.tup [.fn 1025,.tup [.ref lg,.ref se,.ref m]]) h).g (cm_k (w:=.bool true) h).g (cm_k (w:=.tup [.fn 1025,.tup [.ref lg,.ref se,.ref m]]) h).l (cm_k (w:=.bool true) h).l)<|.ed 1 (congrArg AObj.dict (cm_k (w:=.tup [.fn 1025,.tup [.ref lg,.ref se,.ref m]]) h).p)<|.ed 2 (congrArg AObj.dict (cm_k (w:=.bool true) h).p)<|.go 0 rfl (.mk (l:=l) (k+1) h.next))
  fun x l k h=>.pl 0<|.ix (show GdS eachD (.str x) (.fn (opF k)) from (op_k h).1)<|.pl 1<|.fa (⟨rfl,⟨_,(op_k h).2.g⟩,(op_k h).2.l⟩:DkS (opsK k) (.str x))<|.ed 1 (congrArg AObj.dict (op_k h).2.p)<|.go 0 rfl (.mk (l:=l) (k+1) h.next)
end
theorem esc_c {R:List Row} {ms m:MS} {c:Nat} {w:T} (h:Op R ms (.ex c w m)):c≠0∧okT w=true:=by
 induction h.exI using OpX.casesOn with
 | st h e h1 h2 h3 h4 h5 h6 hc hw=>exact ⟨by rw [hc]; decide,by rw [hw]; decide +kernel⟩
 | iv h e hk hl hg hd=>have q:=doIt_ex hk hd; exact ⟨q.2,by rw [q.1]; rfl⟩
theorem bind_ok {α β:Type} {r:Ex α×RS} {f:α->PM β} {v:β} {s':RS} (h:bindR r f=(.ok v,s')):∃ a s,r=(.ok a,s)∧f a s=(.ok v,s'):=by
 obtain ⟨r,s⟩:=r
 induction r using Ex.casesOn with
 | ok a=>exact ⟨a,s,rfl,h⟩
 | ex=>cases h
theorem log_pos {e:Tm} {s s':RS} {w:T} (h:runR 0 [] [firstC,e,lastC] s=(.ok w,s')):0<s'.log.length:=by
 obtain ⟨_,s1,_,h⟩:=bind_ok (show bindR (run 0 firstC s) (fun v=>runR 0 v [e,lastC])=(.ok w,s') from h)
 obtain ⟨a2,s2,_,h⟩:=bind_ok (show bindR (run 0 e s1) (fun v=>runR 0 v [lastC])=(.ok w,s') from h)
 obtain ⟨_,s3,h1,h⟩:=bind_ok (show bindR (run 0 lastC s2) (fun v=>runR 0 v [])=(.ok w,s') from h)
 have k:(run 0 lastC s2).2.log.length=s2.log.length+1:=List.length_append
 rw [h1] at k
 (injection h with e1 e2; cases e1; cases e2)
 exact k▸Nat.succ_pos _
section
variable {P:Params} {F:HL} {Λ:List LJ}
noncomputable def Hn.fi2 (a dx lg:Nat) (s:RS) (A:MA) (D:List (AV×AV)) (v:VM) (G K:HL) (hs:v.s=s) (ho:okRS s) (hd:∀ σ,Mine.H σ (RL a dx lg s++(MHg A [] v D++(G++K)))->Mine.H σ F):Hn P ((Post.one [] (.ok (.bool true))).fr F) Λ:=
 .fa (leK rfl:[AV.str "x",AV.str "y"].length<=lim)<|.fr (fun y:Bool=>.str (vS y)) (fun _ (_:Unit)=>True) (fun U U=>RL a dx lg s++(MHg A [] v D++(G++K))) (fun U U=>[.a]) [false,true] () trivial (fun U U=>.hp (L:=RL a dx lg s++(MHg A [] v D++(G++K))) (M:=F) hd .ok)
  fun y l U U=>.pl 8<|.cF (G++K) ((read_spec A D v y []).rl (RL a dx lg s)) fun U U=>.pl 8<|.cF (G++K) ((stamp_spec A D v y []).rl (RL a dx lg s)) fun U U=>.pl 0<|.pl 1<|.ix (show GdS (rsD s) (.str (vS y)) (.tup [.str (S (s.var y)),.int (s.cnt y)]) from rs_get s y)<|
   .cp (ne_tup (a:=.tup [.str (S (v.s.var y)),.int (v.s.cnt y)]) (b:=.tup [.str (S (s.var y)),.int (s.cnt y)]) (by rw [hs]) fun σ=>.tup (sd2 (.str (lv_isV (hs▸ho.var y))) .int))<|.go 0 rfl (.mk (l:=l) () trivial)
theorem drp {L M F:HL} {G:HL} (σ:AHeap) (h:H σ (L++(M++(G++F)))):H σ F:=h.sub (((List.sublist_append_right G F).trans (List.sublist_append_right M _)).trans (List.sublist_append_right L _))
theorem seen_0 {n a:Nat} (h:0<n) (k:n<=90000):IxS (List.replicate n (.ref a)) 0 (.ref a):=ixS (k:=0) (by rw [List.getElem?_replicate,if_pos h]) (by rw [List.length_replicate]; exact Nat.le_trans k (by decide))
noncomputable def Hn.tlo (a dx lg:Nat) (s:RS) (A:MA) (v:VM) (w:T) (hs:v.s=s) (ho:okRS s) (h0:0<s.log.length) (hl:s.log.length<=90000) (hw:okT w=true) (ht:[v.text]=[w]) (hst:v.st=[]):Hn P ((Post.one [] (.ok (.bool true))).fr F) Λ:=
 .cp (ne_tup (a:=.tup [.int 0,.str (S v.text)]) (b:=.tup [.int 0,.str (S w)]) (by rw [(List.cons.inj ht).1]) fun σ=>.tup (sd2 .int (.str ((List.cons.inj ht).1▸hw))))<|.pl 0<|
 .ch (ne_logs (L:=RL a dx lg s++(MHg A [] v []++([]++F))) (k:=19) (m:=2) (i:=A.lg) (j:=lg) (congrArg RS.log hs) (by kernel_rfl) (by kernel_rfl) (hs▸ho.l))<|.pl 3<|.ch (ne_acts (L:=RL a dx lg s++(MHg A [] v []++([]++F))) (k:=4) (i:=A.ac) (by kernel_rfl))<|.pl 8<|
 .pl 20<|.ix (seen_0 (n:=v.s.log.length) (a:=A.a) (hs▸h0) (hs▸hl))<|.pl 5<|.ch (ne_nil (L:=RL a dx lg s++(MHg A [] v []++([]++F))) (k:=6) (i:=v.k) (ls:=v.st) (b:=false) (by kernel_rfl) (by rw [hst]; exact nofun) (by rw [hst]; rfl))<|
 .pl 20<|.ix (seen_0 (n:=v.s.log.length) (a:=A.a) (hs▸h0) (hs▸hl))<|.pl 5<|.nw fun j=>.ch (ne_dict (L:=(j,.dict [])::(RL a dx lg s++(MHg A [] v []++([]++F)))) (k:=8) (m:=0) (i:=A.ea) (j:=j) (by kernel_rfl) (by kernel_rfl))<|.dr 0<|
 .fi2 a dx lg s A [] v [] F hs ho drp
noncomputable def Hn.tle (a dx lg:Nat) (s:RS) (A:MA) (D:List (AV×AV)) (v:VM) (G:HL) (c:Nat) (w:T) (hs:v.s=s) (ho:okRS s) (hc:c≠0) (hw:okT w=true):Hn P ((Post.one [] (.ok (.bool true))).fr F) Λ:=
 .pl 3<|.pl 3<|.pl 3<|.dr 3<|.cp (ne_tup (a:=.tup [.int c,.str (S w)]) (b:=.tup [.int c,.str (S w)]) rfl fun σ=>.tup (sd2 .int (.str hw)))<|.pl 0<|
 .ch (ne_logs (L:=RL a dx lg s++(MHg A [] v D++(G++F))) (k:=19) (m:=2) (i:=A.lg) (j:=lg) (congrArg RS.log hs) (by kernel_rfl) (by kernel_rfl) (hs▸ho.l))<|.pl 3<|.ch (ne_acts (L:=RL a dx lg s++(MHg A [] v D++(G++F))) (k:=4) (i:=A.ac) (by kernel_rfl))<|.pl 8<|
 .is (show (!((0:Int)==0))=false from rfl)<|.is (eqF (x:=c) (y:=0) hc)<|.fi2 a dx lg s A D v G F hs ho drp
noncomputable abbrev laA (e:Tm) (r g s ho tl il vs cm fi op m ac bk lg se:Nat) (x y:Nat×Nat) (c:Nat) (sl:Bool):MA:={m:=m,h:=ho,op:=op,ac:=ac,a:=0,c:=c,n:=0,r:=r,g:=g,s:=s,vs:=vs,vx:=x.1,vy:=y.1,cm:=cm,lg:=lg,se:=se,sl:=0,ea:=0,bk:=bk,tx:=x.2,ty:=y.2,tl:=tl,il:=il,fi:=fi,rows:=(lawO firstC [e,lastC]).rows.map (rowAv sl),rgs:=(lawO firstC [e,lastC]).rgs,ss:=(lawO firstC [e,lastC]).ss}
noncomputable def Hn.law2 (sl:Bool) (e:Tm) (at_ n0 a dx lg0:Nat) (s':RS) (D:LawD P firstC [e,lastC]) (k:∀ (A:MA),A.rows=(lawO firstC [e,lastC]).rows.map (rowAv sl)->A.rgs=(lawO firstC [e,lastC]).rgs->A.ss=(lawO firstC [e,lastC]).ss->∀ {Λ'},Hn P ((Post.one [] (.ok (.bool true))).fr F) Λ'):Hn P ((Post.one [] (.ok (.bool true))).fr F) Λ:=
 .nw fun r=>.nw fun g=>.nw fun s=>.nw fun l=>.mv 1<|.mv 2<|.mv 3<|
 .ck (fun d=>d - 19) (show CF P 19 1018 [.lst (avs [firstC,e,lastC]),cdAv sl ⟨r,g,s,l⟩,.int 0,.none] (CH ⟨r,g,s,l⟩ none ⟨[],[],[],[],[],[]⟩) (putP sl ⟨r,g,s,l⟩ none ⟨[],[],[],[],[],[]⟩ (lawO firstC [e,lastC])) false from cm_puts (d:=2) (i:=1) (sl:=sl) (A:=⟨r,g,s,l⟩) (lp:=none) (z:=⟨[],[],[],[],[],[]⟩) (p:=0) (D.h _ (.head _)) (fun c hc=>D.h c (.tail _ hc)) (by have:=D.z; show 0+3*_<=900000; lia)) fun ls U=>
 .stu (CH ⟨r,g,s,l⟩ none ((CS.mk [] [] [] [] [] []).app sl (lawO firstC [e,lastC]) ls)++(RL a dx lg0 s'++(atO at_ n0::F))) fun ho tl il vs cm fi op m ac bk lg se x y=>.pl 0<|.nw fun c=>.il<|.pl 0<|.pl 0<|.pl 0<|.pl 0<|.pl 0<|.mv 8<|.mv 9<|.mv 16<|.mv 16<|.mv 16<|.mv 5<|.mv 16<|.mv 11<|.mv 10<|.mv 11<|.mv 11<|.mv 11<|.mv 15<|.mv 16<|.mv 20<|.mv 20<|.mv 20<|.dr 17<|.dr 17<|.dr 17<|.dr 17<|.dr 17<|
 k (laA e r g s ho tl il vs cm fi op m ac bk lg se x y c sl) rfl rfl rfl
theorem law_cf {xs:List Int} (hx:xs.length<=63):CF P 24 1032 [dat' xs] [] (.one [] (.ok (.bool true))) true:=
 cfnd_of (fun d F=>.nw fun at_=>.cx (draw_spec (a:=at_) (k:=0) (n:=2) hx (by decide) (by decide)) fun m hm=>.cx (gen_tree hx (a:=at_) (k:=1) (by decide)) fun x hx=>
  have D:LawD P firstC [x.2,lastC]:=law_d hx
  .nw fun dx=>.nw fun lg=>.nw fun a=>.mv 2<|.mv 1<|
  .rn (fun d=>d - 19) (show CF P 19 999 [.lst (avs [firstC,x.2,lastC]),.ref a,.int 0] (RL a dx lg RS0) (RPost a dx lg (runR 0 [] [firstC,x.2,lastC] RS0)) true from cm_runs (d:=2) (i:=1) (a:=a) (dx:=dx) (lg:=lg) (p:=0) (s:=RS0) (cs:=[firstC,x.2,lastC]) D.h ok_RS0 (by have:=D.z; show 0+_<=90000; exact Nat.le_trans (Nat.le_trans (Nat.le_of_eq (Nat.zero_add _)) this) (by decide)))
   (fun w s' e=>
    have t:=D.tr.use ok_RS0 e
    have w2:Lv 2 w:=D.tr.val ok_RS0 e
    .law2 ((m:Int)==1) x.2 at_ x.1 a dx lg s' D fun A e1 e2 e3=>.ex (D.ok e) fun k hk=>.cF F ((code_ok A (sp:=0) (D.ctx e1 e2 e3) (e2▸hk)).rl (RL a dx lg s')) fun y hy=>.tlo a dx lg s' (A.at A.ac y.2) {y.1 with dp:=0} w hy.1 t.1 (log_pos e) (Nat.le_trans t.2 (by have:=D.z; show 0+_<=_; lia)) w2.2 hy.2.2 hy.2.1)
   fun c w s' e y=>
    have t:=D.tr.use ok_RS0 e
    .pl 0<|.pl 0<|.pl 0<|.dr 0<|.law2 ((m:Int)==1) x.2 at_ x.1 a dx lg s' D fun A e1 e2 e3=>.ex (D.ex e) fun k hk=>.cF F ((code_esc A (sp:=0) (D.ctx e1 e2 e3) (e2▸hk.1) (e2▸hk.2)).rl (RL a dx lg s')) fun y hy=>
     have q:c≠0∧okT w=true:=hk.2.h.elim fun m h=>esc_c h.1
     .tle a dx lg s' (A.at A.ac y.2) (esD y.1.X) {y.1.v with dp:=0} (esH y.1.X) c w hy t.1 q.1 q.2) (by kernel_rfl)
end
theorem law_run (P:Params) (xs:List Int) (hx:xs.length<=63):VW (callF P 24 none 1032 [.lst (xs.map .int)]) ⟨0,fun _=>none⟩ (fun v _=>v=.bool true) fun _ _=>False:=
 law_cf hx 0 none [] (fun _=>rfl) (fun v _=>v=.bool true) (fun _ _=>False) (fun _ _ σ' h'=>show AV.bool true=.bool true from rfl) ⟨0,fun _=>none⟩ ⟨List.nodup_nil,nofun⟩
end Mine
theorem PySem.Challenge.cw_np0159_01_holds : PySem.Challenge.rw_np0159_01.Holds :=
 Mine.law_holds Mine.law_run
