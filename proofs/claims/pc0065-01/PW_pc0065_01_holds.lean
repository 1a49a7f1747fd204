import PyProof.Rows.All
import Wide.All
import OpenK.AllK
import Wide.FinOn
import Lean
import PySem.Challenge.RW_pc0065_01
set_option Elab.async false
set_option linter.all false
set_option autoImplicit false
set_option maxRecDepth 100000
set_option genSizeOf false
set_option genInjectivity false
set_option maxHeartbeats 80000000
set_option bootstrap.genMatcherCode false
set_option genCtorIdx false
set_option backward.match.sparseCases false
set_option tactic.hygienic false
namespace Hd
open PySem PySem.W PySem.Calls PyProof.Rows
section
noncomputable section
abbrev p:Program:=PySem.Challenge.pw_pc0065_01
noncomputable def st (i:Nat):Stmt:=(p.main.body[i]?).getD (.Pass default)
noncomputable def me (i j:Nat):Stmt:=match st i with
 | .ClassDef _ _ _ b _ _ _ _ _ _ _=>(b[j]?).getD (.Pass default)
 | _=>.Pass default
noncomputable def i0 (n:Int):Value:=.int n 0
noncomputable def en (P:Params) (x:String) (t:Nat) (v:Value):DictEntry:=⟨PyData.keyHash P (Str.ofString x),.str (Str.ofString x) t,v⟩
noncomputable def tu (l:List Value):Obj:={ cls:=.type "tuple",data:=.seq l.toArray }
noncomputable def ls (l:List Value):Obj:={ cls:=.type "list",data:=.seq l.toArray }
noncomputable def fi (c:Value) (l:List Value):Obj:={ cls:=c,data:=.fields l.toArray }
noncomputable def di (c:Value) (n:Nat) (l:List DictEntry):Obj:={ cls:=c,data:=.dict l.toArray n }
noncomputable def pl (c:Value) (d:Option Addr) (sl:List (Option Value)):Obj:={ cls:=c,dict:=d,slots:=sl.toArray }
noncomputable def sName:Stmt→Str
 | .FunctionDef n _ _ _ _ _ _ _ _ _=>n
 | _=>Str.empty
noncomputable def sArgs:Stmt→Arguments
 | .FunctionDef _ a _ _ _ _ _ _ _ _=>a
 | _=>⟨[],[],none,[],[],none,[]⟩
noncomputable def sBody:Stmt→List Stmt
 | .FunctionDef _ _ b _ _ _ _ _ _ _=>b
 | _=>[]
noncomputable def sScope:Stmt→Scope
 | .FunctionDef _ _ _ _ _ _ sc _ _ _=>sc
 | _=>{ kind:=.function,names:=[],isGenerator:=false,isCoroutine:=false }
noncomputable def ft (s:Stmt) (qual:String):Obj:={ cls:=.none,data:=.func { name:=sName s,qualname:=Str.ofString qual,params:=sArgs s,body:=.stmts (sBody s),scope:=sScope s,globals:=0,closure:=[],defaults:=.none,kwdefaults:=.none } }
noncomputable def fdOf (s:Stmt) (qual:String) (dv pm code:Value):FuncData:={ name:=sName s,qualname:=Str.ofString qual,params:=sArgs s,body:=.stmts (sBody s),scope:=sScope s,globals:=mainGlobals,closure:=[],defaults:=dv,kwdefaults:=.none,pyModule:=pm,code:=code }
noncomputable def fn (s:Stmt) (qual:String) (dv pm code:Value):Obj:={ cls:=.type "function",data:=.func (fdOf s qual dv pm code) }
noncomputable def cl (name:String) (bases mro:List Value) (ns:Addr) (sub:List Value) (sl:List (Option Value)):Obj:=
 { cls:=.type "type",data:=.cls { name:=Str.ofString name,bases:=bases,mro:=mro,ns:=ns,qualname:=Str.ofString name,subclasses:=sub },slots:=sl.toArray }
noncomputable def htks:Nat→List String→List Value
 | _,[]=>[]
 | t,s :: r=>.str (Str.ofString s) t :: htks (t+1) r
noncomputable def hrs:Nat→Nat→List Value
 | _,0=>[]
 | a,n+1=>.ref a :: hrs (a+1) n
noncomputable def hS (t:Nat) (l:List String):Obj:=tu (htks t l)
noncomputable def hO (t:Nat) (a b:String) (x y:Int):Obj:=tu [.str (Str.ofString a) t,.str (Str.ofString b) (t+1),.int x (t+2),.int y (t+3)]
noncomputable def hln:List (Nat×Nat×Nat)→List Value
 | []=>[]
 | (a,b,c) :: r=>i0 a :: i0 b :: .ref c :: hln r
noncomputable def hcut (t:Nat):Value:=.str (Str.ofString "/claim/cut.py") t
noncomputable def hw0:Value:=.str "__main__" 164
noncomputable def hw1:Value:=.str "js.codes" 194
noncomputable def hw2:Value:=.str "js.assembler" 823
noncomputable def hw3:Value:=.str "js.comp_code" 1002
noncomputable def hw4:Value:=.str "js.comp_base" 1136
noncomputable def hw5:Value:=.str "js.ways" 1239
noncomputable def hw6:Value:=.str "js.jumps" 1351
noncomputable def hw7:Value:=.str "js.comp_expr" 1404
noncomputable def hw8:Value:=.str "js.comp_stmt" 1615
noncomputable def hw9:Value:=.str "js.nodes" 1849
noncomputable def hw10:Value:=.str "law_pc0065_01" 1885
noncomputable def hG (a t:Nat) (s:Stmt) (q n:String) (l c:Int) (dv m:Value) (L:List Value) (ns:List String):List Obj:=
 let e:=t+3+ns.length
 [tu [],fi (.none) L,hS (t+3) ns,tu [],ft s q,fi (.type "code") [.str (Str.ofString n) t,.str (Str.ofString q) (t+1),hcut (t+2),i0 l,i0 c,i0 0,i0 0,i0 3,.ref a,.bool true,i0 181,.ref (a+1),.none,.ref (a+2),.ref (a+3),.ref (a+4),i0 e,i0 l,hcut (e+1)],fn s q dv m (.ref (a+5))]
noncomputable def hK (a t:Nat) (n:String) (l k:Int) (g:Nat) (m:Value) (L:List Value):List Obj:=
 [tu [],fi (.none) L,fi (.type "code") [.str (Str.ofString n) t,.str (Str.ofString n) (t+1),hcut (t+2),i0 l,i0 0,i0 0,i0 0,i0 0,.ref a,.bool false,i0 k,.ref (a+1),.none,.none,.none,.none,i0 (t+3),i0 l,hcut (t+4)],pl (.type "frame") none [some (.ref (a+2)),some (.ref 3),some (.ref g),none,some m,none,some (.ref 0)]]
noncomputable def hv12:List (Nat × Nat × Nat):=[(1,0,20),(90,0,114),(96,0,134),(114,0,155),(116,0,162),(118,0,169),(120,0,176),(122,0,183),(124,0,190),(127,0,197),(224,0,317),(228,0,324),(286,0,425),(334,0,488),(344,0,516),(353,0,523),(361,0,530),(367,0,537),(371,0,544),(375,0,549),(378,0,556),(394,0,563),(410,0,570),(426,0,575),(441,0,586),(642,0,697),(873,0,842),(881,0,863),(886,0,870),(888,0,875),(890,0,882),(921,0,889),(936,0,896),(944,0,903),(952,0,910),(958,0,917),(960,0,924),(966,0,931),(968,0,938),(972,0,945),(995,0,952),(1006,0,957),(1019,0,964),(1027,0,971),(1055,0,978),(1063,0,985),(1075,0,990),(1100,0,997),(1124,0,1002)]
noncomputable def c0 (P:Params):List Obj:=[boot_o_0 P,
 di (.type "dict") 2 [en P "builtins" 162 (.ref 4),en P "__main__" 163 (.ref 5)],
 di (.none) 2 [en P "type.__subclasses__.Exception.0" 731 (.int 125 0),en P "type.__subclasses__.Exception.n" 732 (.int 1 0)],
 default,
 pl (.type "module") (some 0) [],
 pl (.type "module") (some 3) [],
 di (.type "dict") 0 []]++
 hK 7 176 "<module>" 1 175 3 hw0 []++
 hK 11 182 "<module>" 1 181 3 hw0 (hln hv12)++
 hG 15 187 (st 0) "_wall" "_wall" 1 1 (.none) hw0 [] ["k"]++
 [hO 362 "UNDEF" "" 0 1,
 hO 366 "NULL" "" 0 1,
 hO 370 "TRUE" "" 0 1,
 hO 374 "FALSE" "" 0 1,
 hO 378 "CONST" "k" 0 1,
 hO 382 "THIS" "" 0 1]
noncomputable def c1 (P:Params):List Obj:=[hO 386 "POP" "" 1 0,
 hO 390 "DUP" "" 1 2,
 hO 394 "DUP2" "" 2 4,
 hO 398 "SWAP" "" 2 2,
 hO 402 "ROT3" "" 3 3,
 hO 406 "GETLOC" "l" 0 1,
 hO 410 "SETLOC" "l" 1 1,
 hO 414 "GETCELL" "c" 0 1,
 hO 418 "SETCELL" "c" 1 1,
 hO 422 "GETUP" "u" 0 1,
 hO 426 "SETUP" "u" 1 1,
 hO 430 "FRESH" "c" 0 0,
 hO 434 "GETGLOB" "s" 0 1,
 hO 438 "TYPEGLOB" "s" 0 1,
 hO 442 "SETGLOB" "s" 1 1,
 hO 446 "DECLVAR" "s" 0 0,
 hO 450 "DECLFUN" "s" 1 0,
 hO 454 "GETPROP" "s" 1 1,
 hO 458 "SETPROP" "s" 2 1,
 hO 462 "GETELEM" "" 2 1,
 hO 466 "SETELEM" "" 3 1,
 hO 470 "DELPROP" "s" 1 1,
 hO 474 "DELELEM" "" 2 1,
 hO 478 "DELNAME" "s" 0 1,
 hO 482 "ADD" "" 2 1,
 hO 486 "SUB" "" 2 1,
 hO 490 "MUL" "" 2 1,
 hO 494 "DIV" "" 2 1]
noncomputable def c2 (P:Params):List Obj:=[hO 498 "MOD" "" 2 1,
 hO 502 "SHL" "" 2 1,
 hO 506 "SHR" "" 2 1,
 hO 510 "USHR" "" 2 1,
 hO 514 "AND" "" 2 1,
 hO 518 "OR" "" 2 1,
 hO 522 "XOR" "" 2 1,
 hO 526 "EQ" "" 2 1,
 hO 530 "NE" "" 2 1,
 hO 534 "SEQ" "" 2 1,
 hO 538 "SNE" "" 2 1,
 hO 542 "LT" "" 2 1,
 hO 546 "GT" "" 2 1,
 hO 550 "LE" "" 2 1,
 hO 554 "GE" "" 2 1,
 hO 558 "IN" "" 2 1,
 hO 562 "INSTANCEOF" "" 2 1,
 hO 566 "NEG" "" 1 1,
 hO 570 "TONUM" "" 1 1,
 hO 574 "NOT" "" 1 1,
 hO 578 "BITNOT" "" 1 1,
 hO 582 "TYPEOF" "" 1 1,
 hO 586 "INC" "" 1 1,
 hO 590 "DEC" "" 1 1,
 hO 594 "JMP" "t" 0 0,
 hO 598 "JF" "t" 1 0,
 hO 602 "JT" "t" 1 0,
 hO 606 "JFK" "t" 1 0]
noncomputable def c3 (P:Params):List Obj:=[hO 610 "JTK" "t" 1 0,
 hO 614 "CALL" "n" 2 1,
 hO 618 "NEW" "n" 1 1,
 hO 622 "RET" "" 1 0,
 hO 626 "THROW" "" 1 0,
 hO 630 "CLOSURE" "f" 0 1,
 hO 634 "NEWOBJ" "" 0 1,
 hO 638 "NEWARR" "n" 0 1,
 hO 642 "HOLE" "" 0 1,
 hO 646 "INITPROP" "s" 2 1,
 hO 650 "INITGET" "s" 2 1,
 hO 654 "INITSET" "s" 2 1,
 hO 658 "METHOD" "s" 1 2,
 hO 662 "METHODEL" "" 2 2,
 hO 666 "FORIN" "" 1 1,
 hO 670 "NEXTIN" "t" 1 2,
 hO 674 "GOSUB" "t" 0 0,
 hO 678 "RETSUB" "" 2 0,
 hO 682 "CHECKOBJ" "" 1 1,
 hO 686 "TOKEY" "" 2 2,
 hO 690 "ROT4" "" 4 4,
 hO 694 "FAILSET" "s" 1 0,
 hO 698 "REGEXP" "" 2 1,
 ls (hrs 22 85),
 ls [.int 58 308,.int 65 322,.int 66 324,.int 79 350,.int 83 358],
 tu [.type "Exception"],
 fi (.type "builtin_function_or_method") [.builtin "type.__prepare__",.type "type"],
 di (.type "dict") 5 [en P "__module__" 711 (.str "js.codes" 194),en P "__qualname__" 713 (.str "BadCode" 712),en P "__firstlineno__" 715 (.int 90 714),en P "__init__" 724 (.ref 122),en P "__static_attributes__" 727 (.ref 123)]]
noncomputable def c4 (P:Params):List Obj:=hK 112 706 "BadCode" 90 181 111 hw1 (hln [(92,4,121)])++
 hG 116 716 (me 87 0) "BadCode.__init__" "__init__" 92 3 (.none) hw1 [] ["self","text","pc"]++
 [hS 725 ["pc","text"],
 di (.type "dict") 3 [en P "__module__" 711 (.str "js.codes" 194),en P "__firstlineno__" 715 (.int 90 714),en P "__init__" 724 (.ref 122),en P "__static_attributes__" 727 (.ref 123),en P "__weakref__" 729 (.ref 126),en P "__doc__" 730 (.none)],
 cl "BadCode" [.type "Exception"] [.ref 125,.type "Exception",.type "BaseException",.type "object"] 124 [] [some (.ref 109),none,some (.str "BadCode" 704),some (.str "BadCode" 712),some (.builtin "Exception.__new__"),some (.bool true)],
 fi (.type "getset_descriptor") [.str "__weakref__" 728,.ref 125,.builtin "ExceptionGroup.__weakref__",.none],
 fi (.type "super") [.ref 125,.ref 125,.ref 125],
 fi (.type "builtin_function_or_method") [.builtin "object.__init_subclass__",.ref 125],
 tu [],
 fi (.type "builtin_function_or_method") [.builtin "type.__prepare__",.type "type"],
 di (.type "dict") 5 [en P "__module__" 742 (.str "js.codes" 194),en P "__qualname__" 744 (.str "Unit" 743),en P "__firstlineno__" 746 (.int 96 745),en P "__init__" 755 (.ref 142),en P "__static_attributes__" 771 (.ref 143)]]++
 hK 132 737 "Unit" 96 181 131 hw1 (hln [(98,4,141)])++
 hG 136 747 (me 88 0) "Unit.__init__" "__init__" 98 3 (.none) hw1 [] ["self","name","params"]
noncomputable def c5 (P:Params):List Obj:=[hS 756 ["arguments_place","captures","cell_count","code","consts","handlers","is_strict","lines","local_count","name","param_places","params","self_slot","units","uses_arguments"],
 di (.type "dict") 4 [en P "__module__" 742 (.str "js.codes" 194),en P "__firstlineno__" 746 (.int 96 745),en P "__init__" 755 (.ref 142),en P "__static_attributes__" 771 (.ref 143),en P "__dict__" 773 (.ref 146),en P "__weakref__" 775 (.ref 147),en P "__doc__" 776 (.none)],
 cl "Unit" [.type "object"] [.ref 145,.type "object"] 144 [] [none,none,some (.str "Unit" 735),some (.str "Unit" 743),some (.builtin "object.__new__"),some (.bool true)],
 fi (.type "getset_descriptor") [.str "__dict__" 772,.ref 145,.builtin "function.__dict__",.builtin "function.__dict__#set"],
 fi (.type "getset_descriptor") [.str "__weakref__" 774,.ref 145,.builtin "ExceptionGroup.__weakref__",.none],
 fi (.type "super") [.ref 145,.ref 145,.ref 145],
 fi (.type "builtin_function_or_method") [.builtin "object.__init_subclass__",.ref 145]]++
 hG 150 779 (st 89) "op_name" "op_name" 114 1 (.none) hw1 [] ["op"]++
 hG 157 786 (st 90) "arg_kind" "arg_kind" 116 1 (.none) hw1 [] ["op"]++
 hG 164 793 (st 91) "taken_count" "taken_count" 118 2 (.none) hw1 [] ["op","arg"]
noncomputable def c6 (P:Params):List Obj:=hG 171 801 (st 92) "put_count" "put_count" 120 1 (.none) hw1 [] ["op"]++
 hG 178 808 (st 93) "is_last" "is_last" 122 1 (.none) hw1 [] ["op"]++
 hG 185 815 (st 94) "same_constant" "same_constant" 124 2 (.none) hw1 [] ["one","other"]++
 [tu [],
 fi (.type "builtin_function_or_method") [.builtin "type.__prepare__",.type "type"],
 di (.type "dict") 19 [en P "__module__" 832 (.str "js.assembler" 823),en P "__qualname__" 834 (.str "Code" 833),en P "__firstlineno__" 836 (.int 127 835),en P "__init__" 846 (.ref 205),en P "here" 853 (.ref 212),en P "emit" 862 (.ref 220),en P "label" 869 (.ref 227),en P "place" 877 (.ref 234),en P "jump" 886 (.ref 241),en P "const" 896 (.ref 248),en P "emit_const" 904 (.ref 255),en P "emit_named" 913 (.ref 262),en P "inner" 921 (.ref 269),en P "handler" 933 (.ref 276),en P "place_of" 942 (.ref 283),en P "placed_code" 953 (.ref 290),en P "placed_handlers" 968 (.ref 297),en P "unit" 976 (.ref 304),en P "__static_attributes__" 994 (.ref 305)]]++
 hK 195 827 "Code" 127 181 194 hw2 (hln [(129,4,204),(148,4,211),(151,4,219),(156,4,226),(160,4,233),(165,4,240),(168,4,247),(175,4,254),(178,4,261),(181,4,268),(185,4,275),(188,4,282),(193,4,289),(199,4,296),(207,4,303)])
noncomputable def c7 (P:Params):List Obj:=hG 199 837 (me 96 0) "Code.__init__" "__init__" 129 4 (.none) hw2 [] ["self","name","params","is_strict"]++
 hG 206 847 (me 96 1) "Code.here" "here" 148 1 (.none) hw2 [] ["self"]++
 [tu [.none]]++
 hG 214 854 (me 96 2) "Code.emit" "emit" 151 3 (.ref 213) hw2 [] ["self","op","arg"]++
 hG 221 863 (me 96 3) "Code.label" "label" 156 1 (.none) hw2 [] ["self"]
noncomputable def c8 (P:Params):List Obj:=hG 228 870 (me 96 4) "Code.place" "place" 160 2 (.none) hw2 [] ["self","label"]++
 hG 235 878 (me 96 5) "Code.jump" "jump" 165 3 (.none) hw2 [] ["self","op","label"]++
 hG 242 887 (me 96 6) "Code.const" "const" 168 2 (.none) hw2 [] ["self","value","at","known"]++
 hG 249 897 (me 96 7) "Code.emit_const" "emit_const" 175 2 (.none) hw2 [] ["self","value"]
noncomputable def c9 (P:Params):List Obj:=hG 256 905 (me 96 8) "Code.emit_named" "emit_named" 178 3 (.none) hw2 [] ["self","op","text"]++
 hG 263 914 (me 96 9) "Code.inner" "inner" 181 2 (.none) hw2 [] ["self","unit"]++
 hG 270 922 (me 96 10) "Code.handler" "handler" 185 6 (.none) hw2 [] ["self","start","end","target","depth","is_finally"]++
 hG 277 934 (me 96 11) "Code.place_of" "place_of" 188 3 (.none) hw2 [] ["self","label","pc"]
noncomputable def c10 (P:Params):List Obj:=hG 284 943 (me 96 12) "Code.placed_code" "placed_code" 193 1 (.none) hw2 [] ["self","found","pc","op","arg"]++
 hG 291 954 (me 96 13) "Code.placed_handlers" "placed_handlers" 199 1 (.none) hw2 [] ["self","found","start","end","target","depth","is_finally","first","last"]++
 hG 298 969 (me 96 14) "Code.unit" "unit" 207 1 (.none) hw2 [] ["self","made"]++
 [hS 977 ["arguments_place","captures","cell_count","code","consts","handlers","is_strict","line","lines","local_count","name","param_places","params","places","self_slot","units","uses_arguments"],
 di (.type "dict") 4 [en P "__module__" 832 (.str "js.assembler" 823),en P "__firstlineno__" 836 (.int 127 835),en P "__init__" 846 (.ref 205),en P "here" 853 (.ref 212),en P "emit" 862 (.ref 220),en P "label" 869 (.ref 227),en P "place" 877 (.ref 234),en P "jump" 886 (.ref 241),en P "const" 896 (.ref 248),en P "emit_const" 904 (.ref 255),en P "emit_named" 913 (.ref 262),en P "inner" 921 (.ref 269),en P "handler" 933 (.ref 276),en P "place_of" 942 (.ref 283),en P "placed_code" 953 (.ref 290),en P "placed_handlers" 968 (.ref 297),en P "unit" 976 (.ref 304),en P "__static_attributes__" 994 (.ref 305),en P "__dict__" 996 (.ref 308),en P "__weakref__" 998 (.ref 309),en P "__doc__" 999 (.none)],
 cl "Code" [.type "object"] [.ref 307,.type "object"] 306 [] [none,none,some (.str "Code" 825),some (.str "Code" 833),some (.builtin "object.__new__"),some (.bool true)],
 fi (.type "getset_descriptor") [.str "__dict__" 995,.ref 307,.builtin "function.__dict__",.builtin "function.__dict__#set"],
 fi (.type "getset_descriptor") [.str "__weakref__" 997,.ref 307,.builtin "ExceptionGroup.__weakref__",.none],
 fi (.type "super") [.ref 307,.ref 307,.ref 307],
 fi (.type "builtin_function_or_method") [.builtin "object.__init_subclass__",.ref 307]]
noncomputable def c11 (P:Params):List Obj:=hG 312 1004 (st 98) "depth_at_target" "depth_at_target" 224 2 (.none) hw3 [] ["op","depth"]++
 [tu [],
 fi (.type "builtin_function_or_method") [.builtin "type.__prepare__",.type "type"],
 di (.type "dict") 16 [en P "__module__" 1019 (.str "js.comp_code" 1002),en P "__qualname__" 1021 (.str "OpenCode" 1020),en P "__firstlineno__" 1023 (.int 228 1022),en P "__init__" 1033 (.ref 332),en P "is_open" 1040 (.ref 339),en P "set_line" 1048 (.ref 346),en P "new_label" 1055 (.ref 353),en P "meet" 1064 (.ref 360),en P "add" 1073 (.ref 368),en P "add_const" 1081 (.ref 375),en P "add_named" 1090 (.ref 382),en P "jump_to" 1099 (.ref 389),en P "stand" 1107 (.ref 396),en P "enter" 1116 (.ref 403),en P "mark" 1124 (.ref 410),en P "__static_attributes__" 1128 (.ref 411)]]++
 hK 322 1014 "OpenCode" 228 181 321 hw3 (hln [(230,4,331),(235,4,338),(238,4,345),(241,4,352),(245,4,359),(250,4,367),(255,4,374),(259,4,381),(263,4,388),(269,4,395),(275,4,402),(279,4,409)])++
 hG 326 1024 (me 99 0) "OpenCode.__init__" "__init__" 230 4 (.none) hw3 [] ["self","name","params","is_strict"]++
 hG 333 1034 (me 99 1) "OpenCode.is_open" "is_open" 235 1 (.none) hw3 [] ["self"]
noncomputable def c12 (P:Params):List Obj:=hG 340 1041 (me 99 2) "OpenCode.set_line" "set_line" 238 2 (.none) hw3 [] ["self","line"]++
 hG 347 1049 (me 99 3) "OpenCode.new_label" "new_label" 241 1 (.none) hw3 [] ["self"]++
 hG 354 1056 (me 99 4) "OpenCode.meet" "meet" 245 3 (.none) hw3 [] ["self","label","depth"]++
 [tu [.none]]++
 hG 362 1065 (me 99 5) "OpenCode.add" "add" 250 3 (.ref 361) hw3 [] ["self","op","arg"]
noncomputable def c13 (P:Params):List Obj:=hG 369 1074 (me 99 6) "OpenCode.add_const" "add_const" 255 2 (.none) hw3 [] ["self","value"]++
 hG 376 1082 (me 99 7) "OpenCode.add_named" "add_named" 259 3 (.none) hw3 [] ["self","op","text"]++
 hG 383 1091 (me 99 8) "OpenCode.jump_to" "jump_to" 263 3 (.none) hw3 [] ["self","op","label"]++
 hG 390 1100 (me 99 9) "OpenCode.stand" "stand" 269 2 (.none) hw3 [] ["self","label"]
noncomputable def c14 (P:Params):List Obj:=hG 397 1108 (me 99 10) "OpenCode.enter" "enter" 275 3 (.none) hw3 [] ["self","label","depth"]++
 hG 404 1117 (me 99 11) "OpenCode.mark" "mark" 279 1 (.none) hw3 [] ["self","label"]++
 [hS 1125 ["depth","depths","made"],
 di (.type "dict") 4 [en P "__module__" 1019 (.str "js.comp_code" 1002),en P "__firstlineno__" 1023 (.int 228 1022),en P "__init__" 1033 (.ref 332),en P "is_open" 1040 (.ref 339),en P "set_line" 1048 (.ref 346),en P "new_label" 1055 (.ref 353),en P "meet" 1064 (.ref 360),en P "add" 1073 (.ref 368),en P "add_const" 1081 (.ref 375),en P "add_named" 1090 (.ref 382),en P "jump_to" 1099 (.ref 389),en P "stand" 1107 (.ref 396),en P "enter" 1116 (.ref 403),en P "mark" 1124 (.ref 410),en P "__static_attributes__" 1128 (.ref 411),en P "__dict__" 1130 (.ref 414),en P "__weakref__" 1132 (.ref 415),en P "__doc__" 1133 (.none)],
 cl "OpenCode" [.type "object"] [.ref 413,.type "object"] 412 [] [none,none,some (.str "OpenCode" 1012),some (.str "OpenCode" 1020),some (.builtin "object.__new__"),some (.bool true)],
 fi (.type "getset_descriptor") [.str "__dict__" 1129,.ref 413,.builtin "function.__dict__",.builtin "function.__dict__#set"],
 fi (.type "getset_descriptor") [.str "__weakref__" 1131,.ref 413,.builtin "ExceptionGroup.__weakref__",.none],
 fi (.type "super") [.ref 413,.ref 413,.ref 413],
 fi (.type "builtin_function_or_method") [.builtin "object.__init_subclass__",.ref 413],
 di (.type "dict") 3 [en P "local" 1138 (.int 11 218),en P "cell" 1139 (.int 13 222),en P "up" 1140 (.int 15 226)],
 di (.type "dict") 3 [en P "local" 1145 (.int 12 220),en P "cell" 1146 (.int 14 224),en P "up" 1147 (.int 16 228)],
 tu [],
 fi (.type "builtin_function_or_method") [.builtin "type.__prepare__",.type "type"],
 di (.type "dict") 11 [en P "__module__" 1159 (.str "js.comp_base" 1136),en P "__qualname__" 1161 (.str "CompBase" 1160),en P "__firstlineno__" 1163 (.int 286 1162),en P "__init__" 1172 (.ref 433),en P "new_local" 1179 (.ref 440),en P "get_name" 1189 (.ref 447),en P "set_place" 1199 (.ref 454),en P "set_name" 1207 (.ref 461),en P "keep" 1215 (.ref 468),en P "copy_local" 1224 (.ref 475),en P "__static_attributes__" 1231 (.ref 476)]]++
 hK 423 1154 "CompBase" 286 181 422 hw4 (hln [(288,4,432),(296,4,439),(300,4,446),(307,4,453),(314,4,460),(320,4,467),(324,4,474)])
noncomputable def c15 (P:Params):List Obj:=hG 427 1164 (me 103 0) "CompBase.__init__" "__init__" 288 3 (.none) hw4 [] ["self","scope","name"]++
 hG 434 1173 (me 103 1) "CompBase.new_local" "new_local" 296 1 (.none) hw4 [] ["self"]++
 hG 441 1180 (me 103 2) "CompBase.get_name" "get_name" 300 2 (.none) hw4 [] ["self","name","sort","where"]++
 hG 448 1190 (me 103 3) "CompBase.set_place" "set_place" 307 2 (.none) hw4 [] ["self","place","sort","where"]
noncomputable def c16 (P:Params):List Obj:=hG 455 1200 (me 103 4) "CompBase.set_name" "set_name" 314 2 (.none) hw4 [] ["self","name"]++
 hG 462 1208 (me 103 5) "CompBase.keep" "keep" 320 2 (.none) hw4 [] ["self","local"]++
 hG 469 1216 (me 103 6) "CompBase.copy_local" "copy_local" 324 3 (.none) hw4 [] ["self","source","target"]++
 [hS 1225 ["code","controls","local_count","result","scope","view"],
 di (.type "dict") 4 [en P "__module__" 1159 (.str "js.comp_base" 1136),en P "__firstlineno__" 1163 (.int 286 1162),en P "__init__" 1172 (.ref 433),en P "new_local" 1179 (.ref 440),en P "get_name" 1189 (.ref 447),en P "set_place" 1199 (.ref 454),en P "set_name" 1207 (.ref 461),en P "keep" 1215 (.ref 468),en P "copy_local" 1224 (.ref 475),en P "__static_attributes__" 1231 (.ref 476),en P "__dict__" 1233 (.ref 479),en P "__weakref__" 1235 (.ref 480),en P "__doc__" 1236 (.none)],
 cl "CompBase" [.type "object"] [.ref 478,.type "object"] 477 [.ref 688] [none,none,some (.str "CompBase" 1152),some (.str "CompBase" 1160),some (.builtin "object.__new__"),some (.bool true)],
 fi (.type "getset_descriptor") [.str "__dict__" 1232,.ref 478,.builtin "function.__dict__",.builtin "function.__dict__#set"],
 fi (.type "getset_descriptor") [.str "__weakref__" 1234,.ref 478,.builtin "ExceptionGroup.__weakref__",.none],
 fi (.type "super") [.ref 478,.ref 478,.ref 478],
 fi (.type "builtin_function_or_method") [.builtin "object.__init_subclass__",.ref 478]]
noncomputable def c17 (P:Params):List Obj:=[tu [],
 fi (.type "builtin_function_or_method") [.builtin "type.__prepare__",.type "type"],
 di (.type "dict") 6 [en P "__module__" 1260 (.str "js.ways" 1239),en P "__qualname__" 1262 (.str "Control" 1261),en P "__firstlineno__" 1264 (.int 334 1263),en P "__init__" 1275 (.ref 496),en P "is_loop" 1282 (.ref 503),en P "__static_attributes__" 1287 (.ref 504)]]++
 hK 486 1255 "Control" 334 181 485 hw5 (hln [(336,4,495),(342,4,502)])++
 hG 490 1265 (me 111 0) "Control.__init__" "__init__" 336 5 (.none) hw5 [] ["self","kind","labels","behind","again"]++
 hG 497 1276 (me 111 1) "Control.is_loop" "is_loop" 342 1 (.none) hw5 [] ["self"]++
 [hS 1283 ["again","behind","kind","labels"],
 di (.type "dict") 4 [en P "__module__" 1260 (.str "js.ways" 1239),en P "__firstlineno__" 1264 (.int 334 1263),en P "__init__" 1275 (.ref 496),en P "is_loop" 1282 (.ref 503),en P "__static_attributes__" 1287 (.ref 504),en P "__dict__" 1289 (.ref 507),en P "__weakref__" 1291 (.ref 508),en P "__doc__" 1292 (.none)],
 cl "Control" [.type "object"] [.ref 506,.type "object"] 505 [] [none,none,some (.str "Control" 1253),some (.str "Control" 1261),some (.builtin "object.__new__"),some (.bool true)],
 fi (.type "getset_descriptor") [.str "__dict__" 1288,.ref 506,.builtin "function.__dict__",.builtin "function.__dict__#set"],
 fi (.type "getset_descriptor") [.str "__weakref__" 1290,.ref 506,.builtin "ExceptionGroup.__weakref__",.none],
 fi (.type "super") [.ref 506,.ref 506,.ref 506],
 fi (.type "builtin_function_or_method") [.builtin "object.__init_subclass__",.ref 506]]
noncomputable def c18 (P:Params):List Obj:=hG 511 1295 (st 112) "leave_down_to" "leave_down_to" 344 3 (.none) hw5 [] ["code","controls","many","control"]++
 hG 518 1305 (st 113) "broken" "broken" 353 2 (.none) hw5 [] ["controls","label","at","control"]++
 hG 525 1315 (st 114) "continued" "continued" 361 2 (.none) hw5 [] ["controls","label","at","control"]++
 hG 532 1325 (st 115) "break_out" "break_out" 367 3 (.none) hw5 [] ["code","controls","label","at"]
noncomputable def c19 (P:Params):List Obj:=hG 539 1335 (st 116) "go_again" "go_again" 371 3 (.none) hw5 [] ["code","controls","label","at"]++
 [tu [],
 fi (.none) [],
 ft (st 117) "is_guarded",
 fi (.type "code") [.str "is_guarded" 1345,.str "is_guarded" 1346,.str "/claim/cut.py" 1347,i0 375,i0 1,i0 0,i0 0,i0 3,.ref 546,.bool true,i0 181,.ref 547,.none,.none,.none,.ref 548,i0 1348,i0 375,.str "/claim/cut.py" 1349],
 fn (st 117) "is_guarded" (.none) (.str "js.ways" 1239) (.ref 549)]++
 hG 551 1353 (st 119) "lay_branch" "lay_branch" 378 5 (.none) hw6 [] ["code","node","label","when","push","op","one","other","end"]++
 hG 558 1368 (st 120) "lay_choice" "lay_choice" 394 3 (.none) hw6 [] ["code","node","push","end","op","one","other","test","no"]++
 hG 565 1383 (st 121) "lay_tests" "lay_tests" 410 5 (.none) hw6 [] ["code","clauses","bodies","behind","push","other","at","clause","later"]
noncomputable def c20 (P:Params):List Obj:=[tu [],
 fi (.none) [],
 ft (st 122) "lay_switch",
 fi (.type "code") [.str "lay_switch" 1398,.str "lay_switch" 1399,.str "/claim/cut.py" 1400,i0 426,i0 6,i0 0,i0 0,i0 3,.ref 572,.bool true,i0 181,.ref 573,.none,.none,.none,.ref 574,i0 1401,i0 426,.str "/claim/cut.py" 1402],
 fn (st 122) "lay_switch" (.none) (.str "js.jumps" 1351) (.ref 575),
 di (.type "dict") 21 [en P "+" 1406 (.int 30 252),en P "-" 1408 (.int 31 254),en P "*" 1410 (.int 32 256),en P "/" 1412 (.int 33 258),en P "%" 1414 (.int 34 260),en P "<<" 1416 (.int 35 262),en P ">>" 1418 (.int 36 264),en P ">>>" 1420 (.int 37 266),en P "&" 1422 (.int 38 268),en P "|" 1424 (.int 39 270),en P "^" 1426 (.int 40 272),en P "==" 1428 (.int 41 274),en P "!=" 1430 (.int 42 276),en P "===" 1432 (.int 43 278),en P "!==" 1434 (.int 44 280),en P "<" 1436 (.int 45 282),en P ">" 1438 (.int 46 284),en P "<=" 1440 (.int 47 286),en P ">=" 1441 (.int 48 288),en P "in" 1442 (.int 49 290),en P "instanceof" 1443 (.int 50 292)],
 di (.type "dict") 4 [en P "<=" 1440 (.int 47 286),en P ">=" 1441 (.int 48 288),en P "in" 1442 (.int 49 290),en P "instanceof" 1443 (.int 50 292)],
 di (.type "dict") 5 [en P "-" 1449 (.int 51 294),en P "+" 1450 (.int 52 296),en P "!" 1451 (.int 53 298),en P "~" 1452 (.int 54 300),en P "typeof" 1453 (.int 55 302)],
 di (.type "dict") 3 [en P "init" 1460 (.int 71 334),en P "get" 1461 (.int 72 336),en P "set" 1462 (.int 73 338)],
 tu [.ref 478],
 fi (.type "builtin_function_or_method") [.builtin "type.__prepare__",.type "type"],
 di (.type "dict") 18 [en P "__module__" 1474 (.str "js.comp_expr" 1404),en P "__qualname__" 1476 (.str "CompExpr" 1475),en P "__firstlineno__" 1478 (.int 441 1477),en P "inner_unit" 1486 (.ref 594),en P "value" 1496 (.ref 601),en P "other_value" 1507 (.ref 608),en P "values" 1516 (.ref 615),en P "closure" 1524 (.ref 622),en P "literal" 1536 (.ref 629),en P "call" 1546 (.ref 636),en P "assign" 1556 (.ref 643),en P "element" 1564 (.ref 650),en P "reckon" 1572 (.ref 657),en P "update" 1583 (.ref 664),en P "stepped" 1593 (.ref 671),en P "unary" 1602 (.ref 678),en P "delete" 1610 (.ref 685),en P "__static_attributes__" 1611 (.ref 686)]]++
 hK 584 1469 "CompExpr" 441 181 583 hw7 (hln [(443,4,593),(446,4,600),(474,4,607),(500,4,614),(504,4,621),(507,4,628),(527,4,635),(543,4,642),(569,4,649),(574,4,656),(578,4,663),(602,4,670),(609,4,677),(623,4,684)])++
 hG 588 1479 (me 127 0) "CompExpr.inner_unit" "inner_unit" 443 2 (.none) hw7 [] ["self","node"]++
 hG 595 1487 (me 127 1) "CompExpr.value" "value" 446 2 (.none) hw7 [] ["self","node","kind","parts"]
noncomputable def c21 (P:Params):List Obj:=hG 602 1497 (me 127 2) "CompExpr.other_value" "other_value" 474 2 (.none) hw7 [] ["self","node","kind","parts","one"]++
 hG 609 1508 (me 127 3) "CompExpr.values" "values" 500 2 (.none) hw7 [] ["self","nodes","one"]++
 hG 616 1517 (me 127 4) "CompExpr.closure" "closure" 504 2 (.none) hw7 [] ["self","node"]++
 hG 623 1525 (me 127 5) "CompExpr.literal" "literal" 507 2 (.none) hw7 [] ["self","node","items","one","sort","key"]
noncomputable def c22 (P:Params):List Obj:=hG 630 1537 (me 127 6) "CompExpr.call" "call" 527 2 (.none) hw7 [] ["self","node","callee","args"]++
 hG 637 1547 (me 127 7) "CompExpr.assign" "assign" 543 4 (.none) hw7 [] ["self","op","target","node"]++
 hG 644 1557 (me 127 8) "CompExpr.element" "element" 569 2 (.none) hw7 [] ["self","target"]++
 hG 651 1565 (me 127 9) "CompExpr.reckon" "reckon" 574 2 (.none) hw7 [] ["self","op"]
noncomputable def c23 (P:Params):List Obj:=hG 658 1573 (me 127 10) "CompExpr.update" "update" 578 4 (.none) hw7 [] ["self","op","is_prefix","target","step"]++
 hG 665 1584 (me 127 11) "CompExpr.stepped" "stepped" 602 4 (.none) hw7 [] ["self","step","is_prefix","turn"]++
 hG 672 1594 (me 127 12) "CompExpr.unary" "unary" 609 3 (.none) hw7 [] ["self","op","node"]++
 hG 679 1603 (me 127 13) "CompExpr.delete" "delete" 623 2 (.none) hw7 [] ["self","node"]
noncomputable def c24 (P:Params):List Obj:=[tu [],
 di (.type "dict") 2 [en P "__module__" 1474 (.str "js.comp_expr" 1404),en P "__firstlineno__" 1478 (.int 441 1477),en P "inner_unit" 1486 (.ref 594),en P "value" 1496 (.ref 601),en P "other_value" 1507 (.ref 608),en P "values" 1516 (.ref 615),en P "closure" 1524 (.ref 622),en P "literal" 1536 (.ref 629),en P "call" 1546 (.ref 636),en P "assign" 1556 (.ref 643),en P "element" 1564 (.ref 650),en P "reckon" 1572 (.ref 657),en P "update" 1583 (.ref 664),en P "stepped" 1593 (.ref 671),en P "unary" 1602 (.ref 678),en P "delete" 1610 (.ref 685),en P "__static_attributes__" 1611 (.ref 686),en P "__doc__" 1612 (.none)],
 cl "CompExpr" [.ref 478] [.ref 688,.ref 478,.type "object"] 687 [.ref 834] [some (.ref 581),none,some (.str "CompExpr" 1467),some (.str "CompExpr" 1475),some (.builtin "object.__new__"),some (.bool true)],
 fi (.type "super") [.ref 688,.ref 688,.ref 688],
 fi (.type "builtin_function_or_method") [.builtin "object.__init_subclass__",.ref 688],
 hS 1617 ["While","DoWhile","For","ForIn"],
 tu [.ref 688],
 fi (.type "builtin_function_or_method") [.builtin "type.__prepare__",.type "type"],
 di (.type "dict") 23 [en P "__module__" 1629 (.str "js.comp_stmt" 1615),en P "__qualname__" 1631 (.str "CompStmt" 1630),en P "__firstlineno__" 1633 (.int 642 1632),en P "statements" 1642 (.ref 705),en P "statement" 1652 (.ref 712),en P "drop_result" 1659 (.ref 719),en P "variables" 1669 (.ref 726),en P "condition" 1681 (.ref 733),en P "labelled" 1692 (.ref 740),en P "loop" 1706 (.ref 747),en P "body" 1715 (.ref 754),en P "while_loop" 1725 (.ref 761),en P "do_loop" 1736 (.ref 768),en P "for_loop" 1750 (.ref 775),en P "keys_loop" 1762 (.ref 782),en P "take_key" 1770 (.ref 789),en P "leave_function" 1779 (.ref 796),en P "guarded" 1799 (.ref 803),en P "kept_result" 1807 (.ref 810),en P "close_guarded" 1817 (.ref 817),en P "caught" 1833 (.ref 824),en P "last" 1843 (.ref 831),en P "__static_attributes__" 1845 (.ref 832)]]++
 hK 695 1624 "CompStmt" 642 181 694 hw8 (hln [(644,4,704),(649,4,711),(679,4,718),(685,4,725),(692,4,732),(703,4,739),(718,4,746),(733,4,753),(738,4,760),(745,4,767),(753,4,774),(772,4,781),(786,4,788),(802,4,795),(814,4,802),(834,4,809),(841,4,816),(846,4,823),(862,4,830)])++
 hG 699 1634 (me 130 0) "CompStmt.statements" "statements" 644 2 (.none) hw8 [] ["self","nodes","node"]++
 hG 706 1643 (me 130 1) "CompStmt.statement" "statement" 649 2 (.none) hw8 [] ["self","node","kind","parts"]++
 hG 713 1653 (me 130 2) "CompStmt.drop_result" "drop_result" 679 1 (.none) hw8 [] ["self"]
noncomputable def c25 (P:Params):List Obj:=hG 720 1660 (me 130 3) "CompStmt.variables" "variables" 685 2 (.none) hw8 [] ["self","pairs","name","init"]++
 hG 727 1670 (me 130 4) "CompStmt.condition" "condition" 692 4 (.none) hw8 [] ["self","test","one","other","no","end"]++
 hG 734 1682 (me 130 5) "CompStmt.labelled" "labelled" 703 2 (.none) hw8 [] ["self","node","labels","inner","behind"]++
 hG 741 1693 (me 130 6) "CompStmt.loop" "loop" 718 3 (.none) hw8 [] ["self","node","labels","kind","parts","behind","again","control"]
noncomputable def c26 (P:Params):List Obj:=hG 748 1707 (me 130 7) "CompStmt.body" "body" 733 3 (.none) hw8 [] ["self","node","control"]++
 hG 755 1716 (me 130 8) "CompStmt.while_loop" "while_loop" 738 4 (.none) hw8 [] ["self","test","node","control"]++
 hG 762 1726 (me 130 9) "CompStmt.do_loop" "do_loop" 745 4 (.none) hw8 [] ["self","node","test","control","top"]++
 hG 769 1737 (me 130 10) "CompStmt.for_loop" "for_loop" 753 3 (.none) hw8 [] ["self","parts","control","init","test","step","node","top"]
noncomputable def c27 (P:Params):List Obj:=hG 776 1751 (me 130 11) "CompStmt.keys_loop" "keys_loop" 772 3 (.none) hw8 [] ["self","parts","control","target","owner","node"]++
 hG 783 1763 (me 130 12) "CompStmt.take_key" "take_key" 786 2 (.none) hw8 [] ["self","target"]++
 hG 790 1771 (me 130 13) "CompStmt.leave_function" "leave_function" 802 2 (.none) hw8 [] ["self","node","kept"]++
 hG 797 1780 (me 130 14) "CompStmt.guarded" "guarded" 814 2 (.none) hw8 [] ["self","node","block","name","caught","last","end","rest","depth","ahead","start","first","stop","is_empty"]
noncomputable def c28 (P:Params):List Obj:=hG 804 1800 (me 130 15) "CompStmt.kept_result" "kept_result" 834 1 (.none) hw8 [] ["self","kept"]++
 hG 811 1808 (me 130 16) "CompStmt.close_guarded" "close_guarded" 841 4 (.none) hw8 [] ["self","last","rest","end"]++
 hG 818 1818 (me 130 17) "CompStmt.caught" "caught" 846 6 (.none) hw8 [] ["self","node","start","stop","depth","ahead","handler","view","place","kept"]++
 hG 825 1834 (me 130 18) "CompStmt.last" "last" 862 3 (.none) hw8 [] ["self","nodes","ahead","kept"]
noncomputable def c29 (P:Params):List Obj:=[hS 1844 ["view"],
 di (.type "dict") 2 [en P "__module__" 1629 (.str "js.comp_stmt" 1615),en P "__firstlineno__" 1633 (.int 642 1632),en P "statements" 1642 (.ref 705),en P "statement" 1652 (.ref 712),en P "drop_result" 1659 (.ref 719),en P "variables" 1669 (.ref 726),en P "condition" 1681 (.ref 733),en P "labelled" 1692 (.ref 740),en P "loop" 1706 (.ref 747),en P "body" 1715 (.ref 754),en P "while_loop" 1725 (.ref 761),en P "do_loop" 1736 (.ref 768),en P "for_loop" 1750 (.ref 775),en P "keys_loop" 1762 (.ref 782),en P "take_key" 1770 (.ref 789),en P "leave_function" 1779 (.ref 796),en P "guarded" 1799 (.ref 803),en P "kept_result" 1807 (.ref 810),en P "close_guarded" 1817 (.ref 817),en P "caught" 1833 (.ref 824),en P "last" 1843 (.ref 831),en P "__static_attributes__" 1845 (.ref 832),en P "__doc__" 1846 (.none)],
 cl "CompStmt" [.ref 688] [.ref 834,.ref 688,.ref 478,.type "object"] 833 [] [some (.ref 692),none,some (.str "CompStmt" 1622),some (.str "CompStmt" 1630),some (.builtin "object.__new__"),some (.bool true)],
 fi (.type "super") [.ref 834,.ref 834,.ref 834],
 fi (.type "builtin_function_or_method") [.builtin "object.__init_subclass__",.ref 834],
 tu [],
 fi (.type "builtin_function_or_method") [.builtin "type.__prepare__",.type "type"],
 di (.type "dict") 5 [en P "__module__" 1858 (.str "js.nodes" 1849),en P "__qualname__" 1860 (.str "Node" 1859),en P "__firstlineno__" 1862 (.int 873 1861),en P "__init__" 1872 (.ref 850),en P "__static_attributes__" 1877 (.ref 851)]]++
 hK 840 1853 "Node" 873 181 839 hw9 (hln [(875,4,849)])++
 hG 844 1863 (me 132 0) "Node.__init__" "__init__" 875 4 (.none) hw9 [] ["self","kind","line","parts"]++
 [hS 1873 ["kind","line","parts","scope"],
 di (.type "dict") 4 [en P "__module__" 1858 (.str "js.nodes" 1849),en P "__firstlineno__" 1862 (.int 873 1861),en P "__init__" 1872 (.ref 850),en P "__static_attributes__" 1877 (.ref 851),en P "__dict__" 1879 (.ref 854),en P "__weakref__" 1881 (.ref 855),en P "__doc__" 1882 (.none)],
 cl "Node" [.type "object"] [.ref 853,.type "object"] 852 [] [none,none,some (.str "Node" 1851),some (.str "Node" 1859),some (.builtin "object.__new__"),some (.bool true)],
 fi (.type "getset_descriptor") [.str "__dict__" 1878,.ref 853,.builtin "function.__dict__",.builtin "function.__dict__#set"],
 fi (.type "getset_descriptor") [.str "__weakref__" 1880,.ref 853,.builtin "ExceptionGroup.__weakref__",.none],
 fi (.type "super") [.ref 853,.ref 853,.ref 853],
 fi (.type "builtin_function_or_method") [.builtin "object.__init_subclass__",.ref 853]]++
 hG 858 1887 (st 134) "_law_take" "_law_take" 881 2 (.none) hw10 [] ["box","wide"]
noncomputable def c30 (P:Params):List Obj:=hG 865 1895 (st 135) "_law_name" "_law_name" 886 2 (.none) hw10 [] ["box","is_caught"]++
 [tu [],
 fi (.none) [],
 ft (st 136) "_law_lines",
 fi (.type "code") [.str "_law_lines" 1903,.str "_law_lines" 1904,.str "/claim/cut.py" 1905,i0 888,i0 3,i0 0,i0 0,i0 3,.ref 872,.bool true,i0 181,.ref 873,.none,.none,.none,.ref 874,i0 1906,i0 888,.str "/claim/cut.py" 1907],
 fn (st 136) "_law_lines" (.none) (.str "law_pc0065_01" 1885) (.ref 875)]++
 hG 877 1909 (st 137) "_law_line" "_law_line" 890 3 (.none) hw10 [] ["box","deep","world","loops","labels","is_caught","form","other","clauses","spot","at","test","word","block"]++
 hG 884 1929 (st 138) "_law_loop" "_law_loop" 921 4 (.none) hw10 [] ["box","deep","world","form","loops","labels","is_caught","word","body","test","made","target"]++
 hG 891 1947 (st 139) "_law_try" "_law_try" 936 3 (.none) hw10 [] ["box","deep","world","loops","labels","is_caught","sort","block","caught","last","made"]
noncomputable def c31 (P:Params):List Obj:=hG 898 1964 (st 140) "_law_view" "_law_view" 944 1 (.none) hw10 [] ["most","view"]++
 hG 905 1972 (st 141) "_law_get" "_law_get" 952 2 (.none) hw10 [] ["world","name","value"]++
 hG 912 1981 (st 142) "_law_value" "_law_value" 958 2 (.none) hw10 [] ["world","node"]++
 hG 919 1989 (st 143) "_law_all" "_law_all" 960 2 (.none) hw10 [] ["world","lines","line","found"]
noncomputable def c32 (P:Params):List Obj:=hG 926 1999 (st 144) "_law_is_end" "_law_is_end" 966 2 (.none) hw10 [] ["found","labels"]++
 hG 933 2007 (st 145) "_law_behind" "_law_behind" 968 2 (.none) hw10 [] ["found","labels"]++
 hG 940 2015 (st 146) "_law_rounds" "_law_rounds" 972 3 (.none) hw10 [] ["world","node","labels","kind","rows","value","fault","test","is_first","found"]++
 hG 947 2031 (st 147) "_law_keys" "_law_keys" 995 3 (.none) hw10 [] ["world","rows","labels","value","fault","at","name","found"]
noncomputable def c33 (P:Params):List Obj:=[tu [],
 fi (.none) [],
 ft (st 148) "_law_switched",
 fi (.type "code") [.str "_law_switched" 2045,.str "_law_switched" 2046,.str "/claim/cut.py" 2047,i0 1006,i0 2,i0 0,i0 0,i0 3,.ref 954,.bool true,i0 181,.ref 955,.none,.none,.none,.ref 956,i0 2048,i0 1006,.str "/claim/cut.py" 2049],
 fn (st 148) "_law_switched" (.none) (.str "law_pc0065_01" 1885) (.ref 957)]++
 hG 959 2051 (st 149) "_law_guarded" "_law_guarded" 1019 2 (.none) hw10 [] ["world","rows","block","name","caught","last","found","late"]++
 hG 966 2065 (st 150) "_law_do" "_law_do" 1027 3 (.none) hw10 [] ["world","node","labels","kind","rows","found","value","fault","chosen"]++
 hG 973 2080 (st 151) "_law_caught" "_law_caught" 1055 4 (.none) hw10 [] ["unit","at","stack","fault","first","end","goal","depth","is_finally"]++
 hG 980 2095 (st 152) "_law_jump" "_law_jump" 1063 4 (.none) hw10 [] ["word","where","stack","pc"]
noncomputable def c34 (P:Params):List Obj:=[tu [],
 fi (.none) [],
 ft (st 153) "_law_plain",
 fi (.type "code") [.str "_law_plain" 2105,.str "_law_plain" 2106,.str "/claim/cut.py" 2107,i0 1075,i0 5,i0 0,i0 0,i0 3,.ref 987,.bool true,i0 181,.ref 988,.none,.none,.none,.ref 989,i0 2108,i0 1075,.str "/claim/cut.py" 2109],
 fn (st 153) "_law_plain" (.none) (.str "law_pc0065_01" 1885) (.ref 990)]++
 hG 992 2111 (st 154) "_law_run" "_law_run" 1100 2 (.none) hw10 [] ["world","unit","stack","pc","turn","at","fault","word","where"]++
 [tu [],
 fi (.none) [],
 ft (st 155) "law",
 fi (.type "code") [.str "law" 2126,.str "law" 2127,.str "/claim/cut.py" 2128,i0 1124,i0 1,i0 0,i0 0,i0 3,.ref 999,.bool true,i0 181,.ref 1000,.none,.none,.none,.ref 1001,i0 2129,i0 1124,.str "/claim/cut.py" 2130],
 fn (st 155) "law" (.none) (.str "law_pc0065_01" 1885) (.ref 1002)]
noncomputable def chunks (P:Params):List (Nat × List Obj):=[(28,c0 P),(28,c1 P),(28,c2 P),(28,c3 P),(31,c4 P),(28,c5 P),(28,c6 P),(29,c7 P),(28,c8 P),(28,c9 P),(28,c10 P),(28,c11 P),(29,c12 P),(28,c13 P),(30,c14 P),(28,c15 P),(28,c16 P),(28,c17 P),(28,c18 P),(33,c19 P),(30,c20 P),(28,c21 P),(28,c22 P),(28,c23 P),(34,c24 P),(28,c25 P),(28,c26 P),(28,c27 P),(28,c28 P),(33,c29 P),(33,c30 P),(28,c31 P),(28,c32 P),(33,c33 P),(17,c34 P)]
noncomputable def nsAll (P:Params):List DictEntry:=[
 en P "__name__" 165 (.str "law_pc0065_01" 1885),
 en P "__doc__" 166 (.none),
 en P "__package__" 167 (.none),
 en P "__loader__" 168 (.builtin "__main__.__loader__#opaque"),
 en P "__spec__" 169 (.none),
 en P "__annotations__" 170 (.ref 6),
 en P "__builtins__" 171 (.ref 4),
 en P "__file__" 173 (.str "/claim/cut.py" 172),
 en P "__cached__" 174 (.none),
 en P "_wall" 193 (.ref 21),
 en P "OP_UNDEF" 197 (.int 0 196),
 en P "OP_NULL" 199 (.int 1 198),
 en P "OP_TRUE" 201 (.int 2 200),
 en P "OP_FALSE" 203 (.int 3 202),
 en P "OP_CONST" 205 (.int 4 204),
 en P "OP_THIS" 207 (.int 5 206),
 en P "OP_POP" 209 (.int 6 208),
 en P "OP_DUP" 211 (.int 7 210),
 en P "OP_DUP2" 213 (.int 8 212),
 en P "OP_SWAP" 215 (.int 9 214),
 en P "OP_ROT3" 217 (.int 10 216),
 en P "OP_GETLOC" 219 (.int 11 218),
 en P "OP_SETLOC" 221 (.int 12 220),
 en P "OP_GETCELL" 223 (.int 13 222),
 en P "OP_SETCELL" 225 (.int 14 224),
 en P "OP_GETUP" 227 (.int 15 226),
 en P "OP_SETUP" 229 (.int 16 228),
 en P "OP_FRESH" 231 (.int 17 230),
 en P "OP_GETGLOB" 233 (.int 18 232),
 en P "OP_TYPEGLOB" 235 (.int 19 234),
 en P "OP_SETGLOB" 237 (.int 20 236),
 en P "OP_GETPROP" 239 (.int 23 238),
 en P "OP_SETPROP" 241 (.int 24 240),
 en P "OP_GETELEM" 243 (.int 25 242),
 en P "OP_SETELEM" 245 (.int 26 244),
 en P "OP_DELPROP" 247 (.int 27 246),
 en P "OP_DELELEM" 249 (.int 28 248),
 en P "OP_DELNAME" 251 (.int 29 250),
 en P "OP_ADD" 253 (.int 30 252),
 en P "OP_SUB" 255 (.int 31 254),
 en P "OP_MUL" 257 (.int 32 256),
 en P "OP_DIV" 259 (.int 33 258),
 en P "OP_MOD" 261 (.int 34 260),
 en P "OP_SHL" 263 (.int 35 262),
 en P "OP_SHR" 265 (.int 36 264),
 en P "OP_USHR" 267 (.int 37 266),
 en P "OP_AND" 269 (.int 38 268),
 en P "OP_OR" 271 (.int 39 270),
 en P "OP_XOR" 273 (.int 40 272),
 en P "OP_EQ" 275 (.int 41 274),
 en P "OP_NE" 277 (.int 42 276),
 en P "OP_SEQ" 279 (.int 43 278),
 en P "OP_SNE" 281 (.int 44 280),
 en P "OP_LT" 283 (.int 45 282),
 en P "OP_GT" 285 (.int 46 284),
 en P "OP_LE" 287 (.int 47 286),
 en P "OP_GE" 289 (.int 48 288),
 en P "OP_IN" 291 (.int 49 290),
 en P "OP_INSTANCEOF" 293 (.int 50 292),
 en P "OP_NEG" 295 (.int 51 294),
 en P "OP_TONUM" 297 (.int 52 296),
 en P "OP_NOT" 299 (.int 53 298),
 en P "OP_BITNOT" 301 (.int 54 300),
 en P "OP_TYPEOF" 303 (.int 55 302),
 en P "OP_INC" 305 (.int 56 304),
 en P "OP_DEC" 307 (.int 57 306),
 en P "OP_JMP" 309 (.int 58 308),
 en P "OP_JF" 311 (.int 59 310),
 en P "OP_JT" 313 (.int 60 312),
 en P "OP_JFK" 315 (.int 61 314),
 en P "OP_JTK" 317 (.int 62 316),
 en P "OP_CALL" 319 (.int 63 318),
 en P "OP_NEW" 321 (.int 64 320),
 en P "OP_RET" 323 (.int 65 322),
 en P "OP_THROW" 325 (.int 66 324),
 en P "OP_CLOSURE" 327 (.int 67 326),
 en P "OP_NEWOBJ" 329 (.int 68 328),
 en P "OP_NEWARR" 331 (.int 69 330),
 en P "OP_HOLE" 333 (.int 70 332),
 en P "OP_INITPROP" 335 (.int 71 334),
 en P "OP_INITGET" 337 (.int 72 336),
 en P "OP_INITSET" 339 (.int 73 338),
 en P "OP_METHOD" 341 (.int 74 340),
 en P "OP_METHODEL" 343 (.int 75 342),
 en P "OP_FORIN" 345 (.int 76 344),
 en P "OP_NEXTIN" 347 (.int 77 346),
 en P "OP_GOSUB" 349 (.int 78 348),
 en P "OP_RETSUB" 351 (.int 79 350),
 en P "OP_CHECKOBJ" 353 (.int 80 352),
 en P "OP_TOKEY" 355 (.int 81 354),
 en P "OP_ROT4" 357 (.int 82 356),
 en P "OP_FAILSET" 359 (.int 83 358),
 en P "OP_REGEXP" 361 (.int 84 360),
 en P "OPERATIONS" 702 (.ref 107),
 en P "LAST_OPS" 703 (.ref 108),
 en P "BadCode" 734 (.ref 125),
 en P "Unit" 778 (.ref 145),
 en P "op_name" 785 (.ref 156),
 en P "arg_kind" 792 (.ref 163),
 en P "taken_count" 800 (.ref 170),
 en P "put_count" 807 (.ref 177),
 en P "is_last" 814 (.ref 184),
 en P "same_constant" 822 (.ref 191),
 en P "Code" 1001 (.ref 307),
 en P "depth_at_target" 1011 (.ref 318),
 en P "OpenCode" 1135 (.ref 413),
 en P "GET_OPS" 1144 (.ref 418),
 en P "SET_OPS" 1151 (.ref 419),
 en P "CompBase" 1238 (.ref 478),
 en P "LOOP" 1242 (.str "loop" 1241),
 en P "KEYS" 1244 (.str "keys" 1243),
 en P "CHOICE" 1246 (.str "choice" 1245),
 en P "LABEL" 1248 (.str "label" 1247),
 en P "GUARDED" 1250 (.str "guarded" 1249),
 en P "FINALLY" 1252 (.str "finally" 1251),
 en P "Control" 1294 (.ref 506),
 en P "leave_down_to" 1304 (.ref 517),
 en P "broken" 1314 (.ref 524),
 en P "continued" 1324 (.ref 531),
 en P "break_out" 1334 (.ref 538),
 en P "go_again" 1344 (.ref 545),
 en P "is_guarded" 1350 (.ref 550),
 en P "lay_branch" 1367 (.ref 557),
 en P "lay_choice" 1382 (.ref 564),
 en P "lay_tests" 1397 (.ref 571),
 en P "lay_switch" 1403 (.ref 576),
 en P "BINARY_OPS" 1448 (.ref 577),
 en P "UNARY_OPS" 1459 (.ref 579),
 en P "ITEM_OPS" 1466 (.ref 580),
 en P "CompExpr" 1614 (.ref 688),
 en P "LOOPS" 1621 (.ref 691),
 en P "CompStmt" 1848 (.ref 834),
 en P "Node" 1884 (.ref 853),
 en P "_law_take" 1894 (.ref 864),
 en P "_law_name" 1902 (.ref 871),
 en P "_law_lines" 1908 (.ref 876),
 en P "_law_line" 1928 (.ref 883),
 en P "_law_loop" 1946 (.ref 890),
 en P "_law_try" 1963 (.ref 897),
 en P "_law_view" 1971 (.ref 904),
 en P "_law_get" 1980 (.ref 911),
 en P "_law_value" 1988 (.ref 918),
 en P "_law_all" 1998 (.ref 925),
 en P "_law_is_end" 2006 (.ref 932),
 en P "_law_behind" 2014 (.ref 939),
 en P "_law_rounds" 2030 (.ref 946),
 en P "_law_keys" 2044 (.ref 953),
 en P "_law_switched" 2050 (.ref 958),
 en P "_law_guarded" 2064 (.ref 965),
 en P "_law_do" 2079 (.ref 972),
 en P "_law_caught" 2094 (.ref 979),
 en P "_law_jump" 2104 (.ref 986),
 en P "_law_plain" 2110 (.ref 991),
 en P "_law_run" 2125 (.ref 998),
 en P "law" 2131 (.ref 1003)]
noncomputable def nth {α:Type} (d:α):List α→Nat→α
 | [],_=>d
 | a :: l,n=>match n with
  | 0=>a
  | n+1=>nth d l n
noncomputable def hin:List (Nat × List Obj)→Nat→Obj
 | [],_=>default
 | (n,l) :: r,j=>match Nat.blt j n with
  | true=>nth default l j
  | false=>hin r (j - n)
noncomputable def objAt (P:Params) (j:Nat):Obj:=hin (chunks P) j
noncomputable def named (v:Value):List DictEntry→List DictEntry
 | []=>[]
 | e :: r=>⟨e.hash,e.key,v⟩ :: r
noncomputable def nsO (P:Params) (e:Nat) (nm:Value):Obj:=di (.type "dict") e (named nm ((nsAll P).take e))
noncomputable def ovAt:List (Nat × Obj)→Nat→Option Obj
 | [],_=>none
 | x :: r,j=>match Nat.beq j x.1 with
  | true=>some x.2
  | false=>ovAt r j
noncomputable def leaf (P:Params) (e:Nat) (nm:Value) (ov:List (Nat × Obj)) (j:Nat):Obj:=match Nat.beq j 3 with
 | true=>nsO P e nm
 | false=>match ovAt ov j with
  | some o=>o
  | none=>objAt P j
noncomputable def tr (f:Nat→Obj) (n:Nat):Nat→Nat→Nat→BT
 | 0,_,_=>.nil
 | k+1,a,b=>match Nat.blt b n with
  | true=>.node (f b) (tr f n k (2 * a) (a+b)) (tr f n k (2 * a) (2 * a+b))
  | false=>.nil
noncomputable def Sx (P:Params) (os:OsState) (n toks e:Nat) (nm:Value) (ov:List (Nat × Obj)):SharedT:=
 ⟨tr (leaf P e nm ov) n 11 1 0,n,(boot_heap P).life,Array.mk [],boot_drawn,toks,os⟩
noncomputable def ann:Option Value:=some (.ref 6)
noncomputable def env:Env:={ scope:=p.main.scope,locals:=mainNs,globals:=mainNs,cells:=[],code:=.ref 13,frame:=some 14 }
noncomputable def cE:Code:=.body (behindTheImports p) env
abbrev B:List Frame:=[topFrame ⟨0,0,0,0⟩]
noncomputable def sts (i n:Nat):List Stmt:=(p.main.body.drop i).take n
theorem by_tw {w:World} {m:Nat} {an:Option Value} {b n:Nat} {s:SharedT} {t:Thread} {r:Option (Flow × SharedT × Code × Pos)}
  (h:PySem.W.Fast.tw10110043849684766642 PySem.W.Fast.tw14364793385576792824 p w m an b n s t=r):segRunT treeTable p w m an b n s t=r:=by
 rw [PySem.W.Fast.te10110043849684766642,PySem.W.Fast.te14364793385576792824]; exact h
theorem by_twG {w:World} {m:Nat} {an:Option Value} {n:Nat} {s s':Shared} {t:Thread} {c:Code} {q:Pos} {fs:List Frame}
  (h:PySem.W.Fast.tw15667345088766844465 PySem.W.Fast.tw14364793385576792824 p w m an n s t=some (s',⟨PySem.W.Fast.tw11892475500146522536 PySem.W.Fast.tw14364793385576792824 c,c,q,fs⟩)):topGo treeTable p w m an n s t=some (s',⟨denote treeTable c,c,q,fs⟩):=by
 rw [PySem.W.Fast.te15667345088766844465,PySem.W.Fast.te14364793385576792824,PySem.W.Fast.te11892475500146522536]; exact h
noncomputable def hz0 (w:World) (os:OsState):SharedT:=(Sx w.params os 15 187 9 (.str "__main__" 164) [(2,di (.none) 0 []),(12,fi (.none) [])])
noncomputable def hz1 (w:World) (os:OsState):SharedT:=(Sx w.params os 22 286 55 (.str "js.codes" 194) [(2,di (.none) 0 []),(12,fi (.none) (hln (hv12.take 1)))])
noncomputable def hz2 (w:World) (os:OsState):SharedT:=(Sx w.params os 22 362 93 (.str "js.codes" 194) [(2,di (.none) 0 []),(12,fi (.none) (hln (hv12.take 1)))])
noncomputable def hz3 (w:World) (os:OsState):SharedT:=(Sx w.params os 108 703 94 (.str "js.codes" 194) [(2,di (.none) 0 []),(12,fi (.none) (hln (hv12.take 1)))])
noncomputable def hz4 (w:World) (os:OsState):SharedT:=(Sx w.params os 129 735 96 (.str "js.codes" 194) [(12,fi (.none) (hln (hv12.take 2)))])
noncomputable def hz5 (w:World) (os:OsState):SharedT:=(Sx w.params os 192 825 103 (.str "js.assembler" 823) [(12,fi (.none) (hln (hv12.take 9)))])
noncomputable def hz6 (w:World) (os:OsState):SharedT:=(Sx w.params os 312 1002 104 (.str "js.assembler" 823) [(12,fi (.none) (hln (hv12.take 10)))])
noncomputable def hz7 (w:World) (os:OsState):SharedT:=(Sx w.params os 319 1012 105 (.str "js.comp_code" 1002) [(12,fi (.none) (hln (hv12.take 11)))])
noncomputable def hz8 (w:World) (os:OsState):SharedT:=(Sx w.params os 418 1136 106 (.str "js.comp_code" 1002) [(12,fi (.none) (hln (hv12.take 12)))])
noncomputable def hz9 (w:World) (os:OsState):SharedT:=(Sx w.params os 418 1138 106 (.str "js.comp_base" 1136) [(12,fi (.none) (hln (hv12.take 12)))])
noncomputable def hz10 (w:World) (os:OsState):SharedT:=(Sx w.params os 420 1152 108 (.str "js.comp_base" 1136) [(12,fi (.none) (hln (hv12.take 12)))])
noncomputable def hz11 (w:World) (os:OsState):SharedT:=(Sx w.params os 483 1243 110 (.str "js.ways" 1239) [(12,fi (.none) (hln (hv12.take 13))),(478,cl "CompBase" [.type "object"] [.ref 478,.type "object"] 477 [] [none,none,some (.str "CompBase" 1152),some (.str "CompBase" 1160),some (.builtin "object.__new__"),some (.bool true)])])
noncomputable def hz12 (w:World) (os:OsState):SharedT:=(Sx w.params os 539 1335 120 (.str "js.ways" 1239) [(12,fi (.none) (hln (hv12.take 18))),(478,cl "CompBase" [.type "object"] [.ref 478,.type "object"] 477 [] [none,none,some (.str "CompBase" 1152),some (.str "CompBase" 1160),some (.builtin "object.__new__"),some (.bool true)])])
noncomputable def hz13 (w:World) (os:OsState):SharedT:=(Sx w.params os 577 1406 126 (.str "js.comp_expr" 1404) [(12,fi (.none) (hln (hv12.take 24))),(478,cl "CompBase" [.type "object"] [.ref 478,.type "object"] 477 [] [none,none,some (.str "CompBase" 1152),some (.str "CompBase" 1160),some (.builtin "object.__new__"),some (.bool true)])])
noncomputable def hz14 (w:World) (os:OsState):SharedT:=(Sx w.params os 579 1449 127 (.str "js.comp_expr" 1404) [(12,fi (.none) (hln (hv12.take 24))),(478,cl "CompBase" [.type "object"] [.ref 478,.type "object"] 477 [] [none,none,some (.str "CompBase" 1152),some (.str "CompBase" 1160),some (.builtin "object.__new__"),some (.bool true)])])
noncomputable def hz15 (w:World) (os:OsState):SharedT:=(Sx w.params os 581 1467 129 (.str "js.comp_expr" 1404) [(12,fi (.none) (hln (hv12.take 24))),(478,cl "CompBase" [.type "object"] [.ref 478,.type "object"] 477 [] [none,none,some (.str "CompBase" 1152),some (.str "CompBase" 1160),some (.builtin "object.__new__"),some (.bool true)])])
noncomputable def hz16 (w:World) (os:OsState):SharedT:=(Sx w.params os 691 1615 130 (.str "js.comp_expr" 1404) [(12,fi (.none) (hln (hv12.take 25))),(688,cl "CompExpr" [.ref 478] [.ref 688,.ref 478,.type "object"] 687 [] [some (.ref 581),none,some (.str "CompExpr" 1467),some (.str "CompExpr" 1475),some (.builtin "object.__new__"),some (.bool true)])])
noncomputable def hz17 (w:World) (os:OsState):SharedT:=(Sx w.params os 692 1622 131 (.str "js.comp_stmt" 1615) [(12,fi (.none) (hln (hv12.take 25))),(688,cl "CompExpr" [.ref 478] [.ref 688,.ref 478,.type "object"] 687 [] [some (.ref 581),none,some (.str "CompExpr" 1467),some (.str "CompExpr" 1475),some (.builtin "object.__new__"),some (.bool true)])])
noncomputable def hz18 (w:World) (os:OsState):SharedT:=(Sx w.params os 837 1849 132 (.str "js.comp_stmt" 1615) [(12,fi (.none) (hln (hv12.take 26)))])
noncomputable def hz19 (w:World) (os:OsState):SharedT:=(Sx w.params os 891 1947 138 (.str "law_pc0065_01" 1885) [(12,fi (.none) (hln (hv12.take 32)))])
noncomputable def hz20 (w:World) (os:OsState):SharedT:=(Sx w.params os 980 2095 151 (.str "law_pc0065_01" 1885) [(12,fi (.none) (hln (hv12.take 45)))])
noncomputable def hz21 (w:World) (os:OsState):SharedT:=(Sx w.params os 1004 2132 155 (.str "law_pc0065_01" 1885) [])
theorem top_pre (w:World) (os:OsState):topGo treeTable p w 11 ann 12 ⟨boot_heap w.params,Array.mk [],boot_drawn,boot_toks,os⟩ (topStub p)=some (SharedT.abs (hz0 w os),⟨denote treeTable cE,cE,⟨0,0,0,0⟩,B⟩):=by_twG (by kernel_rfl)
theorem pc_0 (w:World) (os:OsState):segRunT treeTable p w 11 ann 1 444 (hz0 w os) (piecesOf (sts 0 47) env cE ⟨0,0,0,0⟩ B)=some (.next,(hz1 w os),cE,⟨49,0,49,5⟩):=by_tw (by kernel_rfl)
theorem pc_1 (w:World) (os:OsState):segRunT treeTable p w 11 ann 1 343 (hz1 w os) (piecesOf (sts 47 38) env cE ⟨49,0,49,5⟩ B)=some (.next,(hz2 w os),cE,⟨87,0,87,9⟩):=by_tw (by kernel_rfl)
theorem pc_2 (w:World) (os:OsState):segRunT treeTable p w 11 ann 1 521 (hz2 w os) (piecesOf (sts 85 1) env cE ⟨87,0,87,9⟩ B)=some (.next,(hz3 w os),cE,⟨88,0,88,10⟩):=by_tw (by kernel_rfl)
theorem pc_3 (w:World) (os:OsState):segRunT treeTable p w 11 ann 1 251 (hz3 w os) (piecesOf (sts 86 2) env cE ⟨88,0,88,10⟩ B)=some (.next,(hz4 w os),cE,⟨90,0,95,20⟩):=by_tw (by kernel_rfl)
theorem pc_4 (w:World) (os:OsState):segRunT treeTable p w 11 ann 1 423 (hz4 w os) (piecesOf (sts 88 8) env cE ⟨90,0,95,20⟩ B)=some (.next,(hz5 w os),cE,⟨126,0,126,8⟩):=by_tw (by kernel_rfl)
theorem pc_5 (w:World) (os:OsState):segRunT treeTable p w 11 ann 1 708 (hz5 w os) (piecesOf (sts 96 1) env cE ⟨126,0,126,8⟩ B)=some (.next,(hz6 w os),cE,⟨127,0,222,19⟩):=by_tw (by kernel_rfl)
theorem pc_6 (w:World) (os:OsState):segRunT treeTable p w 11 ann 1 40 (hz6 w os) (piecesOf (sts 97 2) env cE ⟨127,0,222,19⟩ B)=some (.next,(hz7 w os),cE,⟨224,0,227,61⟩):=by_tw (by kernel_rfl)
theorem pc_7 (w:World) (os:OsState):segRunT treeTable p w 11 ann 1 583 (hz7 w os) (piecesOf (sts 99 1) env cE ⟨224,0,227,61⟩ B)=some (.next,(hz8 w os),cE,⟨228,0,282,20⟩):=by_tw (by kernel_rfl)
theorem pc_8 (w:World) (os:OsState):segRunT treeTable p w 11 ann 1 10 (hz8 w os) (piecesOf (sts 100 1) env cE ⟨228,0,282,20⟩ B)=some (.next,(hz9 w os),cE,⟨283,0,283,8⟩):=by_tw (by kernel_rfl)
theorem pc_9_false (w:World) (os:OsState):segRunT treeTable p (w.withFollow "special-get-raises" false) 11 ann 1 117 (hz9 (w.withFollow "special-get-raises" false) os) (piecesOf (sts 101 2) env cE ⟨283,0,283,8⟩ B)=some (.next,(hz10 (w.withFollow "special-get-raises" false) os),cE,⟨285,0,285,7⟩):=by_tw (by kernel_rfl)
theorem pc_9_true (w:World) (os:OsState):segRunT treeTable p (w.withFollow "special-get-raises" true) 11 ann 1 117 (hz9 (w.withFollow "special-get-raises" true) os) (piecesOf (sts 101 2) env cE ⟨283,0,283,8⟩ B)=some (.next,(hz10 (w.withFollow "special-get-raises" true) os),cE,⟨285,0,285,7⟩):=by_tw (by kernel_rfl)
theorem pc_9 (w:World) (os:OsState):segRunT treeTable p w 11 ann 1 117 (hz9 w os) (piecesOf (sts 101 2) env cE ⟨283,0,283,8⟩ B)=some (.next,(hz10 w os),cE,⟨285,0,285,7⟩):=
 byRow2 "special-get-raises" (P:=fun w=>segRunT treeTable p w 11 ann 1 117 (hz9 w os) (piecesOf (sts 101 2) env cE ⟨283,0,283,8⟩ B)=some (.next,(hz10 w os),cE,⟨285,0,285,7⟩)) (fun w=>pc_9_false w os) (fun w=>pc_9_true w os) w
theorem pc_10 (w:World) (os:OsState):segRunT treeTable p w 11 ann 1 443 (hz10 w os) (piecesOf (sts 103 3) env cE ⟨285,0,285,7⟩ B)=some (.next,(hz11 w os),cE,⟨328,0,328,4⟩):=by_tw (by kernel_rfl)
theorem pc_11 (w:World) (os:OsState):segRunT treeTable p w 11 ann 1 433 (hz11 w os) (piecesOf (sts 106 10) env cE ⟨328,0,328,4⟩ B)=some (.next,(hz12 w os),cE,⟨367,0,370,45⟩):=by_tw (by kernel_rfl)
theorem pc_12 (w:World) (os:OsState):segRunT treeTable p w 11 ann 1 214 (hz12 w os) (piecesOf (sts 116 8) env cE ⟨367,0,370,45⟩ B)=some (.next,(hz13 w os),cE,⟨437,0,437,8⟩):=by_tw (by kernel_rfl)
theorem pc_13_false (w:World) (os:OsState):segRunT treeTable p (w.withFollow "special-get-raises" false) 11 ann 1 378 (hz13 (w.withFollow "special-get-raises" false) os) (piecesOf (sts 124 1) env cE ⟨437,0,437,8⟩ B)=some (.next,(hz14 (w.withFollow "special-get-raises" false) os),cE,⟨438,0,438,10⟩):=by_tw (by kernel_rfl)
theorem pc_13_true (w:World) (os:OsState):segRunT treeTable p (w.withFollow "special-get-raises" true) 11 ann 1 378 (hz13 (w.withFollow "special-get-raises" true) os) (piecesOf (sts 124 1) env cE ⟨437,0,437,8⟩ B)=some (.next,(hz14 (w.withFollow "special-get-raises" true) os),cE,⟨438,0,438,10⟩):=by_tw (by kernel_rfl)
theorem pc_13 (w:World) (os:OsState):segRunT treeTable p w 11 ann 1 378 (hz13 w os) (piecesOf (sts 124 1) env cE ⟨437,0,437,8⟩ B)=some (.next,(hz14 w os),cE,⟨438,0,438,10⟩):=
 byRow2 "special-get-raises" (P:=fun w=>segRunT treeTable p w 11 ann 1 378 (hz13 w os) (piecesOf (sts 124 1) env cE ⟨437,0,437,8⟩ B)=some (.next,(hz14 w os),cE,⟨438,0,438,10⟩)) (fun w=>pc_13_false w os) (fun w=>pc_13_true w os) w
theorem pc_14_false (w:World) (os:OsState):segRunT treeTable p (w.withFollow "special-get-raises" false) 11 ann 1 149 (hz14 (w.withFollow "special-get-raises" false) os) (piecesOf (sts 125 2) env cE ⟨438,0,438,10⟩ B)=some (.next,(hz15 (w.withFollow "special-get-raises" false) os),cE,⟨440,0,440,8⟩):=by_tw (by kernel_rfl)
theorem pc_14_true (w:World) (os:OsState):segRunT treeTable p (w.withFollow "special-get-raises" true) 11 ann 1 149 (hz14 (w.withFollow "special-get-raises" true) os) (piecesOf (sts 125 2) env cE ⟨438,0,438,10⟩ B)=some (.next,(hz15 (w.withFollow "special-get-raises" true) os),cE,⟨440,0,440,8⟩):=by_tw (by kernel_rfl)
theorem pc_14 (w:World) (os:OsState):segRunT treeTable p w 11 ann 1 149 (hz14 w os) (piecesOf (sts 125 2) env cE ⟨438,0,438,10⟩ B)=some (.next,(hz15 w os),cE,⟨440,0,440,8⟩):=
 byRow2 "special-get-raises" (P:=fun w=>segRunT treeTable p w 11 ann 1 149 (hz14 w os) (piecesOf (sts 125 2) env cE ⟨438,0,438,10⟩ B)=some (.next,(hz15 w os),cE,⟨440,0,440,8⟩)) (fun w=>pc_14_false w os) (fun w=>pc_14_true w os) w
theorem pc_15 (w:World) (os:OsState):segRunT treeTable p w 11 ann 1 681 (hz15 w os) (piecesOf (sts 127 1) env cE ⟨440,0,440,8⟩ B)=some (.next,(hz16 w os),cE,⟨441,0,639,34⟩):=by_tw (by kernel_rfl)
theorem pc_16 (w:World) (os:OsState):segRunT treeTable p w 11 ann 1 24 (hz16 w os) (piecesOf (sts 128 2) env cE ⟨441,0,639,34⟩ B)=some (.next,(hz17 w os),cE,⟨641,0,641,5⟩):=by_tw (by kernel_rfl)
theorem pc_17 (w:World) (os:OsState):segRunT treeTable p w 11 ann 1 894 (hz17 w os) (piecesOf (sts 130 1) env cE ⟨641,0,641,5⟩ B)=some (.next,(hz18 w os),cE,⟨642,0,871,32⟩):=by_tw (by kernel_rfl)
theorem pc_18 (w:World) (os:OsState):segRunT treeTable p w 11 ann 1 414 (hz18 w os) (piecesOf (sts 131 8) env cE ⟨642,0,871,32⟩ B)=some (.next,(hz19 w os),cE,⟨921,0,935,44⟩):=by_tw (by kernel_rfl)
theorem pc_19 (w:World) (os:OsState):segRunT treeTable p w 11 ann 1 433 (hz19 w os) (piecesOf (sts 139 13) env cE ⟨921,0,935,44⟩ B)=some (.next,(hz20 w os),cE,⟨1055,0,1062,13⟩):=by_tw (by kernel_rfl)
theorem pc_20 (w:World) (os:OsState):segRunT treeTable p w 11 ann 1 122 (hz20 w os) (piecesOf (sts 152 4) env cE ⟨1055,0,1062,13⟩ B)=some (.next,(hz21 w os),cE,⟨1124,0,1137,74⟩):=by_tw (by kernel_rfl)
theorem pc_fin (w:World) (os:OsState):topRun treeTable p w 11 ann 2 (SharedT.abs (hz21 w os)) ⟨doneF .next,cE,⟨1124,0,1137,74⟩,B⟩=some (SharedT.abs (hz21 w os)):=rfl
theorem body_eq:behindTheImports p=sts 0 47++(sts 47 38++(sts 85 1++(sts 86 2++(sts 88 8++(sts 96 1++(sts 97 2++(sts 99 1++(sts 100 1++(sts 101 2++(sts 103 3++(sts 106 10++(sts 116 8++(sts 124 1++(sts 125 2++(sts 127 1++(sts 128 2++(sts 130 1++(sts 131 8++(sts 139 13++(sts 152 4++[])))))))))))))))))))):=by kernel_rfl
noncomputable def Send (w:World) (os:OsState):SharedT:=(hz21 w os)
theorem top_run (w:World) (os:OsState):∃ M,topRun treeTable p w 11 ann M ⟨boot_heap w.params,Array.mk [],boot_drawn,boot_toks,os⟩ (topStub p)=some (Send w os).abs:=by
 refine ⟨12+(1+(444+(343+(521+(251+(423+(708+(40+(583+(10+(117+(443+(433+(214+(378+(149+(681+(24+(894+(414+(433+(122+(2))))))))))))))))))))))),?_⟩
 refine go_top (top_pre w os) ?_
 refine piece_block (n:=1) (s':=SharedT.abs (hz0 w os)) (p':=⟨0,0,0,0⟩) (by rfl) ?_
 rw [body_eq]
 refine piece_app (segRun_of (pc_0 w os)) ?_
 refine piece_app (segRun_of (pc_1 w os)) ?_
 refine piece_app (segRun_of (pc_2 w os)) ?_
 refine piece_app (segRun_of (pc_3 w os)) ?_
 refine piece_app (segRun_of (pc_4 w os)) ?_
 refine piece_app (segRun_of (pc_5 w os)) ?_
 refine piece_app (segRun_of (pc_6 w os)) ?_
 refine piece_app (segRun_of (pc_7 w os)) ?_
 refine piece_app (segRun_of (pc_8 w os)) ?_
 refine piece_app (segRun_of (pc_9 w os)) ?_
 refine piece_app (segRun_of (pc_10 w os)) ?_
 refine piece_app (segRun_of (pc_11 w os)) ?_
 refine piece_app (segRun_of (pc_12 w os)) ?_
 refine piece_app (segRun_of (pc_13 w os)) ?_
 refine piece_app (segRun_of (pc_14 w os)) ?_
 refine piece_app (segRun_of (pc_15 w os)) ?_
 refine piece_app (segRun_of (pc_16 w os)) ?_
 refine piece_app (segRun_of (pc_17 w os)) ?_
 refine piece_app (segRun_of (pc_18 w os)) ?_
 refine piece_app (segRun_of (pc_19 w os)) ?_
 refine piece_app (segRun_of (pc_20 w os)) ?_
 exact piece_nil (pc_fin w os)
end
end
section
noncomputable section
abbrev rw0:=PySem.Challenge.rw_pc0065_01
theorem open_eq:opening p=plainProg p.main.scope.names:=by kernel_rfl
theorem fence_eq:∀ s,fenceModules? p s=some s:=fun s=>rfl
noncomputable def HEnd (w:World):Heap:=absHeap (tr (leaf w.params 155 (.str (Str.ofString "law_pc0065_01") 1885) []) 1004 11 1 0) 1004 (boot_heap w.params).life
noncomputable def SEnd (w:World) (os:OsState):Shared:=⟨HEnd w,Array.mk [],boot_drawn,2132,os⟩
theorem send_eq (w:World) (os:OsState):(Send w os).abs=SEnd w os:=rfl
theorem looks (w:World):(staticsOk (importedModules p.main.body) (boot_heap w.params) (HEnd w)&&namesBound p (HEnd w)&&laidKept (boot_heap w.params) (HEnd w))=true:=by kernel_rfl
theorem looks2 (w:World):((HEnd w).accountedOkI (importedModules p.main.body)&&(HEnd w).isNs mainGlobals&&(HEnd w).isNs builtinsNs&&(HEnd w).bmainOk)=true:=by kernel_rfl
theorem looks3 (w:World):(HEnd w).bltView=bltViewBooted:=by kernel_rfl
theorem size0 (w:World):((boot_heap w.params).isNs mainGlobals,(boot_heap w.params).objs.size,(boot_heap w.params).nsMap mainGlobals "__annotations__")=(true,11,ann):=by kernel_rfl
theorem isNs_g (w:World):(HEnd w).isNs mainGlobals=true:=by
 have:=looks2 w
 simp only [Bool.and_eq_true] at this
 exact this.1.1.2
theorem isNs_b (w:World):(HEnd w).isNs builtinsNs=true:=by
 have:=looks2 w
 simp only [Bool.and_eq_true] at this
 exact this.1.2
theorem behind (w:World):(∃ s,AfterRun (opening p) w s)∧∀ s,AfterRun (opening p) w s→∃ s₀,fenceModules? p s=some s₀∧s₀.gens=#[]∧∃ os,TopRan p w s₀ (SEnd w os)∧(SEnd w os).asleep:=by
 have h:=boot_open (p:=p) (N:=600) open_eq (by decide) fence_eq w
 rw [← table_eq_tree] at h
 obtain ⟨s₀,h1,e⟩:=Option.map_eq_some_iff.mp h
 obtain ⟨s,h4,h5⟩:=Option.bind_eq_some_iff.mp h1
 have A:=AfterImport.of_importEnds h4
 refine ⟨⟨s,A⟩,fun s' hs'=>?_⟩
 obtain rfl:s'=s:=AfterImport.unique hs' A
 have z:s₀.asleep:=Shared.asleep_of_life (fence_lifeW h5) A.life
 obtain ⟨hp,gs,d,k,os⟩:=s₀
 simp only [Prod.mk.injEq] at e
 obtain ⟨rfl,rfl,rfl,rfl⟩:=e
 refine ⟨_,h5,rfl,os,?_,?_⟩
 ·obtain ⟨M,hM⟩:=top_run w os
  rw [send_eq,← table_eq_tree] at hM
  obtain ⟨a,l,o',fr⟩:=topRun_spec _ _ _ _ z hM
  have hl:=looks w
  simp only [Bool.and_eq_true] at hl
  obtain ⟨⟨hs,hnb⟩,hlk⟩:=hl
  have hl2:=looks2 w
  simp only [Bool.and_eq_true] at hl2
  obtain ⟨⟨⟨k2,hg⟩,hb⟩,hbm⟩:=hl2
  have s0:=size0 w
  simp only [Prod.mk.injEq] at s0
  obtain ⟨z1,z2,z3⟩:=s0
  refine ⟨a,l,Shared.rest_eq o',fun b o hb' hn=>fr b o (by have:=Heap.lt_size hb'; rw [z2] at this; exact this) (fun q=>hn (.inl q)) (fun q=>hn (.inr (.inl q))) (fun q=>hn (.inr (.inr ((Pin.globalOf_eq z1 _).trans (z3.trans q))))) hb',
   Heap.accountedI_of_ok k2,statics_of_ok hs,Pin.keysAreStrs_of hg,fun x hx=>(Pin.builtinOf_eq hb x).trans (Heap.of_bltView hb (looks3 w) x hx),?_,?_,names_of_bound hnb,laid_of_kept hlk⟩
  ·obtain ⟨bm,ob,a,_,c,d,f,_⟩:=Heap.bmainOk_spec hbm
   exact ⟨bm,ob,(Pin.globalOf_eq hg _).trans a,c,d,f⟩
  ·intro g hg'; exact absurd hg' (by simp [SEnd])
 ·exact Shared.asleep_of_life rfl z
end
end
section
noncomputable def lawFd:FuncData:=fdOf (st 155) "law" .none (.str (Str.ofString "law_pc0065_01") 1885) (.ref 1002)
theorem law_at (w:World):(HEnd w).get? 1003=some { cls:=.type "function",data:=.func lawFd }:=by kernel_rfl
theorem law_name (w:World):(HEnd w).nsMap mainGlobals "law" = some (.ref 1003):=by kernel_rfl
theorem the_law:p.theDef (Str.ofString "law")=some (sArgs (st 155),sBody (st 155),sScope (st 155)):=by kernel_rfl
theorem law_sname:sName (st 155)=Str.ofString "law" := by kernel_rfl
theorem law_nodef:(sArgs (st 155)).defaults=[]:=by kernel_rfl
theorem law_nokw:kwWritten? (sArgs (st 155)).kwonlyargs (sArgs (st 155)).kw_defaults=some []:=by kernel_rfl
theorem law_pinned (w:World):isTheDefsW p (HEnd w) (Str.ofString "law"):=
 ⟨1003,{ cls:=.type "function",data:=.func lawFd },lawFd,sArgs (st 155),sBody (st 155),sScope (st 155),(Pin.globalOf_eq (isNs_g w) _).trans (law_name w),law_at w,rfl,the_law,
  law_sname,rfl,rfl,rfl,rfl,rfl,rfl,rfl,.inl ⟨law_nodef,rfl⟩,[],law_nokw,.inl ⟨rfl,rfl⟩⟩
section
open TablesWhole
theorem tbCut (c:TablesWhole.Ctx) (m s:Scope) (n:Nat):∀ l:List Stmt,wSs holds m c s (l.take n)=true→wSs holds m c s (l.drop n)=true→wSs holds m c s l=true:=by
 induction n with
 | zero=>exact fun l _ h=>h
 | succ n ih=>
  intro l h1 h2
  cases l with
  | nil=>rfl
  | cons x l=>
   have e:(wS holds m c s x&&wSs holds m c s (l.take n))=true:=h1
   have e:=(Bool.and_eq_true _ _).mp e
   exact (Bool.and_eq_true _ _).mpr ⟨e.1,ih l e.2 h2⟩
noncomputable def tbM:Scope:=p.main.scope
noncomputable def tbC:TablesWhole.Ctx:=⟨tbM,[],[],[],none⟩
noncomputable def tbs (i n:Nat):Bool:=wSs holds tbM tbC tbM ((p.main.body.drop i).take n)
theorem tbTold:wSs gather tbM tbC tbM p.main.body=[]:=by kernel_rfl
theorem tbP0:tbs 0 97=true:=by kernel_rfl
theorem tbP1:tbs 97 15=true:=by kernel_rfl
theorem tbP2:tbs 112 15=true:=by kernel_rfl
theorem tbP3:tbs 127 1=true:=by kernel_rfl
theorem tbP4:tbs 128 3=true:=by kernel_rfl
theorem tbP5:tbs 131 11=true:=by kernel_rfl
theorem tbP6:tbs 142 14=true:=by kernel_rfl
theorem tbStep (i n:Nat) (h:tbs i n=true) (k:wSs holds tbM tbC tbM (p.main.body.drop (i+n))=true):wSs holds tbM tbC tbM (p.main.body.drop i)=true:=
 tbCut _ _ _ n _ h (List.drop_drop▸k)
theorem tbSs:wSs holds tbM tbC tbM p.main.body=true:=
 tbStep 0 97 tbP0 <| tbStep 97 15 tbP1 <| tbStep 112 15 tbP2 <| tbStep 127 1 tbP3 <| tbStep 128 3 tbP4 <| tbStep 131 11 tbP5 <| tbStep 142 14 tbP6 (by kernel_rfl)
theorem tbTop:noTwice tbM=true:=by kernel_rfl
theorem tbMod (m:Module) (h:wSs gather m.scope ⟨m.scope,[],[],[],none⟩ m.scope m.body=[]) (h1:noTwice m.scope=true) (h2:wSs holds m.scope ⟨m.scope,[],[],[],none⟩ m.scope m.body=true):wModule holds m=true:=by
 have e:wModule holds m=(true&&(noTwice m.scope&&(wSs holds m.scope ⟨m.scope,[],wSs gather m.scope ⟨m.scope,[],[],[],none⟩ m.scope m.body,[],none⟩ m.scope m.body&&true))):=rfl
 rw [e,h,h1,h2]; rfl
theorem tbPr (q:Program) (a:q.modules=[]) (b:q.parses=[]) (c:q.harvested=[]) (h:wModule holds q.main=true):q.tablesWhole=true:=by
 have e:q.tablesWhole=(wModule holds q.main&&(holds.all (q.modules.map fun (_,_,m)=>wModule holds m)&&(holds.all (q.parses.map (wParse holds))&&(holds.all (q.harvested.map (wParse holds))&&true)))):=rfl
 rw [e,a,b,c,h]; rfl
end
theorem bare_p:p.bare:=⟨by kernel_rfl,by kernel_rfl,by kernel_rfl,by kernel_rfl,by kernel_rfl,tbPr _ rfl rfl rfl (tbMod _ tbTold tbTop tbSs)⟩
theorem no_has {os:OsState} (w:World):∀ c,(rw0.row.toRowW.records.fields? c).isSome=true→(classAt (SEnd w os).heap c).isSome=true:=by
 intro c h
 have e:rw0.row.toRowW.records=[]:=rfl
 rw [e] at h
 exact absurd h (by unfold WRecords.fields?; simp)
theorem lengths {vs:List Value} {ns:List Int} (h:IntsAre vs ns):vs.length=ns.length:=h.length
set_option tactic.hygienic true in
theorem head_holds (said:rw0.wellSaid=true)
  (call:∀ (w:World) (s₁:Shared) (vs:List Value) (ns:List Int),(∀ b o,(HEnd w).get? b=some o→s₁.heap.get? b=some o)→s₁.gens=#[] →
   s₁.heap.IsList 1004 vs.toArray→s₁.heap.objs.size=1005→IntsAre vs ns→vs.length≤63 →
   wpAny (model p w) callerA (PySem.call (.ref 1003) [.ref 1004]) (fun v s'=>v=.bool true∧OldK s₁.heap s'.heap∧s'.os=s₁.os∧s'.gens=#[]) (fun _ _=>False) s₁):rw0.Holds:=by
 refine holds_law said fun k1=>⟨k1,?hw,?_⟩
 case hw=>w_witness2
 refine ⟨⟨?b,by kernel_rfl,rfl⟩,?wit,fun w=>⟨(behind w).1,fun s' hs'=>?_⟩⟩
 case b=>exact bare_p
 case wit=>exact ⟨[.list []],by decide+kernel,by decide+kernel⟩
 obtain ⟨s₀,hf,hg0,os,hT,hz⟩:=(behind w).2 s' hs'
 refine ⟨s₀,hf,hg0,SEnd w os,hT,?_,fun x hx=>(nomatch hx),fun x hx=>(nomatch hx),?_⟩
 ·intro n hn
  obtain rfl:n=Str.ofString "law" := by
   have:n∈[Str.ofString "law"]:=hn
   simpa using this
  exact law_pinned w
 ·refine ClaimW.callFrom_of_specG (c:=rw0.row.toRowW.claim) (tree:=fun vs=>do match ← nsGet mainNs rw0.row.name with
   | some f=>do ret (← PySem.call f vs)
   | none=>unsupported "claim.caller:no-such-global") hz rfl fun args hpre hlay ord hord=>?_
  obtain ⟨⟨vs,s₁⟩,hlaid⟩:=Option.isSome_iff_exists.mp (layAllW_isSome (P:=w.params) (ord:=ord) (R:=rw0.row.toRowW.records) (cl:=classAt (SEnd w os).heap) (no_has w) args rw0.row.toRowW.args (SEnd w os) (pre_splitW hpre).1)
  have keeps:=layAllW_keeps _ _ _ hlaid
  have hal:=layAllW_rest _ _ _ hlaid
  obtain ⟨as,hrd,hin,hold⟩:=reads_layAllW hord _ _ _ hlaid hlay s₁.heap (fun _ _ e=>e)
  have L:Laid rw0.row.toRowW.records w (SEnd w os) s₁ args vs as:=⟨⟨ord,hord,hlaid⟩,hrd,hin,hold,keeps,hal.1,hal.2.2.1⟩
  refine ⟨vs,s₁,hlaid,?_⟩
  have hwl:=L.well
  have hlo:=L.low (by show 1 < 1004; decide)
  have hlay0:=hlay
  wrow_args hpre hlay hrd hwl hlo
  rename_i ns _ _ _ _ _ _ _ a vs _ hL _ _ _ hI _ hlen _
  obtain ⟨ha,hsz⟩:=X.script_at L
  obtain rfl:a=1004:=ha
  have hn:vs.length≤63:=by rw [hI.length]; omega
  have hc:=call w s₁ vs ns keeps hal.1 hL hsz hI hn
  have hNs:s₁.heap.Ns mainGlobals ((HEnd w).nsMap mainGlobals):=(Heap.Ns.of_isNs (isNs_g w)).keeps keeps
  refine wpAny_bind (wpAny_nsGet hNs ?_)
  rw [show (HEnd w).nsMap mainGlobals rw0.row.name=some (.ref 1003) from law_name w]
  refine wpAny_bind (wpAny_mono hc (fun v s'' hq=>?_) fun _ _ x=>x.elim)
  obtain ⟨rfl,hk,hos,hgn⟩:=hq
  refine wpAny_pure ⟨_,rfl,?_⟩
  have hfr:frees rw0.row.toRowW=true:=by rfl
  obtain ⟨hsame,hu,ha,hap,hm⟩:=frees_parts hfr
  have g:GoodWG rw0.row.toRowW.claim (classAt (SEnd w os).heap) (ExcName.means (SEnd w os).heap) [ofPy (PyData.list (List.map PyData.int ns))] s₁ (.ok (.ret (.bool true))) s'':=
   ⟨.inl ⟨_,_,_,rfl,fun _=>rfl,.bool true,by wrow_post,fun _=>⟨.nil,fun _ h=>nomatch h⟩⟩,hk,hos,.of_eq hgn⟩
  have zz:=g.laid (c:=rw0.row.toRowW.claim) hsame rfl (ident_freeW hu ha hap) L
  exact ⟨zz.1,zz.2.1,zz.2.2,fun q=>nomatch q⟩
end
end Hd
namespace Mine
section
set_option genCtorIdx true in
inductive NV where
 | none
 | bool (b:Bool)
 | int (i:Int)
 | str (n:Nat)
 | tup (l:List NV)
 | fl (l:List NV)
 | fi (c:Nat) (ks:List Nat) (l:List NV)
 | fd (ks:List Nat) (l:List NV)
 | lst (n:Nat)
 | ins (n:Nat)
 | dct (n:Nat)
 | dl (a:Nat)
 | di (a:Nat)
 | fn (f:Nat)
 | cls (c:Nat)
 | gl (g:Nat)
 | lam (k:Nat)
 | bnd (n f:Nat)
set_option genCtorIdx true in
inductive Ob where
 | L (l:List NV)
 | I (c:Nat) (ks:List Nat) (l:List NV)
 | D (ks:List Nat) (l:List NV)
 | E (l:List (Int × NV))
structure NH where
 reg:List Ob
 dyn:Nat→Option Ob
set_option genCtorIdx true in
inductive Pol where | f | r | d
set_option genCtorIdx true in
inductive BOp where | add | sub | mul | div | mod
set_option genCtorIdx true in
inductive COp where | eq | ne | lt | le | gt | ge | is | isn | inn | nin
inductive Bi where
 | len | abs | str | int | list (p:Pol) | any | isstr
set_option genCtorIdx true in
inductive IK where | over | enum | range1 | range3
inductive Pt where
 | loc (i:Nat)
 | nil
 | cons (p r:Pt)
inductive E where
 | li (v:NV)
 | gb (x:Nat) (v:NV)
 | lo (i:Nat)
 | ar (e:E) (f:Nat)
 | bm (e:E) (m:Nat)
 | sb (e i:E)
 | tk (e k:E)
 | dp (e k:E)
 | rv (e:E)
 | ca (f as:E)
 | nw (f as:E)
 | mt (o:E) (m:Nat) (as:E)
 | bu (b:Bi) (as:E)
 | bn (o:BOp) (a b:E)
 | ng (e:E)
 | bo (k m:Bool) (a b:E)
 | cp (o:COp) (a b:E)
 | ch (a:E) (o1:COp) (b:E) (o2:COp) (c:E)
 | ie (t a b:E)
 | ls (p:Pol) (as:E)
 | tp (as:E)
 | dc (p:Pol) (ks:List Nat) (as:E)
 | cm (q:Pol) (k:Nat) (p:Pt) (g:IK) (it cs elt:E)
 | c2 (k:Nat) (p:Pt) (g:IK) (it:E) (p2:Pt) (it2 elt:E)
 | lm (k:Nat)
 | fz (f:Nat) (e:E)
 | e0
 | ec (e r:E)
inductive Tg where
 | loc (i:Nat)
 | attr (i f:Nat)
inductive S where
 | sk
 | sq (a b:S)
 | st (i:Nat) (e:E)
 | sa (o:E) (f:Nat) (e:E)
 | si (o i e:E)
 | up (ts:List Tg) (e:E)
 | sw (is:List Nat) (e:E)
 | au (o:E) (f:Nat) (e:E)
 | ex (e:E)
 | ie (t:E) (a b:S)
 | wh (t:E) (b:S)
 | fo (p:Pt) (g:IK) (it:E) (b:S)
 | re (e:E)
 | co
 | fa
structure FD where
 na:Nat
 dfl:List NV
 n:Nat
 body:S
inductive GL where
 | seq (b:Bool) (l:List NV)
 | dict (ks:List Nat) (l:List NV)
structure Tx where
 fd:Nat→Option FD
 glv:Nat→Option GL
 mth:Nat→Nat→Option Nat
 scr:Nat→Option (List NV)
noncomputable abbrev Fr:=List (Option NV)
noncomputable abbrev Po:=NV→NH→Prop
noncomputable abbrev Cal:=Nat→List NV→Po→NH→Prop
noncomputable def cap:Nat:=1048576
noncomputable def opK {α:Type} (K:α→Prop):Option α→Prop
 | some x=>K x
 | none=>False
noncomputable def bK (P:Prop):Bool→Prop
 | true=>P
 | false=>False
noncomputable def onT (K:List NV→Prop):NV→Prop
 | .tup l=>K l
 | _=>False
noncomputable def onI (K:Int→Prop):NV→Prop
 | .int i=>K i
 | _=>False
noncomputable def onN (K:Prop):NV→Prop
 | .none=>K
 | _=>False
noncomputable def isN:NV→Bool
 | .none=>true
 | _=>false
noncomputable def ifT (a b:Prop):NV→Prop
 | .bool true=>a
 | .bool false=>b
 | .none=>b
 | _=>False
noncomputable def regK:List Ob→Nat→(Ob→Prop)→Prop
 | [],_,_=>False
 | o :: _,0,K=>K o
 | _ :: r,n+1,K=>regK r n K
noncomputable def NH.put (σ:NH) (n:Nat) (o:Ob):NH:=⟨σ.reg.set n o,σ.dyn⟩
noncomputable def NH.push (σ:NH) (o:Ob):NH:=⟨σ.reg++[o],σ.dyn⟩
noncomputable def NH.next (σ:NH):Nat:=σ.reg.length
noncomputable def dset (f:Nat→Option Ob) (a:Nat) (x:Option Ob):Nat→Option Ob:=fun b=>if b=a then x else f b
noncomputable def NH.dput (σ:NH) (a:Nat) (x:Option Ob):NH:=⟨σ.reg,dset σ.dyn a x⟩
noncomputable def obL (K:List NV→Prop):Ob→Prop
 | .L l=>K l
 | _=>False
noncomputable def obI (K:Nat→List Nat→List NV→Prop):Ob→Prop
 | .I c ks l=>K c ks l
 | _=>False
noncomputable def getL (σ:NH) (K:List NV→Prop):NV→Prop
 | .fl l=>K l
 | .lst n=>regK σ.reg n (obL K)
 | .dl a=>opK (obL K) (σ.dyn a)
 | _=>False
noncomputable def setL (σ:NH) (l:List NV) (K:NH→Prop):NV→Prop
 | .lst n=>K (σ.put n (.L l))
 | .dl a=>K (σ.dput a (some (.L l)))
 | _=>False
noncomputable def getI (σ:NH) (K:Nat→List Nat→List NV→Prop):NV→Prop
 | .fi c ks l=>K c ks l
 | .ins n=>regK σ.reg n (obI K)
 | .di a=>opK (obI K) (σ.dyn a)
 | _=>False
noncomputable def setI (σ:NH) (c:Nat) (ks:List Nat) (l:List NV) (K:NH→Prop):NV→Prop
 | .ins n=>K (σ.put n (.I c ks l))
 | .di a=>K (σ.dput a (some (.I c ks l)))
 | _=>False
noncomputable def alloc (p:Pol) (l:List NV) (Q:Po) (σ:NH):Prop:=match p with
 | .f=>Q (.fl l) σ
 | .r=>Q (.lst σ.next) (σ.push (.L l))
 | .d=>∀ a,σ.dyn a=none→Q (.dl a) (σ.dput a (some (.L l)))
noncomputable def fldK (Y:NV→Prop) (N:Prop) (f:Nat):List Nat→List NV→Prop
 | k :: ks,v :: l=>match Nat.beq k f with
  | true=>Y v
  | false=>fldK Y N f ks l
 | [],[]=>N
 | _,_=>False
noncomputable def fput (f:Nat) (v:NV) (K:List Nat→List NV→Prop):List Nat→List NV→Prop
 | k :: ks,u :: l=>match Nat.beq k f with
  | true=>K (k :: ks) (v :: l)
  | false=>fput f v (fun ks' l'=>K (k :: ks') (u :: l')) ks l
 | [],[]=>K [f] [v]
 | _,_=>False
noncomputable def fOk (c f:Nat):Bool:=match Nat.ble f 35 with
 | true=>(match Nat.beq f 34 with
  | true=>(match Nat.beq c 834 with
   | true=>false
   | false=>true)
  | false=>(match Nat.beq f 35 with
   | true=>(match Nat.beq c 307 with
    | true=>false
    | false=>true)
   | false=>true))
 | false=>false
inductive PD where
 | none
 | int (i:Int)
 | str (n:Nat)
 | tup (l:List PD)
 | fl (l:List PD)
noncomputable def optC {α:Type}:Option α→Option (List α)→Option (List α)
 | some a,some l=>some (a :: l)
 | _,_=>none
noncomputable def pds (f:NV→Option PD):List NV→Option (List PD)
 | []=>some []
 | v :: l=>optC (f v) (pds f l)
noncomputable def pd (σ:NH):Nat→NV→Option PD
 | _,.none=>some .none
 | _,.int i=>some (.int i)
 | _,.str s=>some (.str s)
 | n+1,.tup l=>(pds (pd σ n) l).map .tup
 | n+1,.fl l=>(pds (pd σ n) l).map .fl
 | n+1,.lst a=>match σ.reg[a]? with
  | some (.L l)=>(pds (pd σ n) l).map .fl
  | _=>none
 | n+1,.dl a=>match σ.dyn a with
  | some (.L l)=>(pds (pd σ n) l).map .fl
  | _=>none
 | _,_=>none
mutual
noncomputable def PD.beq:PD→PD→Bool
 | .none,.none=>true
 | .int i,.int j=>decide (i=j)
 | .str i,.str j=>Nat.beq i j
 | .tup l,.tup r=>PD.beqs l r
 | .fl l,.fl r=>PD.beqs l r
 | _,_=>false
noncomputable def PD.beqs:List PD→List PD→Bool
 | [],[]=>true
 | a :: l,b :: r=>match PD.beq a b with
  | true=>PD.beqs l r
  | false=>false
 | _,_=>false
end
noncomputable def PD.mem (d:PD):List PD→Bool
 | []=>false
 | e :: l=>match PD.beq d e with
  | true=>true
  | false=>PD.mem d l
noncomputable def eqK (σ:NH) (v u:NV) (K:Bool→Prop):Prop:=match v,u with
 | .bool a,.bool b=>K (a==b)
 | v,u=>opK (fun d=>opK (fun e=>K (PD.beq d e)) (pd σ 4 u)) (pd σ 4 v)
noncomputable def seqK (T:Tx) (σ:NH) (K:List NV→Prop):NV→Prop
 | .tup l=>K l
 | .gl g=>opK (fun o=>match o with
  | .seq _ l=>K l
  | _=>False) (T.glv g)
 | v=>getL σ K v
noncomputable def inK (T:Tx) (σ:NH) (v u:NV) (K:Bool→Prop):Prop:=seqK T σ (fun l=>opK (fun d=>opK (fun ds=>K (PD.mem d ds)) (pds (pd σ 4) l)) (pd σ 4 v)) u
noncomputable def wCmp (T:Tx) (o:COp) (v u:NV) (Q:Po) (σ:NH):Prop:=match o with
 | .eq=>eqK σ v u fun b=>Q (.bool b) σ
 | .ne=>eqK σ v u fun b=>Q (.bool (!b)) σ
 | .lt=>onI (fun i=>onI (fun j=>Q (.bool (decide (i < j))) σ) u) v
 | .le=>onI (fun i=>onI (fun j=>Q (.bool (decide (i≤j))) σ) u) v
 | .gt=>onI (fun i=>onI (fun j=>Q (.bool (decide (j < i))) σ) u) v
 | .ge=>onI (fun i=>onI (fun j=>Q (.bool (decide (j≤i))) σ) u) v
 | .is=>onN (Q (.bool (isN v)) σ) u
 | .isn=>onN (Q (.bool (!isN v)) σ) u
 | .inn=>inK T σ v u fun b=>Q (.bool b) σ
 | .nin=>inK T σ v u fun b=>Q (.bool (!b)) σ
noncomputable def cat (a b:Nat):Option Nat:=match Nat.ble b 2 with
 | true=>(match a with
  | 3=>some (b+7)
  | 4=>some (b+10)
  | 5=>some (b+13)
  | 6=>some (b+16)
  | _=>none)
 | false=>none
noncomputable def addK (Q:Po) (σ:NH):NV→NV→Prop
 | .int i,.int j=>Q (.int (i+j)) σ
 | .str a,.str b=>opK (fun n=>Q (.str n) σ) (cat a b)
 | .fl l,u=>getL σ (fun r=>l.length+r.length≤cap∧Q (.fl (l++r)) σ) u
 | _,_=>False
noncomputable def wBin (o:BOp) (v u:NV) (Q:Po) (σ:NH):Prop:=match o with
 | .add=>addK Q σ v u
 | .sub=>onI (fun i=>onI (fun j=>Q (.int (i - j)) σ) u) v
 | .mul=>onI (fun i=>onI (fun j=>i.natAbs < 2 ^ 40∧j.natAbs < 2 ^ 20∧Q (.int (i * j)) σ) u) v
 | .div=>onI (fun i=>onI (fun j=>0 < j∧j < 1000000∧Q (.int (i / j)) σ) u) v
 | .mod=>onI (fun i=>onI (fun j=>0 < j∧Q (.int (i % j)) σ) u) v
noncomputable def isB:List NV→Option Bool
 | []=>some false
 | .bool true :: l=>(isB l).map fun _=>true
 | .bool false :: l=>isB l
 | _=>none
noncomputable def biV (b:Bi) (v:NV) (Q:Po) (σ:NH):Prop:=match b with
 | .len=>getL σ (fun l=>Q (.int l.length) σ) v
 | .abs=>onI (fun i=>Q (.int i.natAbs) σ) v
 | .str=>onI (fun i=>match i with
  | .ofNat n=>Nat.ble n 2=true∧Q (.str n) σ
  | _=>False) v
 | .int=>match v with
  | .str n=>Nat.ble n 2=true∧Q (.int n) σ
  | _=>False
 | .list p=>getL σ (fun l=>alloc p l Q σ) v
 | .any=>getL σ (fun l=>opK (fun b=>Q (.bool b) σ) (isB l)) v
 | .isstr=>match v with
  | .str _=>Q (.bool true) σ
  | .int _=>Q (.bool false) σ
  | _=>False
noncomputable def wBi (b:Bi) (vs:List NV) (Q:Po) (σ:NH):Prop:=match vs with
 | [v]=>biV b v Q σ
 | _=>False
noncomputable def lastK (K:NV→List NV→Prop):List NV→Prop
 | []=>False
 | [x]=>K x []
 | x :: y :: l=>lastK (fun z r=>K z (x :: r)) (y :: l)
noncomputable def headK (K:NV→List NV→Prop):List NV→Prop
 | []=>False
 | x :: l=>K x l
noncomputable def wLm (m:Nat) (a:NV) (vs:List NV) (Q:Po) (σ:NH):Prop:=match m,vs with
 | 83,[v]=>getL σ (fun xs=>xs.length < cap∧setL σ (xs++[v]) (fun σ=>Q .none σ) a) a
 | 84,[]=>getL σ (lastK fun x xs=>setL σ xs (fun σ=>Q x σ) a) a
 | 84,[v]=>onI (fun i=>i=0∧getL σ (headK fun x xs=>setL σ xs (fun σ=>Q x σ) a) a) v
 | 85,[b]=>getL σ (fun xs=>getL σ (fun ys=>xs.length+ys.length≤cap∧setL σ (xs++ys) (fun σ=>Q .none σ) a) (match b with
  | .fl l=>.fl l
  | _=>.none)) a
 | _,_=>False
noncomputable def isLm (n:Nat):Bool:=match Nat.ble 83 n with
 | true=>(match Nat.ble n 85 with
  | true=>true
  | false=>false)
 | false=>false
noncomputable def nthK (K:NV→Prop):List NV→Nat→Prop
 | [],_=>False
 | x :: _,0=>K x
 | _ :: l,n+1=>nthK K l n
noncomputable def idxK (K:NV→Prop) (l:List NV):Int→Prop
 | .ofNat n=>nthK K l n
 | .negSucc n=>(match Nat.ble (n+1) l.length with
  | true=>nthK K l (l.length - (n+1))
  | false=>False)
noncomputable def dctK (K:List Nat→List NV→Prop):Ob→Prop
 | .D ks l=>K ks l
 | _=>False
noncomputable def dciK (K:List (Int × NV)→Prop):Ob→Prop
 | .E l=>K l
 | _=>False
noncomputable def look (k:Int):List (Int × NV)→Option NV
 | []=>none
 | (k',v) :: r=>match decide (k'=k) with
  | true=>some v
  | false=>look k r
noncomputable def put (k:Int) (v:NV):List (Int × NV)→List (Int × NV)
 | []=>[(k,v)]
 | (k',v') :: r=>match decide (k'=k) with
  | true=>(k',v) :: r
  | false=>(k',v') :: put k v r
noncomputable def wItem (T:Tx) (v k:NV) (Q:Po) (σ:NH):Prop:=match k with
 | .int i=>(match v with
  | .tup l=>bK (idxK (fun x=>Q x σ) l i) (Nat.ble i.natAbs cap)
  | .gl g=>opK (fun o=>match o,i with
   | .seq _ l,.ofNat n=>bK (nthK (fun x=>Q x σ) l n) (Nat.ble n cap)
   | _,_=>False) (T.glv g)
  | .dct n=>regK σ.reg n (dciK fun l=>opK (fun x=>Q x σ) (look i l))
  | v=>getL σ (fun l=>idxK (fun x=>Q x σ) l i) v)
 | .str s=>(match v with
  | .fd ks l=>fldK (fun x=>Q x σ) False s ks l
  | .dct n=>regK σ.reg n (dctK fun ks l=>fldK (fun x=>Q x σ) False s ks l)
  | .gl g=>opK (fun o=>match o with
   | .dict ks l=>fldK (fun x=>Q x σ) False s ks l
   | _=>False) (T.glv g)
  | _=>False)
 | _=>False
noncomputable def getv:Fr→Nat→(NV→Prop)→Prop
 | [],_,_=>False
 | a :: _,0,K=>opK K a
 | _ :: l,n+1,K=>getv l n K
noncomputable def setv:Fr→Nat→NV→(Fr→Prop)→Prop
 | [],_,_,_=>False
 | _ :: l,0,v,K=>K (some v :: l)
 | a :: l,n+1,v,K=>setv l n v fun l'=>K (a :: l')
noncomputable def bindP:Pt→NV→Fr→(Fr→Prop)→Prop
 | .loc i,v,fr,K=>setv fr i v K
 | .nil,v,fr,K=>onT (fun l=>match l with
  | []=>K fr
  | _=>False) v
 | .cons p r,v,fr,K=>onT (fun l=>match l with
  | x :: l=>bindP p x fr fun fr=>bindP r (.tup l) fr K
  | _=>False) v
noncomputable def stat (c:Nat):Bool:=match Nat.beq c 834 with
 | true=>true
 | false=>(match Nat.beq c 413 with
  | true=>true
  | false=>Nat.beq c 307)
noncomputable def newK (T:Tx) (C:Cal) (c:Nat) (vs:List NV) (Q:Po) (σ:NH):Prop:=opK (fun i=>match stat c with
 | true=>C i (.ins σ.next :: vs) (fun r σ'=>onN (Q (.ins σ.next) σ') r) (σ.push (.I c [] []))
 | false=>∀ a,σ.dyn a=none→C i (.di a :: vs) (fun r σ'=>onN (Q (.di a) σ') r) (σ.dput a (some (.I c [] [])))) (T.mth c 90)
noncomputable def apK (T:Tx) (C:Cal) (v:NV) (vs:List NV) (Q:Po) (σ:NH):Prop:=match v with
 | .fn i=>C i vs Q σ
 | .lam k=>C (2000+k) vs Q σ
 | .bnd n i=>C i (.ins n :: vs) Q σ
 | .cls c=>newK T C c vs Q σ
 | _=>False
noncomputable def diK (K:Nat→Prop):NV→Prop
 | .di b=>K b
 | _=>False
noncomputable def frz (f:Nat) (v:NV) (Q:Po) (σ:NH):Prop:=match v with
 | .dl a=>opK (obL fun l=>Q (.fl l) (σ.dput a none)) (σ.dyn a)
 | .di a=>(match Nat.beq f 90 with
  | true=>opK (obI fun c ks l=>Q (.fi c ks l) (σ.dput a none)) (σ.dyn a)
  | false=>opK (obI fun c ks l=>fldK (diK fun b=>opK (obI fun c2 ks2 l2=>fput f (.fi c2 ks2 l2) (fun ks l=>Q (.fi c ks l) ((σ.dput a none).dput b none)) ks l) (σ.dyn b)) False f ks l) (σ.dyn a))
 | _=>False
noncomputable def methK (T:Tx) (C:Cal) (W:(List NV→NH→Prop)→NH→Prop) (m:Nat) (Q:Po) (σ:NH) (v:NV):Prop:=match isLm m with
 | true=>getL σ (fun _=>W (fun vs σ=>wLm m v vs Q σ) σ) v
 | false=>getI σ (fun c ks l=>fldK (fun u=>bK (W (fun vs σ=>apK T C u vs Q σ) σ) (fOk c m)) (opK (fun i=>W (fun vs σ=>C i (v :: vs) Q σ) σ) (T.mth c m)) m ks l) v
noncomputable def argK (K:List NV→Prop):NV→Prop:=onT K
noncomputable def consK (v:NV) (K:NV→Prop):NV→Prop:=onT fun l=>K (.tup (v :: l))
noncomputable def ups (i:Nat):Nat→List NV
 | 0=>[]
 | n+1=>.int i :: ups (i+1) n
noncomputable def down (a:Int):Nat→List NV
 | 0=>[]
 | n+1=>.int a :: down (a - 1) n
noncomputable def zipI (n:Nat):List NV→List NV
 | []=>[]
 | x :: r=>.tup [.int n,x] :: zipI (n+1) r
noncomputable def live (v:NV) (l:List NV) (σ:NH):Prop:=getL σ (fun r=>r=l) v
noncomputable def wIt (T:Tx) (g:IK) (vs:List NV) (K:List NV→(NH→Prop)→NH→Prop) (σ:NH):Prop:=match g,vs with
 | .over,[.tup l]=>K l (fun _=>True) σ
 | .over,[.gl a]=>opK (fun o=>match o with
  | .seq true l=>K l (fun _=>True) σ
  | _=>False) ((T.scr a).map (GL.seq true))
 | .over,[v]=>getL σ (fun l=>K l (live v l) σ) v
 | .enum,[v]=>getL σ (fun l=>K (zipI 0 l) (live v l) σ) v
 | .range1,[.int n]=>n≤cap∧-cap≤n∧K (ups 0 n.toNat) (fun _=>True) σ
 | .range3,[.int n,.int m,.int s]=>s=-1∧n.natAbs≤cap∧m.natAbs≤cap∧K (down n (n - m).toNat) (fun _=>True) σ
 | _,_=>False
noncomputable def sliceK (T:Tx) (σ:NH) (K:List NV→Prop):NV→Prop
 | .gl a=>opK K (T.scr a)
 | v=>getL σ K v
noncomputable def natK (K:Nat→Prop):NV→Prop:=onI fun i=>match i with
 | .ofNat n=>n≤cap∧K n
 | _=>False
noncomputable def dictK (p:Pol) (ks:List Nat) (vs:List NV) (Q:Po) (σ:NH):Prop:=match p with
 | .f=>Q (.fd ks vs) σ
 | .r=>Q (.dct σ.next) (σ.push (match ks with
  | []=>.E []
  | ks=>.D ks vs))
 | .d=>False
noncomputable def cndK (K:Bool→Prop):NV→Prop
 | .tup []=>K true
 | .bool b=>K b
 | .none=>K false
 | _=>False
noncomputable def loopC (p:Pt) (chk:NH→Prop) (cs:Fr→(Bool→NH→Prop)→NH→Prop) (elt:Fr→Po→NH→Prop) (K:Fr→List NV→NH→Prop):List NV→Fr→List NV→NH→Prop
 | [],fr,acc,σ=>chk σ∧K fr acc σ
 | x :: xs,fr,acc,σ=>chk σ∧bindP p x fr fun fr=>cs fr (fun b σ=>match b with
   | true=>elt fr (fun v σ=>acc.length < cap∧loopC p chk cs elt K xs fr (acc++[v]) σ) σ
   | false=>loopC p chk cs elt K xs fr acc σ) σ
noncomputable def loopC2 (T:Tx) (p p2:Pt) (chk:NH→Prop) (it2 elt:Fr→Po→NH→Prop) (K:List NV→NH→Prop):List NV→Fr→List NV→NH→Prop
 | [],fr,acc,σ=>chk σ∧K acc σ
 | x :: xs,fr,acc,σ=>chk σ∧bindP p x fr fun fr=>it2 fr (fun v σ=>wIt T .over [v] (fun ys chk2 σ=>loopC p2 chk2 (fun _ K σ=>K true σ) elt (fun fr acc σ=>loopC2 T p p2 chk it2 elt K xs fr acc σ) ys fr acc σ) σ) σ
noncomputable def wE (T:Tx) (C:Cal):E→Fr→Po→NH→Prop
 | .li v,fr,Q,σ=>Q v σ
 | .gb _ v,fr,Q,σ=>Q v σ
 | .lo i,fr,Q,σ=>getv fr i fun v=>Q v σ
 | .ar e f,fr,Q,σ=>wE T C e fr (fun v σ=>getI σ (fun c ks l=>bK (fldK (fun u=>Q u σ) False f ks l) (fOk c f)) v) σ
 | .bm e m,fr,Q,σ=>wE T C e fr (fun v σ=>match v with
   | .ins n=>getI σ (fun c ks l=>fldK (fun _=>False) (opK (fun i=>Q (.bnd n i) σ) (T.mth c m)) m ks l) v
   | _=>False) σ
 | .sb e i,fr,Q,σ=>wE T C e fr (fun v σ=>wE T C i fr (fun k σ=>wItem T v k Q σ) σ) σ
 | .tk e k,fr,Q,σ=>wE T C e fr (fun v σ=>wE T C k fr (fun k σ=>natK (fun n=>sliceK T σ (fun l=>Q (.fl (l.take n)) σ) v) k) σ) σ
 | .dp e k,fr,Q,σ=>wE T C e fr (fun v σ=>wE T C k fr (fun k σ=>natK (fun n=>getL σ (fun l=>Q (.fl (l.drop n)) σ) v) k) σ) σ
 | .rv e,fr,Q,σ=>wE T C e fr (fun v σ=>getL σ (fun l=>Q (.fl l.reverse) σ) v) σ
 | .ca f as,fr,Q,σ=>wE T C f fr (fun v σ=>wE T C as fr (fun t σ=>argK (fun vs=>apK T C v vs Q σ) t) σ) σ
 | .nw f as,fr,Q,σ=>wE T C f fr (fun v σ=>wE T C as fr (fun t σ=>argK (fun vs=>match v with
   | .cls c=>newK T C c vs (fun v σ=>frz 90 v Q σ) σ
   | _=>False) t) σ) σ
 | .mt o m as,fr,Q,σ=>wE T C o fr (fun v σ=>methK T C (fun K σ=>wE T C as fr (fun t σ=>argK (fun vs=>K vs σ) t) σ) m Q σ v) σ
 | .bu b as,fr,Q,σ=>wE T C as fr (fun t σ=>argK (fun vs=>wBi b vs Q σ) t) σ
 | .bn o a b,fr,Q,σ=>wE T C a fr (fun v σ=>wE T C b fr (fun u σ=>wBin o v u Q σ) σ) σ
 | .ng e,fr,Q,σ=>wE T C e fr (fun v σ=>ifT (Q (.bool false) σ) (Q (.bool true) σ) v) σ
 | .bo k _ a b,fr,Q,σ=>wE T C a fr (fun v σ=>match k with
   | true=>ifT (wE T C b fr Q σ) (Q v σ) v
   | false=>ifT (Q v σ) (wE T C b fr Q σ) v) σ
 | .cp o a b,fr,Q,σ=>wE T C a fr (fun v σ=>wE T C b fr (fun u σ=>wCmp T o v u Q σ) σ) σ
 | .ch a o1 b o2 c,fr,Q,σ=>wE T C a fr (fun v σ=>wE T C b fr (fun u σ=>wCmp T o1 v u (fun r σ=>ifT (wE T C c fr (fun x σ=>wCmp T o2 u x Q σ) σ) (Q r σ) r) σ) σ) σ
 | .ie t a b,fr,Q,σ=>wE T C t fr (fun v σ=>ifT (wE T C a fr Q σ) (wE T C b fr Q σ) v) σ
 | .ls p as,fr,Q,σ=>wE T C as fr (fun t σ=>argK (fun vs=>alloc p vs Q σ) t) σ
 | .tp as,fr,Q,σ=>wE T C as fr Q σ
 | .dc p ks as,fr,Q,σ=>wE T C as fr (fun t σ=>argK (fun vs=>dictK p ks vs Q σ) t) σ
 | .lm k,fr,Q,σ=>Q (.lam k) σ
 | .cm q k p g it cs elt,fr,Q,σ=>wE T C it fr (fun t σ=>argK (fun vs=>wIt T g vs (fun xs chk σ=>loopC p chk (fun fr K σ=>wE T C cs fr (fun v σ=>cndK (fun b=>K b σ) v) σ) (fun fr Q σ=>wE T C elt fr Q σ) (fun _ acc σ=>alloc q acc Q σ) xs (fr++List.replicate k none) [] σ) σ) t) σ
 | .c2 k p g it p2 it2 elt,fr,Q,σ=>wE T C it fr (fun t σ=>argK (fun vs=>wIt T g vs (fun xs chk σ=>loopC2 T p p2 chk (fun fr Q σ=>wE T C it2 fr Q σ) (fun fr Q σ=>wE T C elt fr Q σ) (fun acc σ=>Q (.fl acc) σ) xs (fr++List.replicate k none) [] σ) σ) t) σ
 | .fz f e,fr,Q,σ=>wE T C e fr (fun v σ=>frz f v Q σ) σ
 | .e0,fr,Q,σ=>Q (.tup []) σ
 | .ec e r,fr,Q,σ=>wE T C e fr (fun v σ=>wE T C r fr (fun t σ=>consK v (fun z=>Q z σ) t) σ) σ
set_option genCtorIdx true in
inductive Fl where
 | nxt
 | cont
 | ret (v:NV)
noncomputable abbrev PoS:=Fl→Fr→NH→Prop
noncomputable def seqP (W:Fr→PoS→NH→Prop) (Q:PoS):PoS:=fun fl fr σ=>match fl with
 | .nxt=>W fr Q σ
 | fl=>Q fl fr σ
noncomputable def forW (p:Pt) (chk:NH→Prop) (body:Fr→PoS→NH→Prop) (Q:PoS):List NV→Fr→NH→Prop
 | [],fr,σ=>chk σ∧Q .nxt fr σ
 | x :: xs,fr,σ=>chk σ∧bindP p x fr fun fr=>body fr (fun fl fr σ=>match fl with
   | .ret v=>Q (.ret v) fr σ
   | _=>forW p chk body Q xs fr σ) σ
noncomputable def whlW (test:Fr→Po→NH→Prop) (body:Fr→PoS→NH→Prop) (Q:PoS):Nat→Fr→NH→Prop
 | 0,_,_=>False
 | n+1,fr,σ=>test fr (fun v σ=>ifT (body fr (fun fl fr σ=>match fl with
   | .ret v=>Q (.ret v) fr σ
   | _=>whlW test body Q n fr σ) σ) (Q .nxt fr σ) v) σ
noncomputable def setA (σ:NH) (f:Nat) (v:NV) (K:NH→Prop) (o:NV):Prop:=getI σ (fun c ks l=>bK (fput f v (fun ks l=>setI σ c ks l K o) ks l) (fOk c f)) o
noncomputable def setIt (σ:NH) (v:NV) (K:NH→Prop) (o k:NV):Prop:=match k with
 | .int i=>(match o with
  | .dct n=>regK σ.reg n (dciK fun l=>l.length < cap∧K (σ.put n (.E (put i v l))))
  | o=>(match i with
   | .ofNat i=>getL σ (fun l=>i < l.length∧setL σ (l.set i v) K o) o
   | .negSucc _=>False))
 | .str s=>(match o with
  | .dct n=>regK σ.reg n (dctK fun ks l=>fldK (fun _=>fput s v (fun ks l=>K (σ.put n (.D ks l))) ks l) False s ks l)
  | _=>False)
 | _=>False
noncomputable def wTgs (ts:List Tg) (vs:List NV) (fr:Fr) (K:Fr→NH→Prop) (σ:NH):Prop:=match ts,vs with
 | [],[]=>K fr σ
 | .loc i :: ts,v :: vs=>setv fr i v fun fr=>wTgs ts vs fr K σ
 | .attr i f :: ts,v :: vs=>getv fr i (setA σ f v fun σ=>wTgs ts vs fr K σ)
 | _,_=>False
noncomputable def unpV (W:List NV→Prop) (n:Nat) (σ:NH) (v:NV):Prop:=match v with
 | .tup vs=>bK (W vs) (Nat.beq n vs.length)
 | v=>getL σ (fun vs=>bK (W vs) (Nat.beq n vs.length)) v
noncomputable def setAll:List Nat→List NV→Fr→(Fr→Prop)→Prop
 | [],[],fr,K=>K fr
 | i :: is,v :: vs,fr,K=>setv fr i v fun fr=>setAll is vs fr K
 | _,_,_,_=>False
noncomputable def wS (T:Tx) (C:Cal):S→Fr→PoS→NH→Prop
 | .sk,fr,Q,σ=>Q .nxt fr σ
 | .sq a b,fr,Q,σ=>wS T C a fr (seqP (fun fr Q σ=>wS T C b fr Q σ) Q) σ
 | .st i e,fr,Q,σ=>wE T C e fr (fun v σ=>setv fr i v fun fr=>Q .nxt fr σ) σ
 | .sa o f e,fr,Q,σ=>wE T C e fr (fun v σ=>wE T C o fr (fun ov σ=>setA σ f v (fun σ=>Q .nxt fr σ) ov) σ) σ
 | .si o i e,fr,Q,σ=>wE T C e fr (fun v σ=>wE T C o fr (fun ov σ=>wE T C i fr (fun iv σ=>setIt σ v (fun σ=>Q .nxt fr σ) ov iv) σ) σ) σ
 | .up ts e,fr,Q,σ=>wE T C e fr (fun v σ=>unpV (fun vs=>wTgs ts vs fr (fun fr σ=>Q .nxt fr σ) σ) ts.length σ v) σ
 | .sw is e,fr,Q,σ=>wE T C e fr (fun t σ=>argK (fun vs=>setAll is vs fr fun fr=>Q .nxt fr σ) t) σ
 | .au o f e,fr,Q,σ=>wE T C o fr (fun ov σ=>getI σ (fun c ks l=>fldK (onI fun x=>wE T C e fr (fun v σ=>onI (fun y=>setA σ f (.int (x+y)) (fun σ=>Q .nxt fr σ) ov) v) σ) False f ks l) ov) σ
 | .ex e,fr,Q,σ=>wE T C e fr (fun _ σ=>Q .nxt fr σ) σ
 | .ie t a b,fr,Q,σ=>wE T C t fr (fun v σ=>ifT (wS T C a fr Q σ) (wS T C b fr Q σ) v) σ
 | .wh t b,fr,Q,σ=>∃ n,whlW (fun fr Q σ=>wE T C t fr Q σ) (fun fr Q σ=>wS T C b fr Q σ) Q n fr σ
 | .fo p g it b,fr,Q,σ=>wE T C it fr (fun t σ=>argK (fun vs=>wIt T g vs (fun xs chk σ=>forW p chk (fun fr Q σ=>wS T C b fr Q σ) Q xs fr σ) σ) t) σ
 | .re e,fr,Q,σ=>wE T C e fr (fun v σ=>Q (.ret v) fr σ) σ
 | .co,fr,Q,σ=>Q .cont fr σ
 | .fa,fr,Q,σ=>False
noncomputable def retK (Q:Po):PoS:=fun fl _ σ=>match fl with
 | .ret v=>Q v σ
 | .nxt=>Q .none σ
 | .cont=>False
noncomputable def FD.frame (d:FD) (vs:List NV):Fr:=(vs++d.dfl.drop (d.dfl.length+vs.length - d.na)).map some++List.replicate (d.n - d.na) none
noncomputable def FD.ok (d:FD) (vs:List NV):Bool:=Nat.ble vs.length d.na&&Nat.ble d.na (vs.length+d.dfl.length)
noncomputable def defK (K:FD→Prop):Option FD→Prop
 | some x=>K x
 | none=>False
noncomputable def callV (T:Tx):Nat→Cal
 | 0,_,_,_,_=>False
 | k+1,i,vs,Q,σ=>defK (fun d:FD=>bK (wS T (callV T k) d.body (d.frame vs) (retK Q) σ) (d.ok vs)) (T.fd i)
noncomputable def callS:{ C:Tx→Nat→Cal // C=callV }:=Classical.choice ⟨⟨callV,rfl⟩⟩
noncomputable def callN (T:Tx) (k:Nat):Cal:=callS.1 T k
theorem callN_v (T:Tx):callN T=callV T:=congrFun callS.2 T
theorem enter {T:Tx} {k i:Nat} {vs:List NV} {Q:Po} {σ:NH} (h:defK (fun d:FD=>bK (wS T (callN T k) d.body (d.frame vs) (retK Q) σ) (d.ok vs)) (T.fd i)):callN T (k+1) i vs Q σ:=by
 rw [callN_v] at h ⊢; exact h
theorem leave {T:Tx} {k i:Nat} {vs:List NV} {Q:Po} {σ:NH} (h:callN T (k+1) i vs Q σ):defK (fun d:FD=>bK (wS T (callN T k) d.body (d.frame vs) (retK Q) σ) (d.ok vs)) (T.fd i):=by
 rw [callN_v] at h ⊢; exact h
end
section
noncomputable def b142:S:=.sq (.sa (.lo 0) 2 (.lo 1)) (.sq (.sa (.lo 0) 3 (.lo 2)) (.sq (.sa (.lo 0) 4 (.ls .f .e0)) (.sq (.sa (.lo 0) 5 (.ls .f .e0)) (.sq (.sa (.lo 0) 6 (.ls .f .e0)) (.sq (.sa (.lo 0) 7 (.ls .f .e0)) (.sq (.sa (.lo 0) 8 (.ls .f .e0)) (.sq (.sa (.lo 0) 9 (.li (.int 0))) (.sq (.sa (.lo 0) 10 (.li (.int 0))) (.sq (.sa (.lo 0) 11 (.ls .f .e0)) (.sq (.sa (.lo 0) 12 (.li (.bool false))) (.sq (.sa (.lo 0) 13 (.li (.bool false))) (.sq (.sa (.lo 0) 14 (.li .none)) (.sq (.sa (.lo 0) 15 (.li .none)) (.sa (.lo 0) 16 (.ls .f .e0)))))))))))))))
noncomputable def b156:S:=.re (.sb (.sb (.gb 84 (.gl 107)) (.lo 0)) (.li (.int 0)))
noncomputable def b163:S:=.re (.sb (.sb (.gb 84 (.gl 107)) (.lo 0)) (.li (.int 1)))
noncomputable def b170:S:=.re (.bn .add (.sb (.sb (.gb 84 (.gl 107)) (.lo 0)) (.li (.int 2))) (.ie (.cp .eq (.sb (.sb (.gb 84 (.gl 107)) (.lo 0)) (.li (.int 1))) (.li (.str 19))) (.lo 1) (.li (.int 0))))
noncomputable def b177:S:=.re (.sb (.sb (.gb 84 (.gl 107)) (.lo 0)) (.li (.int 3)))
noncomputable def b184:S:=.re (.cp .inn (.lo 0) (.gb 85 (.gl 108)))
noncomputable def b191:S:=.re (.bo true false (.cp .eq (.bu .isstr (.ec (.lo 0) .e0)) (.bu .isstr (.ec (.lo 1) .e0))) (.cp .eq (.lo 0) (.lo 1)))
noncomputable def b205:S:=.sq (.sa (.lo 0) 2 (.lo 1)) (.sq (.sa (.lo 0) 3 (.lo 2)) (.sq (.sa (.lo 0) 12 (.lo 3)) (.sq (.sa (.lo 0) 4 (.ls .r .e0)) (.sq (.sa (.lo 0) 8 (.ls .r .e0)) (.sq (.sa (.lo 0) 17 (.li (.int 0))) (.sq (.sa (.lo 0) 5 (.ls .r .e0)) (.sq (.sa (.lo 0) 6 (.ls .f .e0)) (.sq (.sa (.lo 0) 18 (.ls .r .e0)) (.sq (.sa (.lo 0) 7 (.ls .r .e0)) (.sq (.sa (.lo 0) 9 (.li (.int 0))) (.sq (.sa (.lo 0) 10 (.li (.int 0))) (.sq (.sa (.lo 0) 11 (.ls .f .e0)) (.sq (.sa (.lo 0) 13 (.li (.bool false))) (.sq (.sa (.lo 0) 14 (.li .none)) (.sq (.sa (.lo 0) 15 (.li .none)) (.sa (.lo 0) 16 (.ls .f .e0)))))))))))))))))
noncomputable def b212:S:=.re (.bu .len (.ec (.ar (.lo 0) 4) .e0))
noncomputable def b220:S:=.sq (.ex (.mt (.ar (.lo 0) 4) 83 (.ec (.tp (.ec (.lo 1) (.ec (.lo 2) .e0))) .e0))) (.sq (.ex (.mt (.ar (.lo 0) 8) 83 (.ec (.ar (.lo 0) 17) .e0))) (.re (.bn .sub (.bu .len (.ec (.ar (.lo 0) 4) .e0)) (.li (.int 1)))))
noncomputable def b227:S:=.sq (.ex (.mt (.ar (.lo 0) 18) 83 (.ec (.li (.int (-1))) .e0))) (.re (.bn .sub (.bu .len (.ec (.ar (.lo 0) 18) .e0)) (.li (.int 1))))
noncomputable def b234:S:=.sq (.ie (.cp .ge (.sb (.ar (.lo 0) 18) (.lo 1)) (.li (.int 0))) .fa .sk) (.si (.ar (.lo 0) 18) (.lo 1) (.mt (.lo 0) 36 .e0))
noncomputable def b241:S:=.re (.mt (.lo 0) 37 (.ec (.lo 1) (.ec (.lo 2) .e0)))
noncomputable def b248:S:=.sq (.fo (.cons (.loc 2) (.cons (.loc 3) .nil)) .enum (.ec (.ar (.lo 0) 5) .e0) (.ie (.ca (.gb 93 (.fn 191)) (.ec (.lo 3) (.ec (.lo 1) .e0))) (.re (.lo 2)) .sk)) (.sq (.ex (.mt (.ar (.lo 0) 5) 83 (.ec (.lo 1) .e0))) (.re (.bn .sub (.bu .len (.ec (.ar (.lo 0) 5) .e0)) (.li (.int 1)))))
noncomputable def b276:S:=.ex (.mt (.ar (.lo 0) 7) 83 (.ec (.tp (.ec (.lo 1) (.ec (.lo 2) (.ec (.lo 3) (.ec (.lo 4) (.ec (.lo 5) .e0)))))) .e0))
noncomputable def b283:S:=.sq (.ie (.cp .lt (.sb (.ar (.lo 0) 18) (.lo 1)) (.li (.int 0))) .fa .sk) (.re (.sb (.ar (.lo 0) 18) (.lo 1)))
noncomputable def b290:S:=.sq (.st 1 (.ls .d .e0)) (.sq (.fo (.cons (.loc 2) (.cons (.cons (.loc 3) (.cons (.loc 4) .nil)) .nil)) .enum (.ec (.ar (.lo 0) 4) .e0) (.ex (.mt (.lo 1) 83 (.ec (.ie (.cp .eq (.ca (.gb 89 (.fn 163)) (.ec (.lo 3) .e0)) (.li (.str 20))) (.tp (.ec (.lo 3) (.ec (.mt (.lo 0) 42 (.ec (.lo 4) (.ec (.lo 2) .e0))) .e0))) (.tp (.ec (.lo 3) (.ec (.lo 4) .e0)))) .e0)))) (.re (.fz 90 (.lo 1))))
noncomputable def b297:S:=.sq (.st 1 (.ls .d .e0)) (.sq (.fo (.cons (.loc 2) (.cons (.loc 3) (.cons (.loc 4) (.cons (.loc 5) (.cons (.loc 6) .nil))))) .over (.ec (.ar (.lo 0) 7) .e0) (.sq (.sw [7,8] (.ec (.mt (.lo 0) 42 (.ec (.lo 2) (.ec (.li (.int (-1))) .e0))) (.ec (.mt (.lo 0) 42 (.ec (.lo 3) (.ec (.li (.int (-1))) .e0))) .e0))) (.ie (.cp .lt (.lo 7) (.lo 8)) (.ex (.mt (.lo 1) 83 (.ec (.tp (.ec (.lo 7) (.ec (.lo 8) (.ec (.mt (.lo 0) 42 (.ec (.lo 4) (.ec (.li (.int (-1))) .e0))) (.ec (.lo 5) (.ec (.lo 6) .e0)))))) .e0))) .sk))) (.re (.fz 90 (.lo 1))))
noncomputable def b304:S:=.sq (.st 1 (.ca (.gb 87 (.cls 145)) (.ec (.ar (.lo 0) 2) (.ec (.ar (.lo 0) 3) .e0)))) (.sq (.sa (.lo 1) 4 (.mt (.lo 0) 43 .e0)) (.sq (.sa (.lo 1) 7 (.mt (.lo 0) 44 .e0)) (.sq (.sa (.lo 1) 8 (.bu (.list .f) (.ec (.ar (.lo 0) 8) .e0))) (.sq (.sa (.lo 1) 5 (.bu (.list .f) (.ec (.ar (.lo 0) 5) .e0))) (.sq (.sa (.lo 1) 6 (.bu (.list .f) (.ec (.ar (.lo 0) 6) .e0))) (.sq (.sa (.lo 1) 9 (.ar (.lo 0) 9)) (.sq (.sa (.lo 1) 10 (.ar (.lo 0) 10)) (.sq (.sa (.lo 1) 11 (.ar (.lo 0) 11)) (.sq (.sa (.lo 1) 12 (.ar (.lo 0) 12)) (.sq (.sa (.lo 1) 13 (.ar (.lo 0) 13)) (.sq (.sa (.lo 1) 14 (.ar (.lo 0) 14)) (.sq (.sa (.lo 1) 15 (.ar (.lo 0) 15)) (.sq (.sa (.lo 1) 16 (.ar (.lo 0) 16)) (.re (.fz 90 (.lo 1))))))))))))))))
noncomputable def b318:S:=.sq (.ie (.cp .eq (.lo 0) (.gb 77 (.int 78))) (.re (.bn .add (.lo 1) (.li (.int 2)))) .sk) (.re (.ie (.bo false false (.cp .eq (.lo 0) (.gb 58 (.int 59))) (.cp .eq (.lo 0) (.gb 59 (.int 60)))) (.bn .sub (.lo 1) (.li (.int 1))) (.lo 1)))
noncomputable def b332:S:=.sq (.sa (.lo 0) 19 (.ca (.gb 94 (.cls 307)) (.ec (.lo 1) (.ec (.lo 2) (.ec (.lo 3) .e0))))) (.sq (.sa (.lo 0) 20 (.li (.int 0))) (.sa (.lo 0) 21 (.ls .r .e0)))
noncomputable def b339:S:=.re (.cp .isn (.ar (.lo 0) 20) (.li .none))
noncomputable def b346:S:=.sa (.ar (.lo 0) 19) 17 (.lo 1)
noncomputable def b353:S:=.sq (.ex (.mt (.ar (.lo 0) 21) 83 (.ec (.li .none) .e0))) (.re (.mt (.ar (.lo 0) 19) 38 .e0))
noncomputable def b360:S:=.sq (.ie (.bo true false (.cp .isn (.sb (.ar (.lo 0) 21) (.lo 1)) (.li .none)) (.cp .ne (.sb (.ar (.lo 0) 21) (.lo 1)) (.lo 2))) .fa .sk) (.si (.ar (.lo 0) 21) (.lo 1) (.lo 2))
noncomputable def b368:S:=.ie (.cp .isn (.ar (.lo 0) 20) (.li .none)) (.sq (.ex (.mt (.ar (.lo 0) 19) 37 (.ec (.lo 1) (.ec (.lo 2) .e0)))) (.sa (.lo 0) 20 (.ie (.ca (.gb 92 (.fn 184)) (.ec (.lo 1) .e0)) (.li .none) (.bn .add (.bn .sub (.ar (.lo 0) 20) (.ca (.gb 90 (.fn 170)) (.ec (.lo 1) (.ec (.lo 2) .e0)))) (.ca (.gb 91 (.fn 177)) (.ec (.lo 1) .e0)))))) .sk
noncomputable def b375:S:=.ie (.cp .isn (.ar (.lo 0) 20) (.li .none)) (.ex (.mt (.lo 0) 50 (.ec (.gb 5 (.int 4)) (.ec (.mt (.ar (.lo 0) 19) 40 (.ec (.lo 1) .e0)) .e0)))) .sk
noncomputable def b382:S:=.ie (.cp .isn (.ar (.lo 0) 20) (.li .none)) (.ex (.mt (.lo 0) 50 (.ec (.lo 1) (.ec (.mt (.ar (.lo 0) 19) 40 (.ec (.lo 2) .e0)) .e0)))) .sk
noncomputable def b389:S:=.ie (.cp .isn (.ar (.lo 0) 20) (.li .none)) (.sq (.ex (.mt (.lo 0) 49 (.ec (.lo 2) (.ec (.ca (.gb 95 (.fn 318)) (.ec (.lo 1) (.ec (.ar (.lo 0) 20) .e0))) .e0)))) (.sq (.ex (.mt (.ar (.lo 0) 19) 39 (.ec (.lo 1) (.ec (.lo 2) .e0)))) (.sa (.lo 0) 20 (.ie (.ca (.gb 92 (.fn 184)) (.ec (.lo 1) .e0)) (.li .none) (.bn .add (.bn .sub (.ar (.lo 0) 20) (.ca (.gb 90 (.fn 170)) (.ec (.lo 1) (.ec (.li .none) .e0)))) (.ca (.gb 91 (.fn 177)) (.ec (.lo 1) .e0))))))) .sk
noncomputable def b396:S:=.sq (.ie (.cp .isn (.ar (.lo 0) 20) (.li .none)) (.ex (.mt (.lo 0) 49 (.ec (.lo 1) (.ec (.ar (.lo 0) 20) .e0)))) .sk) (.sq (.ex (.mt (.ar (.lo 0) 19) 35 (.ec (.lo 1) .e0))) (.sa (.lo 0) 20 (.sb (.ar (.lo 0) 21) (.lo 1))))
noncomputable def b403:S:=.sq (.ex (.mt (.lo 0) 49 (.ec (.lo 1) (.ec (.lo 2) .e0)))) (.ex (.mt (.lo 0) 54 (.ec (.lo 1) .e0)))
noncomputable def b410:S:=.sq (.st 1 (.mt (.lo 0) 48 .e0)) (.sq (.ex (.mt (.lo 0) 54 (.ec (.lo 1) .e0))) (.re (.lo 1)))
noncomputable def b433:S:=.sq (.sa (.lo 0) 22 (.lo 1)) (.sq (.sa (.lo 0) 23 (.lo 1)) (.sq (.sa (.lo 0) 4 (.ca (.gb 96 (.cls 413)) (.ec (.lo 2) (.ec (.bu (.list .f) (.ec (.ar (.lo 1) 3) .e0)) (.ec (.ar (.lo 1) 12) .e0))))) (.sq (.sa (.lo 0) 24 (.ls .r .e0)) (.sq (.sa (.lo 0) 9 (.ar (.lo 1) 9)) (.sa (.lo 0) 25 (.ie (.cp .eq (.ar (.lo 1) 31) (.li (.str 21))) (.mt (.lo 0) 57 .e0) (.li .none)))))))
noncomputable def b440:S:=.sq (.au (.lo 0) 9 (.li (.int 1))) (.re (.bn .sub (.ar (.lo 0) 9) (.li (.int 1))))
noncomputable def b447:S:=.sq (.up [.loc 2,.loc 3] (.mt (.ar (.lo 0) 23) 32 (.ec (.lo 1) .e0))) (.ie (.cp .eq (.lo 2) (.li (.str 22))) (.ex (.mt (.ar (.lo 0) 4) 52 (.ec (.gb 19 (.int 18)) (.ec (.lo 1) .e0)))) (.ex (.mt (.ar (.lo 0) 4) 50 (.ec (.sb (.gb 97 (.gl 418)) (.lo 2)) (.ec (.lo 3) .e0)))))
noncomputable def b454:S:=.sq (.up [.loc 2,.loc 3] (.lo 1)) (.ie (.cp .eq (.lo 2) (.li (.str 22))) (.ex (.mt (.ar (.lo 0) 4) 52 (.ec (.gb 21 (.int 20)) (.ec (.lo 3) .e0)))) (.ex (.mt (.ar (.lo 0) 4) 50 (.ec (.sb (.gb 98 (.gl 419)) (.lo 2)) (.ec (.lo 3) .e0)))))
noncomputable def b461:S:=.ie (.ng (.mt (.ar (.lo 0) 23) 33 (.ec (.lo 1) .e0))) (.ex (.mt (.lo 0) 59 (.ec (.mt (.ar (.lo 0) 23) 32 (.ec (.lo 1) .e0)) .e0))) (.ie (.ar (.ar (.lo 0) 22) 12) (.ex (.mt (.ar (.lo 0) 4) 52 (.ec (.gb 82 (.int 83)) (.ec (.lo 1) .e0)))) .sk)
noncomputable def b468:S:=.sq (.ex (.mt (.ar (.lo 0) 4) 50 (.ec (.gb 13 (.int 12)) (.ec (.lo 1) .e0)))) (.ex (.mt (.ar (.lo 0) 4) 50 (.ec (.gb 7 (.int 6)) .e0)))
noncomputable def b496:S:=.sq (.sa (.lo 0) 26 (.lo 1)) (.sq (.sa (.lo 0) 27 (.lo 2)) (.sq (.sa (.lo 0) 28 (.lo 3)) (.sa (.lo 0) 29 (.lo 4))))
noncomputable def b503:S:=.re (.cp .inn (.ar (.lo 0) 26) (.tp (.ec (.gb 100 (.str 24)) (.ec (.gb 101 (.str 23)) .e0))))
noncomputable def b517:S:=.fo (.loc 3) .over (.ec (.rv (.dp (.lo 1) (.lo 2))) .e0) (.ie (.cp .eq (.ar (.lo 3) 26) (.gb 101 (.str 23))) (.ex (.mt (.lo 0) 50 (.ec (.gb 7 (.int 6)) .e0))) (.ie (.cp .eq (.ar (.lo 3) 26) (.gb 104 (.str 25))) (.ex (.mt (.lo 0) 53 (.ec (.gb 77 (.int 78)) (.ec (.ar (.lo 3) 28) .e0)))) (.ie (.cp .eq (.ar (.lo 3) 26) (.gb 105 (.str 26))) (.sq (.ex (.mt (.lo 0) 50 (.ec (.gb 7 (.int 6)) .e0))) (.ex (.mt (.lo 0) 50 (.ec (.gb 7 (.int 6)) .e0)))) .sk)))
noncomputable def b524:S:=.sq (.fo (.loc 2) .range3 (.ec (.bn .sub (.bu .len (.ec (.lo 0) .e0)) (.li (.int 1))) (.ec (.li (.int (-1))) (.ec (.li (.int (-1))) .e0))) (.sq (.st 3 (.sb (.lo 0) (.lo 2))) (.sq (.ie (.bo true false (.cp .is (.lo 1) (.li .none)) (.bo false false (.mt (.lo 3) 63 .e0) (.cp .eq (.ar (.lo 3) 26) (.gb 102 (.str 27))))) (.re (.lo 2)) .sk) (.ie (.bo true false (.cp .isn (.lo 1) (.li .none)) (.cp .inn (.lo 1) (.ar (.lo 3) 27))) (.re (.lo 2)) .sk)))) (.re (.li (.int (-1))))
noncomputable def b531:S:=.sq (.fo (.loc 2) .range3 (.ec (.bn .sub (.bu .len (.ec (.lo 0) .e0)) (.li (.int 1))) (.ec (.li (.int (-1))) (.ec (.li (.int (-1))) .e0))) (.sq (.st 3 (.sb (.lo 0) (.lo 2))) (.ie (.bo true false (.mt (.lo 3) 63 .e0) (.bo false false (.cp .is (.lo 1) (.li .none)) (.cp .inn (.lo 1) (.ar (.lo 3) 27)))) (.re (.lo 2)) .sk))) (.re (.li (.int (-1))))
noncomputable def b538:S:=.sq (.st 3 (.ca (.gb 108 (.fn 524)) (.ec (.lo 1) (.ec (.lo 2) .e0)))) (.sq (.ex (.ca (.gb 107 (.fn 517)) (.ec (.lo 0) (.ec (.lo 1) (.ec (.bn .add (.lo 3) (.li (.int 1))) .e0))))) (.ex (.mt (.lo 0) 53 (.ec (.gb 57 (.int 58)) (.ec (.ar (.sb (.lo 1) (.lo 3)) 28) .e0)))))
noncomputable def b545:S:=.sq (.st 3 (.ca (.gb 109 (.fn 531)) (.ec (.lo 1) (.ec (.lo 2) .e0)))) (.sq (.ex (.ca (.gb 107 (.fn 517)) (.ec (.lo 0) (.ec (.lo 1) (.ec (.bn .add (.lo 3) (.li (.int 1))) .e0))))) (.ex (.mt (.lo 0) 53 (.ec (.gb 57 (.int 58)) (.ec (.ar (.sb (.lo 1) (.lo 3)) 29) .e0)))))
noncomputable def b550:S:=.re (.bu .any (.ec (.cm .f 1 (.loc 1) .over (.ec (.lo 0) .e0) .e0 (.cp .eq (.ar (.lo 1) 26) (.gb 104 (.str 25)))) .e0))
noncomputable def b557:S:=.ie (.bo true false (.cp .eq (.ar (.lo 1) 26) (.li (.str 28))) (.cp .eq (.sb (.ar (.lo 1) 30) (.li (.int 0))) (.li (.str 29)))) (.ex (.ca (.gb 113 (.fn 557)) (.ec (.lo 0) (.ec (.sb (.ar (.lo 1) 30) (.li (.int 1))) (.ec (.lo 2) (.ec (.ng (.lo 3)) (.ec (.lo 4) .e0))))))) (.ie (.cp .eq (.ar (.lo 1) 26) (.li (.str 30))) (.sq (.up [.loc 5,.loc 6,.loc 7] (.ar (.lo 1) 30)) (.ie (.cp .eq (.cp .eq (.lo 5) (.li (.str 31))) (.lo 3)) (.sq (.ex (.ca (.gb 113 (.fn 557)) (.ec (.lo 0) (.ec (.lo 6) (.ec (.lo 2) (.ec (.lo 3) (.ec (.lo 4) .e0))))))) (.ex (.ca (.gb 113 (.fn 557)) (.ec (.lo 0) (.ec (.lo 7) (.ec (.lo 2) (.ec (.lo 3) (.ec (.lo 4) .e0)))))))) (.sq (.st 8 (.mt (.lo 0) 48 .e0)) (.sq (.ex (.ca (.gb 113 (.fn 557)) (.ec (.lo 0) (.ec (.lo 6) (.ec (.lo 8) (.ec (.ng (.lo 3)) (.ec (.lo 4) .e0))))))) (.sq (.ex (.ca (.gb 113 (.fn 557)) (.ec (.lo 0) (.ec (.lo 7) (.ec (.lo 2) (.ec (.lo 3) (.ec (.lo 4) .e0))))))) (.ex (.mt (.lo 0) 54 (.ec (.lo 8) .e0)))))))) (.sq (.ex (.ca (.lo 4) (.ec (.lo 1) .e0))) (.ex (.mt (.lo 0) 53 (.ec (.ie (.lo 3) (.gb 59 (.int 60)) (.gb 58 (.int 59))) (.ec (.lo 2) .e0))))))
noncomputable def b571:S:=.sq (.st 5 (.lo 3)) (.sq (.fo (.cons (.loc 6) (.cons (.loc 7) .nil)) .enum (.ec (.lo 1) .e0) (.sq (.ie (.cp .is (.sb (.lo 7) (.li (.int 0))) (.li .none)) (.sq (.st 5 (.sb (.lo 2) (.lo 6))) .co) .sk) (.sq (.st 8 (.mt (.lo 0) 48 .e0)) (.sq (.ex (.mt (.lo 0) 50 (.ec (.gb 8 (.int 7)) .e0))) (.sq (.ex (.ca (.lo 4) (.ec (.sb (.lo 7) (.li (.int 0))) .e0))) (.sq (.ex (.mt (.lo 0) 50 (.ec (.gb 42 (.int 43)) .e0))) (.sq (.ex (.mt (.lo 0) 53 (.ec (.gb 58 (.int 59)) (.ec (.lo 8) .e0)))) (.sq (.ex (.mt (.lo 0) 50 (.ec (.gb 7 (.int 6)) .e0))) (.sq (.ex (.mt (.lo 0) 53 (.ec (.gb 57 (.int 58)) (.ec (.sb (.lo 2) (.lo 6)) .e0)))) (.ex (.mt (.lo 0) 54 (.ec (.lo 8) .e0)))))))))))) (.sq (.ex (.mt (.lo 0) 50 (.ec (.gb 7 (.int 6)) .e0))) (.ex (.mt (.lo 0) 53 (.ec (.gb 57 (.int 58)) (.ec (.lo 5) .e0))))))
noncomputable def b576:S:=.sq (.st 6 (.mt (.lo 0) 48 .e0)) (.sq (.st 8 (.cm .f 1 (.loc 10) .over (.ec (.lo 3) .e0) .e0 (.mt (.lo 0) 48 .e0))) (.sq (.ex (.ca (.lo 4) (.ec (.lo 2) .e0))) (.sq (.ex (.ca (.gb 115 (.fn 571)) (.ec (.lo 0) (.ec (.lo 3) (.ec (.lo 8) (.ec (.lo 6) (.ec (.lo 4) .e0))))))) (.sq (.ex (.mt (.lo 1) 83 (.ec (.nw (.gb 106 (.cls 506)) (.ec (.gb 102 (.str 27)) (.ec (.ls .f .e0) (.ec (.lo 6) (.ec (.li .none) .e0))))) .e0))) (.sq (.fo (.cons (.loc 9) (.cons (.loc 7) .nil)) .enum (.ec (.lo 3) .e0) (.sq (.ex (.mt (.lo 0) 54 (.ec (.sb (.lo 8) (.lo 9)) .e0))) (.ex (.ca (.lo 5) (.ec (.sb (.lo 7) (.li (.int 1))) .e0))))) (.sq (.ex (.mt (.lo 1) 84 .e0)) (.ex (.mt (.lo 0) 54 (.ec (.lo 6) .e0)))))))))
noncomputable def b601:S:=.sq (.sw [2,3] (.ec (.ar (.lo 1) 26) (.ec (.ar (.lo 1) 30) .e0))) (.sq (.ex (.mt (.ar (.lo 0) 4) 47 (.ec (.ar (.lo 1) 17) .e0))) (.ie (.bo false false (.cp .eq (.lo 2) (.li (.str 32))) (.cp .eq (.lo 2) (.li (.str 33)))) (.ex (.mt (.ar (.lo 0) 4) 51 (.ec (.sb (.lo 3) (.li (.int 0))) .e0))) (.ie (.cp .eq (.lo 2) (.li (.str 34))) (.ex (.mt (.lo 0) 58 (.ec (.sb (.lo 3) (.li (.int 0))) .e0))) (.ie (.cp .eq (.lo 2) (.li (.str 35))) (.sq (.ex (.mt (.lo 0) 64 (.ec (.sb (.lo 3) (.li (.int 1))) .e0))) (.sq (.ex (.mt (.lo 0) 64 (.ec (.sb (.lo 3) (.li (.int 2))) .e0))) (.sq (.ex (.mt (.ar (.lo 0) 4) 47 (.ec (.ar (.lo 1) 17) .e0))) (.ex (.mt (.ar (.lo 0) 4) 50 (.ec (.sb (.gb 117 (.gl 577)) (.sb (.lo 3) (.li (.int 0)))) .e0)))))) (.ie (.cp .eq (.lo 2) (.li (.str 36))) (.sq (.ex (.mt (.lo 0) 64 (.ec (.sb (.lo 3) (.li (.int 0))) .e0))) (.ex (.mt (.ar (.lo 0) 4) 52 (.ec (.gb 22 (.int 23)) (.ec (.sb (.lo 3) (.li (.int 1))) .e0))))) (.ie (.cp .eq (.lo 2) (.li (.str 37))) (.sq (.ex (.mt (.lo 0) 64 (.ec (.sb (.lo 3) (.li (.int 0))) .e0))) (.sq (.ex (.mt (.lo 0) 64 (.ec (.sb (.lo 3) (.li (.int 1))) .e0))) (.ex (.mt (.ar (.lo 0) 4) 50 (.ec (.gb 24 (.int 25)) .e0))))) (.ie (.cp .eq (.lo 2) (.li (.str 38))) (.ex (.mt (.lo 0) 86 (.ec (.lo 1) .e0))) (.ie (.cp .eq (.lo 2) (.li (.str 39))) (.ex (.mt (.lo 0) 87 (.ec (.sb (.lo 3) (.li (.int 0))) (.ec (.sb (.lo 3) (.li (.int 1))) (.ec (.sb (.lo 3) (.li (.int 2))) .e0))))) (.ie (.bo false false (.cp .eq (.lo 2) (.li (.str 30))) (.cp .eq (.lo 2) (.li (.str 40)))) (.ex (.ca (.gb 114 (.fn 564)) (.ec (.ar (.lo 0) 4) (.ec (.lo 1) (.ec (.bm (.lo 0) 64) .e0))))) (.ex (.mt (.lo 0) 88 (.ec (.lo 1) .e0))))))))))))
noncomputable def b705:S:=.fo (.loc 2) .over (.ec (.lo 1) .e0) (.ie (.mt (.ar (.lo 0) 4) 46 .e0) (.ex (.mt (.lo 0) 66 (.ec (.lo 2) .e0))) .sk)
noncomputable def b712:S:=.sq (.sw [2,3] (.ec (.ar (.lo 1) 26) (.ec (.ar (.lo 1) 30) .e0))) (.sq (.ex (.mt (.ar (.lo 0) 4) 47 (.ec (.ar (.lo 1) 17) .e0))) (.ie (.cp .eq (.lo 2) (.li (.str 41))) (.sq (.ex (.mt (.lo 0) 64 (.ec (.sb (.lo 3) (.li (.int 0))) .e0))) (.ex (.mt (.lo 0) 67 .e0))) (.ie (.cp .eq (.lo 2) (.li (.str 42))) (.ex (.mt (.lo 0) 68 (.ec (.sb (.lo 3) (.li (.int 0))) .e0))) (.ie (.cp .eq (.lo 2) (.li (.str 43))) (.ex (.mt (.lo 0) 65 (.ec (.sb (.lo 3) (.li (.int 0))) .e0))) (.ie (.cp .eq (.lo 2) (.li (.str 44))) (.ex (.mt (.lo 0) 69 (.ec (.sb (.lo 3) (.li (.int 0))) (.ec (.sb (.lo 3) (.li (.int 1))) (.ec (.sb (.lo 3) (.li (.int 2))) .e0))))) (.ie (.cp .inn (.lo 2) (.gb 121 (.gl 691))) (.ex (.mt (.lo 0) 71 (.ec (.lo 1) (.ec (.ls .f .e0) .e0)))) (.ie (.cp .eq (.lo 2) (.li (.str 45))) (.ex (.mt (.lo 0) 78 (.ec (.sb (.lo 3) (.li (.int 0))) .e0))) (.ie (.cp .eq (.lo 2) (.li (.str 46))) (.ex (.ca (.gb 110 (.fn 538)) (.ec (.ar (.lo 0) 4) (.ec (.ar (.lo 0) 24) (.ec (.sb (.lo 3) (.li (.int 0))) .e0))))) (.ie (.cp .eq (.lo 2) (.li (.str 47))) (.ex (.ca (.gb 111 (.fn 545)) (.ec (.ar (.lo 0) 4) (.ec (.ar (.lo 0) 24) (.ec (.sb (.lo 3) (.li (.int 0))) .e0))))) (.ie (.cp .eq (.lo 2) (.li (.str 48))) (.sq (.ex (.mt (.lo 0) 64 (.ec (.sb (.lo 3) (.li (.int 0))) .e0))) (.ex (.mt (.ar (.lo 0) 4) 50 (.ec (.gb 65 (.int 66)) .e0)))) (.ie (.cp .eq (.lo 2) (.li (.str 49))) (.ex (.ca (.gb 116 (.fn 576)) (.ec (.ar (.lo 0) 4) (.ec (.ar (.lo 0) 24) (.ec (.sb (.lo 3) (.li (.int 0))) (.ec (.sb (.lo 3) (.li (.int 1))) (.ec (.bm (.lo 0) 64) (.ec (.bm (.lo 0) 65) .e0)))))))) (.ie (.cp .eq (.lo 2) (.li (.str 50))) (.ex (.mt (.lo 0) 79 (.ec (.lo 1) .e0))) (.ie (.cp .eq (.lo 2) (.li (.str 51))) (.ex (.mt (.lo 0) 70 (.ec (.lo 1) .e0))) .sk)))))))))))))
noncomputable def b719:S:=.ie (.cp .is (.ar (.lo 0) 25) (.li .none)) (.ex (.mt (.ar (.lo 0) 4) 50 (.ec (.gb 7 (.int 6)) .e0))) (.ex (.mt (.lo 0) 61 (.ec (.ar (.lo 0) 25) .e0)))
noncomputable def b726:S:=.fo (.cons (.loc 2) (.cons (.loc 3) .nil)) .over (.ec (.lo 1) .e0) (.ie (.cp .isn (.lo 3) (.li .none)) (.sq (.ex (.mt (.lo 0) 64 (.ec (.lo 3) .e0))) (.sq (.ex (.mt (.lo 0) 60 (.ec (.lo 2) .e0))) (.ex (.mt (.ar (.lo 0) 4) 50 (.ec (.gb 7 (.int 6)) .e0))))) .sk)
noncomputable def b733:S:=.sq (.sw [4,5] (.ec (.mt (.ar (.lo 0) 4) 48 .e0) (.ec (.mt (.ar (.lo 0) 4) 48 .e0) .e0))) (.sq (.ex (.ca (.gb 113 (.fn 557)) (.ec (.ar (.lo 0) 4) (.ec (.lo 1) (.ec (.lo 4) (.ec (.li (.bool false)) (.ec (.bm (.lo 0) 64) .e0))))))) (.sq (.ex (.mt (.lo 0) 65 (.ec (.ls .f (.ec (.lo 2) .e0)) .e0))) (.sq (.ie (.cp .isn (.lo 3) (.li .none)) (.ex (.mt (.ar (.lo 0) 4) 53 (.ec (.gb 57 (.int 58)) (.ec (.lo 5) .e0)))) .sk) (.sq (.ex (.mt (.ar (.lo 0) 4) 54 (.ec (.lo 4) .e0))) (.sq (.ie (.cp .isn (.lo 3) (.li .none)) (.ex (.mt (.lo 0) 65 (.ec (.ls .f (.ec (.lo 3) .e0)) .e0))) .sk) (.ex (.mt (.ar (.lo 0) 4) 54 (.ec (.lo 5) .e0))))))))
noncomputable def b740:S:=.sq (.st 2 (.ls .f (.ec (.sb (.ar (.lo 1) 30) (.li (.int 0))) .e0))) (.sq (.st 3 (.sb (.ar (.lo 1) 30) (.li (.int 1)))) (.sq (.wh (.cp .eq (.ar (.lo 3) 26) (.li (.str 51))) (.sq (.ex (.mt (.lo 2) 83 (.ec (.sb (.ar (.lo 3) 30) (.li (.int 0))) .e0))) (.st 3 (.sb (.ar (.lo 3) 30) (.li (.int 1)))))) (.sq (.ie (.cp .inn (.ar (.lo 3) 26) (.gb 121 (.gl 691))) (.sq (.ex (.mt (.lo 0) 71 (.ec (.lo 3) (.ec (.lo 2) .e0)))) (.re (.li .none))) .sk) (.sq (.st 4 (.mt (.ar (.lo 0) 4) 48 .e0)) (.sq (.ex (.mt (.ar (.lo 0) 24) 83 (.ec (.nw (.gb 106 (.cls 506)) (.ec (.gb 103 (.str 52)) (.ec (.lo 2) (.ec (.lo 4) (.ec (.li .none) .e0))))) .e0))) (.sq (.ex (.mt (.lo 0) 65 (.ec (.ls .f (.ec (.lo 3) .e0)) .e0))) (.sq (.ex (.mt (.ar (.lo 0) 24) 84 .e0)) (.ex (.mt (.ar (.lo 0) 4) 54 (.ec (.lo 4) .e0))))))))))
noncomputable def b747:S:=.sq (.sw [3,4] (.ec (.ar (.lo 1) 26) (.ec (.ar (.lo 1) 30) .e0))) (.sq (.sw [5,6] (.ec (.mt (.ar (.lo 0) 4) 48 .e0) (.ec (.mt (.ar (.lo 0) 4) 48 .e0) .e0))) (.sq (.ex (.mt (.ar (.lo 0) 4) 47 (.ec (.ar (.lo 1) 17) .e0))) (.sq (.ie (.cp .eq (.lo 3) (.li (.str 55))) (.sq (.ex (.mt (.lo 0) 76 (.ec (.lo 4) (.ec (.nw (.gb 106 (.cls 506)) (.ec (.gb 101 (.str 23)) (.ec (.lo 2) (.ec (.lo 5) (.ec (.lo 6) .e0))))) .e0)))) (.re (.li .none))) .sk) (.sq (.st 7 (.nw (.gb 106 (.cls 506)) (.ec (.gb 100 (.str 24)) (.ec (.lo 2) (.ec (.lo 5) (.ec (.lo 6) .e0)))))) (.ie (.cp .eq (.lo 3) (.li (.str 53))) (.ex (.mt (.lo 0) 73 (.ec (.sb (.lo 4) (.li (.int 0))) (.ec (.sb (.lo 4) (.li (.int 1))) (.ec (.lo 7) .e0))))) (.ie (.cp .eq (.lo 3) (.li (.str 54))) (.ex (.mt (.lo 0) 74 (.ec (.sb (.lo 4) (.li (.int 0))) (.ec (.sb (.lo 4) (.li (.int 1))) (.ec (.lo 7) .e0))))) (.ex (.mt (.lo 0) 75 (.ec (.lo 4) (.ec (.lo 7) .e0))))))))))
noncomputable def b754:S:=.sq (.ex (.mt (.ar (.lo 0) 24) 83 (.ec (.lo 2) .e0))) (.sq (.ex (.mt (.lo 0) 65 (.ec (.ls .f (.ec (.lo 1) .e0)) .e0))) (.ex (.mt (.ar (.lo 0) 24) 84 .e0)))
noncomputable def b761:S:=.sq (.ex (.mt (.ar (.lo 0) 4) 54 (.ec (.ar (.lo 3) 29) .e0))) (.sq (.ex (.ca (.gb 113 (.fn 557)) (.ec (.ar (.lo 0) 4) (.ec (.lo 1) (.ec (.ar (.lo 3) 28) (.ec (.li (.bool false)) (.ec (.bm (.lo 0) 64) .e0))))))) (.sq (.ex (.mt (.lo 0) 72 (.ec (.lo 2) (.ec (.lo 3) .e0)))) (.sq (.ex (.mt (.ar (.lo 0) 4) 53 (.ec (.gb 57 (.int 58)) (.ec (.ar (.lo 3) 29) .e0)))) (.ex (.mt (.ar (.lo 0) 4) 54 (.ec (.ar (.lo 3) 28) .e0))))))
noncomputable def b768:S:=.sq (.st 4 (.mt (.ar (.lo 0) 4) 48 .e0)) (.sq (.ex (.mt (.ar (.lo 0) 4) 54 (.ec (.lo 4) .e0))) (.sq (.ex (.mt (.lo 0) 72 (.ec (.lo 1) (.ec (.lo 3) .e0)))) (.sq (.ex (.mt (.ar (.lo 0) 4) 54 (.ec (.ar (.lo 3) 29) .e0))) (.sq (.ex (.ca (.gb 113 (.fn 557)) (.ec (.ar (.lo 0) 4) (.ec (.lo 2) (.ec (.lo 4) (.ec (.li (.bool true)) (.ec (.bm (.lo 0) 64) .e0))))))) (.ex (.mt (.ar (.lo 0) 4) 54 (.ec (.ar (.lo 3) 28) .e0)))))))
noncomputable def b775:S:=.sq (.up [.loc 3,.loc 4,.loc 5,.loc 6] (.lo 1)) (.sq (.ie (.bo true false (.cp .isn (.lo 3) (.li .none)) (.cp .eq (.ar (.lo 3) 26) (.li (.str 42)))) (.ex (.mt (.lo 0) 68 (.ec (.sb (.ar (.lo 3) 30) (.li (.int 0))) .e0))) (.ie (.cp .isn (.lo 3) (.li .none)) (.sq (.ex (.mt (.lo 0) 64 (.ec (.lo 3) .e0))) (.ex (.mt (.ar (.lo 0) 4) 50 (.ec (.gb 7 (.int 6)) .e0)))) .sk)) (.sq (.st 7 (.mt (.ar (.lo 0) 4) 48 .e0)) (.sq (.ex (.mt (.ar (.lo 0) 4) 54 (.ec (.lo 7) .e0))) (.sq (.ie (.cp .isn (.lo 4) (.li .none)) (.ex (.ca (.gb 113 (.fn 557)) (.ec (.ar (.lo 0) 4) (.ec (.lo 4) (.ec (.ar (.lo 2) 28) (.ec (.li (.bool false)) (.ec (.bm (.lo 0) 64) .e0))))))) .sk) (.sq (.ex (.mt (.lo 0) 72 (.ec (.lo 6) (.ec (.lo 2) .e0)))) (.sq (.ex (.mt (.ar (.lo 0) 4) 54 (.ec (.ar (.lo 2) 29) .e0))) (.sq (.ie (.cp .isn (.lo 5) (.li .none)) (.sq (.ex (.mt (.lo 0) 64 (.ec (.lo 5) .e0))) (.ex (.mt (.ar (.lo 0) 4) 50 (.ec (.gb 7 (.int 6)) .e0)))) .sk) (.sq (.ex (.mt (.ar (.lo 0) 4) 53 (.ec (.gb 57 (.int 58)) (.ec (.lo 7) .e0)))) (.ex (.mt (.ar (.lo 0) 4) 54 (.ec (.ar (.lo 2) 28) .e0)))))))))))
noncomputable def b782:S:=.sq (.up [.loc 3,.loc 4,.loc 5] (.lo 1)) (.sq (.ie (.cp .eq (.ar (.lo 3) 26) (.li (.str 42))) (.ex (.mt (.lo 0) 68 (.ec (.sb (.ar (.lo 3) 30) (.li (.int 0))) .e0))) .sk) (.sq (.ex (.mt (.lo 0) 64 (.ec (.lo 4) .e0))) (.sq (.ex (.mt (.ar (.lo 0) 4) 50 (.ec (.gb 75 (.int 76)) .e0))) (.sq (.ex (.mt (.ar (.lo 0) 4) 54 (.ec (.ar (.lo 2) 29) .e0))) (.sq (.ex (.mt (.ar (.lo 0) 4) 53 (.ec (.gb 76 (.int 77)) (.ec (.ar (.lo 2) 28) .e0)))) (.sq (.ex (.mt (.lo 0) 77 (.ec (.lo 3) .e0))) (.sq (.ex (.mt (.lo 0) 72 (.ec (.lo 5) (.ec (.lo 2) .e0)))) (.sq (.ex (.mt (.ar (.lo 0) 4) 53 (.ec (.gb 57 (.int 58)) (.ec (.ar (.lo 2) 29) .e0)))) (.sq (.ex (.mt (.ar (.lo 0) 4) 54 (.ec (.ar (.lo 2) 28) .e0))) (.ex (.mt (.ar (.lo 0) 4) 50 (.ec (.gb 7 (.int 6)) .e0))))))))))))
noncomputable def b789:S:=.sq (.ie (.cp .eq (.ar (.lo 1) 26) (.li (.str 42))) (.ex (.mt (.lo 0) 60 (.ec (.sb (.sb (.sb (.ar (.lo 1) 30) (.li (.int 0))) (.li (.int 0))) (.li (.int 0))) .e0))) (.ie (.cp .eq (.ar (.lo 1) 26) (.li (.str 34))) (.ex (.mt (.lo 0) 60 (.ec (.sb (.ar (.lo 1) 30) (.li (.int 0))) .e0))) (.ie (.cp .eq (.ar (.lo 1) 26) (.li (.str 36))) (.sq (.ex (.mt (.lo 0) 64 (.ec (.sb (.ar (.lo 1) 30) (.li (.int 0))) .e0))) (.sq (.ex (.mt (.ar (.lo 0) 4) 50 (.ec (.gb 10 (.int 9)) .e0))) (.ex (.mt (.ar (.lo 0) 4) 52 (.ec (.gb 23 (.int 24)) (.ec (.sb (.ar (.lo 1) 30) (.li (.int 1))) .e0)))))) (.sq (.ex (.mt (.lo 0) 89 (.ec (.lo 1) .e0))) (.sq (.ex (.mt (.ar (.lo 0) 4) 50 (.ec (.gb 11 (.int 10)) .e0))) (.sq (.ex (.mt (.ar (.lo 0) 4) 50 (.ec (.gb 11 (.int 10)) .e0))) (.ex (.mt (.ar (.lo 0) 4) 50 (.ec (.gb 25 (.int 26)) .e0))))))))) (.ex (.mt (.ar (.lo 0) 4) 50 (.ec (.gb 7 (.int 6)) .e0)))
noncomputable def b796:S:=.sq (.ie (.cp .is (.lo 1) (.li .none)) (.ex (.mt (.ar (.lo 0) 4) 50 (.ec (.gb 1 (.int 0)) .e0))) (.ex (.mt (.lo 0) 64 (.ec (.lo 1) .e0)))) (.sq (.ie (.ca (.gb 112 (.fn 550)) (.ec (.ar (.lo 0) 24) .e0)) (.sq (.st 2 (.mt (.lo 0) 57 .e0)) (.sq (.ex (.mt (.lo 0) 61 (.ec (.lo 2) .e0))) (.sq (.ex (.ca (.gb 107 (.fn 517)) (.ec (.ar (.lo 0) 4) (.ec (.ar (.lo 0) 24) (.ec (.li (.int 0)) .e0))))) (.ex (.mt (.ar (.lo 0) 4) 50 (.ec (.gb 12 (.int 11)) (.ec (.lo 2) .e0))))))) .sk) (.ex (.mt (.ar (.lo 0) 4) 50 (.ec (.gb 64 (.int 65)) .e0))))
noncomputable def b803:S:=.sq (.up [.loc 2,.loc 3,.loc 4,.loc 5] (.ar (.lo 1) 30)) (.sq (.sw [6,7,8] (.ec (.mt (.ar (.lo 0) 4) 48 .e0) (.ec (.mt (.ar (.lo 0) 4) 48 .e0) (.ec (.ar (.ar (.lo 0) 4) 20) .e0)))) (.sq (.st 9 (.mt (.lo 0) 80 .e0)) (.sq (.sw [10,11] (.ec (.mt (.ar (.lo 0) 4) 56 .e0) (.ec (.mt (.ar (.ar (.lo 0) 4) 19) 36 .e0) .e0))) (.sq (.ie (.cp .isn (.lo 5) (.li .none)) (.ex (.mt (.ar (.lo 0) 24) 83 (.ec (.nw (.gb 106 (.cls 506)) (.ec (.gb 104 (.str 25)) (.ec (.ls .f .e0) (.ec (.lo 7) (.ec (.li .none) .e0))))) .e0))) .sk) (.sq (.ex (.mt (.lo 0) 65 (.ec (.lo 2) .e0))) (.sq (.sw [12,13] (.ec (.mt (.ar (.lo 0) 4) 56 .e0) (.ec (.cp .eq (.mt (.ar (.ar (.lo 0) 4) 19) 36 .e0) (.lo 11)) .e0))) (.sq (.ex (.mt (.lo 0) 81 (.ec (.lo 5) (.ec (.lo 7) (.ec (.lo 6) .e0))))) (.sq (.ie (.bo true false (.cp .isn (.lo 4) (.li .none)) (.ng (.lo 13))) (.sq (.ex (.mt (.lo 0) 34 (.ec (.lo 1) (.ec (.lo 10) (.ec (.lo 12) (.ec (.lo 8) (.ec (.lo 9) .e0))))))) (.ex (.mt (.lo 0) 81 (.ec (.lo 5) (.ec (.lo 7) (.ec (.lo 6) .e0)))))) .sk) (.sq (.ie (.cp .isn (.lo 5) (.li .none)) (.sq (.ex (.mt (.ar (.lo 0) 24) 84 .e0)) (.sq (.ex (.mt (.ar (.ar (.lo 0) 4) 19) 41 (.ec (.lo 10) (.ec (.mt (.ar (.lo 0) 4) 56 .e0) (.ec (.lo 7) (.ec (.lo 8) (.ec (.li (.bool true)) .e0))))))) (.sq (.ex (.mt (.ar (.lo 0) 4) 55 (.ec (.lo 7) (.ec (.bn .add (.lo 8) (.li (.int 2))) .e0)))) (.ex (.mt (.lo 0) 82 (.ec (.lo 5) (.ec (.lo 9) .e0))))))) .sk) (.ex (.mt (.ar (.lo 0) 4) 54 (.ec (.lo 6) .e0))))))))))))
noncomputable def b810:S:=.sq (.ie (.cp .is (.ar (.lo 0) 25) (.li .none)) (.re (.li .none)) .sk) (.sq (.st 1 (.mt (.lo 0) 57 .e0)) (.sq (.ex (.mt (.lo 0) 62 (.ec (.ar (.lo 0) 25) (.ec (.lo 1) .e0)))) (.re (.lo 1))))
noncomputable def b817:S:=.sq (.ie (.cp .isn (.lo 1) (.li .none)) (.ex (.mt (.ar (.lo 0) 4) 53 (.ec (.gb 77 (.int 78)) (.ec (.lo 2) .e0)))) .sk) (.ex (.mt (.ar (.lo 0) 4) 53 (.ec (.gb 57 (.int 58)) (.ec (.lo 3) .e0))))
noncomputable def b824:S:=.sq (.sw [6,7] (.ec (.mt (.ar (.lo 0) 4) 48 .e0) (.ec (.ar (.lo 1) 22) .e0))) (.sq (.ex (.mt (.ar (.ar (.lo 0) 4) 19) 41 (.ec (.lo 2) (.ec (.lo 3) (.ec (.lo 6) (.ec (.lo 4) (.ec (.li (.bool false)) .e0))))))) (.sq (.ex (.mt (.ar (.lo 0) 4) 55 (.ec (.lo 6) (.ec (.bn .add (.lo 4) (.li (.int 1))) .e0)))) (.sq (.st 8 (.ar (.ar (.lo 7) 34) 35)) (.sq (.ie (.cp .eq (.sb (.lo 8) (.li (.int 0))) (.li (.str 56))) (.ex (.mt (.ar (.lo 0) 4) 50 (.ec (.gb 18 (.int 17)) (.ec (.sb (.lo 8) (.li (.int 1))) .e0)))) .sk) (.sq (.ex (.mt (.lo 0) 59 (.ec (.lo 8) .e0))) (.sq (.ex (.mt (.ar (.lo 0) 4) 50 (.ec (.gb 7 (.int 6)) .e0))) (.sq (.ie (.cp .isn (.lo 5) (.li .none)) (.ex (.mt (.lo 0) 62 (.ec (.lo 5) (.ec (.ar (.lo 0) 25) .e0)))) .sk) (.sq (.st 9 (.ar (.lo 0) 23)) (.sq (.sa (.lo 0) 23 (.lo 7)) (.sq (.ex (.mt (.lo 0) 65 (.ec (.sb (.ar (.lo 1) 30) (.li (.int 2))) .e0))) (.sa (.lo 0) 23 (.lo 9))))))))))))
noncomputable def b831:S:=.sq (.st 3 (.mt (.lo 0) 80 .e0)) (.sq (.ie (.cp .isn (.lo 2) (.li .none)) (.ex (.mt (.lo 0) 62 (.ec (.lo 2) (.ec (.ar (.lo 0) 25) .e0)))) .sk) (.sq (.ex (.mt (.ar (.lo 0) 24) 83 (.ec (.nw (.gb 106 (.cls 506)) (.ec (.gb 105 (.str 26)) (.ec (.ls .f .e0) (.ec (.li .none) (.ec (.li .none) .e0))))) .e0))) (.sq (.ex (.mt (.lo 0) 65 (.ec (.lo 1) .e0))) (.sq (.ex (.mt (.ar (.lo 0) 24) 84 .e0)) (.sq (.ie (.cp .isn (.lo 3) (.li .none)) (.ex (.mt (.lo 0) 62 (.ec (.lo 3) (.ec (.ar (.lo 0) 25) .e0)))) .sk) (.ex (.mt (.ar (.lo 0) 4) 50 (.ec (.gb 78 (.int 79)) .e0))))))))
noncomputable def b850:S:=.sq (.sa (.lo 0) 26 (.lo 1)) (.sq (.sa (.lo 0) 17 (.lo 2)) (.sq (.sa (.lo 0) 30 (.lo 3)) (.sa (.lo 0) 22 (.li .none))))
noncomputable def b864:S:=.sq (.ie (.cp .gt (.bu .len (.ec (.sb (.lo 0) (.li (.int 0))) .e0)) (.li (.int 0))) (.re (.bn .mod (.bu .abs (.ec (.mt (.sb (.lo 0) (.li (.int 0))) 84 (.ec (.li (.int 0)) .e0)) .e0)) (.lo 1))) .sk) (.sq (.si (.lo 0) (.li (.int 1)) (.bn .mod (.bn .add (.bn .mul (.sb (.lo 0) (.li (.int 1))) (.li (.int 48271))) (.li (.int 17))) (.li (.int 2147483647)))) (.re (.bn .mod (.bn .div (.sb (.lo 0) (.li (.int 1))) (.li (.int 8))) (.lo 1))))
noncomputable def b871:S:=.re (.nw (.gb 123 (.cls 853)) (.ec (.li (.str 34)) (.ec (.li (.int 1)) (.ec (.ls .f (.ec (.sb (.ls .f (.ec (.li (.str 20)) (.ec (.li (.str 58)) (.ec (.li (.str 3)) (.ec (.li (.str 57)) .e0))))) (.ca (.gb 124 (.fn 864)) (.ec (.lo 0) (.ec (.ie (.lo 1) (.li (.int 4)) (.li (.int 3))) .e0)))) .e0)) .e0))))
noncomputable def b876:S:=.re (.cm .f 1 (.loc 3) .range1 (.ec (.bn .add (.li (.int 1)) (.ca (.gb 124 (.fn 864)) (.ec (.lo 0) (.ec (.li (.int 2)) .e0)))) .e0) .e0 (.ca (.gb 127 (.fn 883)) (.ec (.lo 0) (.ec (.lo 1) (.ec (.lo 2) .e0)))))
noncomputable def b883:S:=.sq (.up [.loc 3,.loc 4,.loc 5] (.lo 2)) (.sq (.st 6 (.ie (.cp .gt (.lo 1) (.li (.int 0))) (.ca (.gb 124 (.fn 864)) (.ec (.lo 0) (.ec (.li (.int 14)) .e0))) (.li (.int 0)))) (.sq (.ie (.cp .lt (.lo 6) (.li (.int 2))) (.re (.nw (.gb 123 (.cls 853)) (.ec (.li (.str 41)) (.ec (.li (.int 1)) (.ec (.ls .f (.ec (.ca (.gb 125 (.fn 871)) (.ec (.lo 0) (.ec (.lo 5) .e0))) .e0)) .e0))))) .sk) (.sq (.ie (.cp .eq (.lo 6) (.li (.int 2))) (.re (.nw (.gb 123 (.cls 853)) (.ec (.li (.str 42)) (.ec (.li (.int 1)) (.ec (.ls .f (.ec (.ls .f (.ec (.tp (.ec (.li (.str 60)) (.ec (.ca (.gb 125 (.fn 871)) (.ec (.lo 0) (.ec (.lo 5) .e0))) .e0))) (.ec (.tp (.ec (.li (.str 59)) (.ec (.li .none) .e0))) .e0))) .e0)) .e0))))) .sk) (.sq (.ie (.cp .eq (.lo 6) (.li (.int 3))) (.sq (.st 7 (.sb (.ls .f (.ec (.li .none) (.ec (.ca (.gb 127 (.fn 883)) (.ec (.lo 0) (.ec (.bn .sub (.lo 1) (.li (.int 1))) (.ec (.lo 2) .e0)))) .e0))) (.ca (.gb 124 (.fn 864)) (.ec (.lo 0) (.ec (.li (.int 2)) .e0))))) (.re (.nw (.gb 123 (.cls 853)) (.ec (.li (.str 44)) (.ec (.li (.int 1)) (.ec (.ls .f (.ec (.ca (.gb 125 (.fn 871)) (.ec (.lo 0) (.ec (.li (.bool false)) .e0))) (.ec (.ca (.gb 127 (.fn 883)) (.ec (.lo 0) (.ec (.bn .sub (.lo 1) (.li (.int 1))) (.ec (.lo 2) .e0)))) (.ec (.lo 7) .e0)))) .e0)))))) .sk) (.sq (.ie (.cp .lt (.lo 6) (.li (.int 7))) (.re (.ca (.gb 128 (.fn 890)) (.ec (.lo 0) (.ec (.lo 1) (.ec (.lo 2) (.ec (.lo 6) .e0)))))) .sk) (.sq (.ie (.cp .lt (.lo 6) (.li (.int 10))) (.re (.ca (.gb 129 (.fn 897)) (.ec (.lo 0) (.ec (.lo 1) (.ec (.lo 2) .e0))))) .sk) (.sq (.ie (.cp .eq (.lo 6) (.li (.int 10))) (.sq (.sw [8,9] (.ec (.ls .d .e0) (.ec (.ca (.gb 124 (.fn 864)) (.ec (.lo 0) (.ec (.li (.int 3)) .e0))) .e0))) (.sq (.fo (.loc 10) .range1 (.ec (.li (.int 2)) .e0) (.sq (.st 11 (.ie (.cp .eq (.lo 10) (.lo 9)) (.li .none) (.ca (.gb 125 (.fn 871)) (.ec (.lo 0) (.ec (.li (.bool false)) .e0))))) (.ex (.mt (.lo 8) 83 (.ec (.tp (.ec (.lo 11) (.ec (.ca (.gb 126 (.fn 876)) (.ec (.lo 0) (.ec (.bn .sub (.lo 1) (.li (.int 1))) (.ec (.lo 2) .e0)))) .e0))) .e0))))) (.re (.nw (.gb 123 (.cls 853)) (.ec (.li (.str 49)) (.ec (.li (.int 1)) (.ec (.ls .f (.ec (.ca (.gb 125 (.fn 871)) (.ec (.lo 0) (.ec (.li (.bool false)) .e0))) (.ec (.fz 90 (.lo 8)) .e0))) .e0))))))) .sk) (.sq (.ie (.bo true false (.cp .eq (.lo 6) (.li (.int 11))) (.cp .ne (.lo 3) (.ls .f .e0))) (.re (.nw (.gb 123 (.cls 853)) (.ec (.sb (.ls .f (.ec (.li (.str 46)) (.ec (.li (.str 47)) .e0))) (.ca (.gb 124 (.fn 864)) (.ec (.lo 0) (.ec (.li (.int 2)) .e0)))) (.ec (.li (.int 1)) (.ec (.ls .f (.ec (.sb (.ls .f (.ec (.li .none) (.ec (.sb (.lo 3) (.li (.int 0))) (.ec (.sb (.lo 3) (.li (.int (-1)))) .e0)))) (.ca (.gb 124 (.fn 864)) (.ec (.lo 0) (.ec (.li (.int 3)) .e0)))) .e0)) .e0))))) .sk) (.sq (.ie (.cp .eq (.lo 6) (.li (.int 12))) (.sq (.ie (.cp .eq (.ca (.gb 124 (.fn 864)) (.ec (.lo 0) (.ec (.li (.int 2)) .e0))) (.li (.int 0))) (.re (.nw (.gb 123 (.cls 853)) (.ec (.li (.str 45)) (.ec (.li (.int 1)) (.ec (.ls .f (.ec (.sb (.ls .f (.ec (.li .none) (.ec (.ca (.gb 125 (.fn 871)) (.ec (.lo 0) (.ec (.lo 5) .e0))) .e0))) (.ca (.gb 124 (.fn 864)) (.ec (.lo 0) (.ec (.li (.int 2)) .e0)))) .e0)) .e0))))) .sk) (.re (.nw (.gb 123 (.cls 853)) (.ec (.li (.str 48)) (.ec (.li (.int 1)) (.ec (.ls .f (.ec (.nw (.gb 123 (.cls 853)) (.ec (.li (.str 32)) (.ec (.li (.int 1)) (.ec (.ls .f (.ec (.ca (.gb 124 (.fn 864)) (.ec (.lo 0) (.ec (.li (.int 3)) .e0))) .e0)) .e0)))) .e0)) .e0)))))) .sk) (.sq (.ie (.bo true false (.cp .eq (.lo 6) (.li (.int 13))) (.cp .ne (.lo 4) (.ls .f .e0))) (.re (.nw (.gb 123 (.cls 853)) (.ec (.li (.str 46)) (.ec (.li (.int 1)) (.ec (.ls .f (.ec (.sb (.lo 4) (.ca (.gb 124 (.fn 864)) (.ec (.lo 0) (.ec (.bu .len (.ec (.lo 4) .e0)) .e0)))) .e0)) .e0))))) .sk) (.sq (.st 12 (.bn .add (.li (.str 6)) (.bu .str (.ec (.bu .len (.ec (.lo 4) .e0)) .e0)))) (.sq (.st 13 (.nw (.gb 123 (.cls 853)) (.ec (.li (.str 43)) (.ec (.li (.int 1)) (.ec (.ls .f (.ec (.ca (.gb 126 (.fn 876)) (.ec (.lo 0) (.ec (.bn .sub (.lo 1) (.li (.int 1))) (.ec (.tp (.ec (.lo 3) (.ec (.bn .add (.lo 4) (.ls .f (.ec (.lo 12) .e0))) (.ec (.lo 5) .e0)))) .e0)))) .e0)) .e0))))) (.re (.nw (.gb 123 (.cls 853)) (.ec (.li (.str 51)) (.ec (.li (.int 1)) (.ec (.ls .f (.ec (.lo 12) (.ec (.lo 13) .e0))) .e0)))))))))))))))))
noncomputable def b890:S:=.sq (.up [.loc 4,.loc 5,.loc 6] (.lo 2)) (.sq (.st 7 (.bn .add (.li (.str 5)) (.bu .str (.ec (.bu .len (.ec (.lo 5) .e0)) .e0)))) (.sq (.st 8 (.ca (.gb 127 (.fn 883)) (.ec (.lo 0) (.ec (.bn .sub (.lo 1) (.li (.int 1))) (.ec (.tp (.ec (.bn .add (.lo 4) (.ls .f (.ec (.lo 7) .e0))) (.ec (.bn .add (.lo 5) (.ls .f (.ec (.lo 7) .e0))) (.ec (.lo 6) .e0)))) .e0))))) (.sq (.st 9 (.ca (.gb 125 (.fn 871)) (.ec (.lo 0) (.ec (.li (.bool false)) .e0)))) (.sq (.ie (.cp .eq (.lo 3) (.li (.int 4))) (.st 10 (.nw (.gb 123 (.cls 853)) (.ec (.li (.str 53)) (.ec (.li (.int 1)) (.ec (.ls .f (.ec (.lo 9) (.ec (.lo 8) .e0))) .e0))))) (.ie (.cp .eq (.lo 3) (.li (.int 6))) (.sq (.st 11 (.sb (.ls .f (.ec (.nw (.gb 123 (.cls 853)) (.ec (.li (.str 34)) (.ec (.li (.int 1)) (.ec (.ls .f (.ec (.li (.str 60)) .e0)) .e0)))) (.ec (.nw (.gb 123 (.cls 853)) (.ec (.li (.str 42)) (.ec (.li (.int 1)) (.ec (.ls .f (.ec (.ls .f (.ec (.tp (.ec (.li (.str 59)) (.ec (.li .none) .e0))) .e0)) .e0)) .e0)))) .e0))) (.ca (.gb 124 (.fn 864)) (.ec (.lo 0) (.ec (.li (.int 2)) .e0))))) (.st 10 (.nw (.gb 123 (.cls 853)) (.ec (.li (.str 55)) (.ec (.li (.int 1)) (.ec (.ls .f (.ec (.lo 11) (.ec (.lo 9) (.ec (.lo 8) .e0)))) .e0)))))) (.ie (.cp .eq (.ca (.gb 124 (.fn 864)) (.ec (.lo 0) (.ec (.li (.int 2)) .e0))) (.li (.int 0))) (.st 10 (.nw (.gb 123 (.cls 853)) (.ec (.li (.str 54)) (.ec (.li (.int 1)) (.ec (.ls .f (.ec (.lo 8) (.ec (.lo 9) .e0))) .e0))))) (.st 10 (.nw (.gb 123 (.cls 853)) (.ec (.li (.str 61)) (.ec (.li (.int 1)) (.ec (.ls .f (.ec (.sb (.ls .f (.ec (.li .none) (.ec (.ca (.gb 125 (.fn 871)) (.ec (.lo 0) (.ec (.li (.bool false)) .e0))) .e0))) (.ca (.gb 124 (.fn 864)) (.ec (.lo 0) (.ec (.li (.int 2)) .e0)))) (.ec (.lo 9) (.ec (.ca (.gb 125 (.fn 871)) (.ec (.lo 0) (.ec (.li (.bool false)) .e0))) (.ec (.lo 8) .e0))))) .e0)))))))) (.re (.nw (.gb 123 (.cls 853)) (.ec (.li (.str 51)) (.ec (.li (.int 1)) (.ec (.ls .f (.ec (.lo 7) (.ec (.lo 10) .e0))) .e0)))))))))
noncomputable def b897:S:=.sq (.up [.loc 3,.loc 4,.loc 5] (.lo 2)) (.sq (.sw [6,7] (.ec (.ca (.gb 124 (.fn 864)) (.ec (.lo 0) (.ec (.li (.int 3)) .e0))) (.ec (.ca (.gb 126 (.fn 876)) (.ec (.lo 0) (.ec (.bn .sub (.lo 1) (.li (.int 1))) (.ec (.lo 2) .e0)))) .e0))) (.sq (.st 8 (.ie (.cp .ne (.lo 6) (.li (.int 1))) (.ca (.gb 126 (.fn 876)) (.ec (.lo 0) (.ec (.bn .sub (.lo 1) (.li (.int 1))) (.ec (.tp (.ec (.lo 3) (.ec (.lo 4) (.ec (.li (.bool true)) .e0)))) .e0)))) (.li .none))) (.sq (.st 9 (.ie (.cp .ne (.lo 6) (.li (.int 0))) (.ca (.gb 126 (.fn 876)) (.ec (.lo 0) (.ec (.bn .sub (.lo 1) (.li (.int 1))) (.ec (.lo 2) .e0)))) (.li .none))) (.sq (.st 10 (.ca (.gb 123 (.cls 853)) (.ec (.li (.str 50)) (.ec (.li (.int 1)) (.ec (.ls .f (.ec (.lo 7) (.ec (.ie (.cp .ne (.lo 6) (.li (.int 1))) (.li (.str 57)) (.li .none)) (.ec (.lo 8) (.ec (.lo 9) .e0))))) .e0))))) (.sq (.sa (.lo 10) 22 (.ca (.gb 130 (.fn 904)) (.ec (.li (.int 9)) .e0))) (.re (.fz 90 (.lo 10))))))))
noncomputable def b904:S:=.sq (.st 1 (.ca (.gb 123 (.cls 853)) (.ec (.li (.str 65)) (.ec (.li (.int 0)) (.ec (.ls .f .e0) .e0))))) (.sq (.up [.attr 1 3,.attr 1 12,.attr 1 9,.attr 1 31] (.tp (.ec (.ls .f .e0) (.ec (.li (.bool false)) (.ec (.bn .add (.lo 0) (.li (.int 1))) (.ec (.li (.str 64)) .e0)))))) (.sq (.sa (.lo 1) 32 (.lm 0)) (.sq (.sa (.lo 1) 33 (.lm 1)) (.sq (.sa (.lo 1) 34 (.ca (.gb 123 (.cls 853)) (.ec (.li (.str 63)) (.ec (.li (.int 0)) (.ec (.ls .f .e0) .e0))))) (.sq (.sa (.ar (.lo 1) 34) 35 (.tp (.ec (.li (.str 62)) (.ec (.li (.int 9)) .e0)))) (.re (.fz 34 (.lo 1))))))))
noncomputable def b911:S:=.sq (.ex (.mt (.sb (.lo 0) (.li (.str 67))) 83 (.ec (.tp (.ec (.li (.str 68)) (.ec (.lo 1) .e0))) .e0))) (.sq (.ie (.cp .eq (.lo 1) (.li (.str 57))) (.re (.tp (.ec (.sb (.lo 0) (.li (.str 57))) (.ec (.li .none) .e0)))) .sk) (.sq (.st 2 (.ie (.cp .ne (.sb (.lo 0) (.li (.str 66))) (.ls .f .e0)) (.mt (.sb (.lo 0) (.li (.str 66))) 84 (.ec (.li (.int 0)) .e0)) (.li (.str 0)))) (.re (.ie (.cp .eq (.lo 1) (.li (.str 3))) (.tp (.ec (.li .none) (.ec (.bn .add (.li (.str 3)) (.lo 2)) .e0))) (.tp (.ec (.lo 2) (.ec (.li .none) .e0)))))))
noncomputable def b918:S:=.re (.ie (.cp .eq (.ar (.lo 1) 26) (.li (.str 32))) (.tp (.ec (.bu .str (.ec (.sb (.ar (.lo 1) 30) (.li (.int 0))) .e0)) (.ec (.li .none) .e0))) (.ca (.gb 131 (.fn 911)) (.ec (.lo 0) (.ec (.sb (.ar (.lo 1) 30) (.li (.int 0))) .e0))))
noncomputable def b925:S:=.sq (.fo (.loc 2) .over (.ec (.lo 1) .e0) (.sq (.st 3 (.ca (.gb 140 (.fn 972)) (.ec (.lo 0) (.ec (.lo 2) (.ec (.ls .f .e0) .e0))))) (.ie (.cp .isn (.lo 3) (.li .none)) (.re (.lo 3)) .sk))) (.re (.li .none))
noncomputable def b932:S:=.re (.bo true false (.cp .isn (.lo 0) (.li .none)) (.bo false false (.cp .ne (.sb (.lo 0) (.li (.int 0))) (.li (.str 47))) (.bo true false (.cp .isn (.sb (.lo 0) (.li (.int 1))) (.li .none)) (.cp .nin (.sb (.lo 0) (.li (.int 1))) (.lo 1)))))
noncomputable def b939:S:=.sq (.ie (.bo true true (.cp .isn (.lo 0) (.li .none)) (.bo true false (.cp .eq (.sb (.lo 0) (.li (.int 0))) (.li (.str 46))) (.bo false false (.cp .is (.sb (.lo 0) (.li (.int 1))) (.li .none)) (.cp .inn (.sb (.lo 0) (.li (.int 1))) (.lo 1))))) (.re (.li .none)) .sk) (.re (.lo 0))
noncomputable def b946:S:=.sq (.sw [3,4] (.ec (.ar (.lo 1) 26) (.ec (.ar (.lo 1) 30) .e0))) (.sq (.ie (.cp .eq (.lo 3) (.li (.str 55))) (.re (.ca (.gb 137 (.fn 953)) (.ec (.lo 0) (.ec (.lo 4) (.ec (.lo 2) .e0))))) .sk) (.sq (.ie (.bo true false (.cp .eq (.lo 3) (.li (.str 61))) (.cp .isn (.sb (.lo 4) (.li (.int 0))) (.li .none))) (.sq (.up [.loc 5,.loc 6] (.ca (.gb 132 (.fn 918)) (.ec (.lo 0) (.ec (.sb (.lo 4) (.li (.int 0))) .e0)))) (.ie (.cp .isn (.lo 6) (.li .none)) (.re (.tp (.ec (.li (.str 48)) (.ec (.lo 6) .e0)))) .sk)) .sk) (.sq (.st 7 (.sb (.dc .f [53,54,61] (.ec (.li (.int 0)) (.ec (.li (.int 1)) (.ec (.li (.int 1)) .e0)))) (.lo 3))) (.sq (.st 8 (.cp .eq (.lo 3) (.li (.str 54)))) (.wh (.li (.bool true)) (.sq (.ie (.ng (.lo 8)) (.sq (.up [.loc 5,.loc 6] (.ca (.gb 132 (.fn 918)) (.ec (.lo 0) (.ec (.sb (.lo 4) (.lo 7)) .e0)))) (.ie (.bo false false (.cp .isn (.lo 6) (.li .none)) (.cp .eq (.lo 5) (.li (.str 0)))) (.re (.ie (.cp .is (.lo 6) (.li .none)) (.li .none) (.tp (.ec (.li (.str 48)) (.ec (.lo 6) .e0))))) .sk)) .sk) (.sq (.st 8 (.li (.bool false))) (.sq (.st 9 (.ca (.gb 140 (.fn 972)) (.ec (.lo 0) (.ec (.sb (.lo 4) (.sb (.dc .f [53,54,61] (.ec (.li (.int 1)) (.ec (.li (.int 0)) (.ec (.li (.int 3)) .e0)))) (.lo 3))) (.ec (.ls .f .e0) .e0))))) (.sq (.ie (.ca (.gb 134 (.fn 932)) (.ec (.lo 9) (.ec (.lo 2) .e0))) (.re (.ca (.gb 135 (.fn 939)) (.ec (.lo 9) (.ec (.lo 2) .e0)))) .sk) (.ie (.cp .eq (.lo 3) (.li (.str 61))) (.sq (.up [.loc 5,.loc 6] (.ca (.gb 132 (.fn 918)) (.ec (.lo 0) (.ec (.sb (.lo 4) (.li (.int 2))) .e0)))) (.ie (.cp .isn (.lo 6) (.li .none)) (.re (.tp (.ec (.li (.str 48)) (.ec (.lo 6) .e0)))) .sk)) .sk))))))))))
noncomputable def b953:S:=.sq (.up [.loc 3,.loc 4] (.ca (.gb 132 (.fn 918)) (.ec (.lo 0) (.ec (.sb (.lo 1) (.li (.int 1))) .e0)))) (.sq (.ie (.cp .isn (.lo 4) (.li .none)) (.re (.tp (.ec (.li (.str 48)) (.ec (.lo 4) .e0)))) .sk) (.sq (.fo (.loc 5) .range1 (.ec (.bu .int (.ec (.lo 3) .e0)) .e0) (.sq (.st 6 (.ie (.cp .eq (.ar (.sb (.lo 1) (.li (.int 0))) 26) (.li (.str 42))) (.sb (.sb (.sb (.ar (.sb (.lo 1) (.li (.int 0))) 30) (.li (.int 0))) (.li (.int 0))) (.li (.int 0))) (.sb (.ar (.sb (.lo 1) (.li (.int 0))) 30) (.li (.int 0))))) (.sq (.ex (.mt (.sb (.lo 0) (.li (.str 67))) 83 (.ec (.tp (.ec (.li (.str 69)) (.ec (.lo 6) (.ec (.bn .add (.li (.str 4)) (.bu .str (.ec (.lo 5) .e0))) .e0)))) .e0))) (.sq (.st 7 (.ca (.gb 140 (.fn 972)) (.ec (.lo 0) (.ec (.sb (.lo 1) (.li (.int 2))) (.ec (.ls .f .e0) .e0))))) (.ie (.ca (.gb 134 (.fn 932)) (.ec (.lo 7) (.ec (.lo 2) .e0))) (.re (.ca (.gb 135 (.fn 939)) (.ec (.lo 7) (.ec (.lo 2) .e0)))) .sk))))) (.re (.li .none))))
noncomputable def b958:S:=.sq (.up [.loc 2,.loc 3] (.ca (.gb 132 (.fn 918)) (.ec (.lo 0) (.ec (.sb (.lo 1) (.li (.int 0))) .e0)))) (.sq (.st 4 (.li .none)) (.sq (.fo (.cons (.loc 5) (.cons (.loc 6) .nil)) .enum (.ec (.sb (.lo 1) (.li (.int 1))) .e0) (.ie (.bo true true (.cp .is (.lo 4) (.li .none)) (.bo true false (.cp .is (.lo 3) (.li .none)) (.cp .isn (.sb (.lo 6) (.li (.int 0))) (.li .none)))) (.sq (.up [.loc 7,.loc 3] (.ca (.gb 132 (.fn 918)) (.ec (.lo 0) (.ec (.sb (.lo 6) (.li (.int 0))) .e0)))) (.st 4 (.ie (.bo true false (.cp .is (.lo 3) (.li .none)) (.cp .eq (.lo 7) (.lo 2))) (.lo 5) (.li .none)))) .sk)) (.sq (.ie (.cp .isn (.lo 3) (.li .none)) (.re (.tp (.ec (.li (.str 48)) (.ec (.lo 3) .e0)))) .sk) (.sq (.st 8 (.cm .f 2 (.cons (.loc 10) (.cons (.loc 11) .nil)) .enum (.ec (.sb (.lo 1) (.li (.int 1))) .e0) (.cp .is (.sb (.lo 11) (.li (.int 0))) (.li .none)) (.lo 10))) (.sq (.st 4 (.ie (.bo true false (.cp .is (.lo 4) (.li .none)) (.cp .ne (.lo 8) (.ls .f .e0))) (.sb (.lo 8) (.li (.int 0))) (.lo 4))) (.sq (.st 9 (.ie (.cp .isn (.lo 4) (.li .none)) (.c2 2 (.loc 10) .over (.ec (.dp (.sb (.lo 1) (.li (.int 1))) (.lo 4)) .e0) (.loc 11) (.sb (.lo 10) (.li (.int 1))) (.lo 11)) (.ls .f .e0))) (.re (.ca (.gb 135 (.fn 939)) (.ec (.ca (.gb 133 (.fn 925)) (.ec (.lo 0) (.ec (.lo 9) .e0))) (.ec (.ls .f .e0) .e0))))))))))
noncomputable def b965:S:=.sq (.up [.loc 2,.loc 3,.loc 4,.loc 5] (.lo 1)) (.sq (.st 6 (.ca (.gb 133 (.fn 925)) (.ec (.lo 0) (.ec (.lo 2) .e0)))) (.sq (.ie (.bo true true (.cp .isn (.lo 6) (.li .none)) (.bo true false (.cp .eq (.sb (.lo 6) (.li (.int 0))) (.li (.str 48))) (.cp .isn (.lo 4) (.li .none)))) (.sq (.si (.lo 0) (.li (.str 57)) (.sb (.lo 6) (.li (.int 1)))) (.st 6 (.ca (.gb 133 (.fn 925)) (.ec (.lo 0) (.ec (.lo 4) .e0))))) .sk) (.sq (.st 7 (.ie (.cp .isn (.lo 5) (.li .none)) (.ca (.gb 133 (.fn 925)) (.ec (.lo 0) (.ec (.lo 5) .e0))) (.li .none))) (.re (.ie (.cp .is (.lo 7) (.li .none)) (.lo 6) (.lo 7))))))
noncomputable def b972:S:=.sq (.sw [3,4] (.ec (.ar (.lo 1) 26) (.ec (.ar (.lo 1) 30) .e0))) (.sq (.ie (.cp .inn (.lo 3) (.tp (.ec (.li (.str 46)) (.ec (.li (.str 47)) .e0)))) (.re (.tp (.ec (.lo 3) (.ec (.sb (.lo 4) (.li (.int 0))) .e0)))) .sk) (.sq (.ie (.cp .eq (.lo 3) (.li (.str 51))) (.sq (.st 5 (.ca (.gb 140 (.fn 972)) (.ec (.lo 0) (.ec (.sb (.lo 4) (.li (.int 1))) (.ec (.ls .f (.ec (.sb (.lo 4) (.li (.int 0))) .e0)) .e0))))) (.re (.ie (.bo false false (.cp .is (.lo 5) (.li .none)) (.cp .isn (.sb (.lo 5) (.li (.int 1))) (.li .none))) (.ca (.gb 135 (.fn 939)) (.ec (.lo 5) (.ec (.ls .f (.ec (.sb (.lo 4) (.li (.int 0))) .e0)) .e0))) (.lo 5)))) .sk) (.sq (.ie (.cp .inn (.lo 3) (.tp (.ec (.li (.str 53)) (.ec (.li (.str 54)) (.ec (.li (.str 61)) (.ec (.li (.str 55)) .e0)))))) (.re (.ca (.gb 136 (.fn 946)) (.ec (.lo 0) (.ec (.lo 1) (.ec (.lo 2) .e0))))) .sk) (.sq (.ie (.cp .eq (.lo 3) (.li (.str 43))) (.re (.ca (.gb 133 (.fn 925)) (.ec (.lo 0) (.ec (.sb (.lo 4) (.li (.int 0))) .e0)))) .sk) (.sq (.ie (.cp .eq (.lo 3) (.li (.str 49))) (.re (.ca (.gb 138 (.fn 958)) (.ec (.lo 0) (.ec (.lo 4) .e0)))) .sk) (.sq (.ie (.cp .eq (.lo 3) (.li (.str 50))) (.re (.ca (.gb 139 (.fn 965)) (.ec (.lo 0) (.ec (.lo 4) .e0)))) .sk) (.sq (.ie (.bo true false (.cp .eq (.lo 3) (.li (.str 45))) (.cp .is (.sb (.lo 4) (.li (.int 0))) (.li .none))) (.re (.tp (.ec (.li (.str 45)) (.ec (.li (.str 70)) .e0)))) .sk) (.sq (.up [.loc 6,.loc 7] (.ca (.gb 132 (.fn 918)) (.ec (.lo 0) (.ec (.ie (.cp .eq (.lo 3) (.li (.str 42))) (.sb (.sb (.sb (.lo 4) (.li (.int 0))) (.li (.int 0))) (.li (.int 1))) (.sb (.lo 4) (.li (.int 0)))) .e0)))) (.sq (.ie (.cp .isn (.lo 7) (.li .none)) (.re (.tp (.ec (.li (.str 48)) (.ec (.lo 7) .e0)))) .sk) (.sq (.ie (.bo false false (.cp .eq (.lo 3) (.li (.str 45))) (.cp .eq (.lo 3) (.li (.str 48)))) (.re (.tp (.ec (.lo 3) (.ec (.lo 6) .e0)))) .sk) (.sq (.ie (.cp .eq (.lo 3) (.li (.str 42))) (.ex (.mt (.sb (.lo 0) (.li (.str 67))) 83 (.ec (.tp (.ec (.li (.str 69)) (.ec (.li (.str 60)) (.ec (.lo 6) .e0)))) .e0))) .sk) (.sq (.ie (.cp .eq (.lo 3) (.li (.str 44))) (.sq (.st 8 (.ie (.cp .ne (.lo 6) (.li (.str 0))) (.sb (.lo 4) (.li (.int 1))) (.sb (.lo 4) (.li (.int 2))))) (.re (.ie (.cp .isn (.lo 8) (.li .none)) (.ca (.gb 140 (.fn 972)) (.ec (.lo 0) (.ec (.lo 8) (.ec (.ls .f .e0) .e0)))) (.li .none)))) .sk) (.re (.li .none))))))))))))))
noncomputable def b979:S:=.sq (.fo (.cons (.loc 4) (.cons (.loc 5) (.cons (.loc 6) (.cons (.loc 7) (.cons (.loc 8) .nil))))) .over (.ec (.ar (.lo 0) 7) .e0) (.ie (.ch (.lo 4) .le (.lo 1) .lt (.lo 5)) (.sq (.wh (.cp .gt (.bu .len (.ec (.lo 2) .e0)) (.lo 7)) (.ex (.mt (.lo 2) 84 .e0))) (.sq (.ex (.mt (.lo 2) 85 (.ec (.ie (.lo 8) (.ls .f (.ec (.lo 3) (.ec (.li (.int (-1))) .e0))) (.ls .f (.ec (.lo 3) .e0))) .e0))) (.re (.lo 6)))) .sk)) (.re (.li (.int (-1))))
noncomputable def b986:S:=.sq (.ie (.cp .eq (.lo 0) (.li (.str 74))) (.sq (.ex (.mt (.lo 2) 85 (.ec (.ls .f (.ec (.li (.str 70)) (.ec (.lo 3) .e0))) .e0))) (.re (.lo 1))) .sk) (.sq (.ie (.cp .eq (.lo 0) (.li (.str 73))) (.sq (.ie (.cp .eq (.sb (.lo 2) (.li (.int (-1)))) (.ls .f .e0)) (.re (.lo 1)) .sk) (.sq (.ex (.mt (.lo 2) 83 (.ec (.mt (.sb (.lo 2) (.li (.int (-1)))) 84 (.ec (.li (.int 0)) .e0)) .e0))) (.re (.lo 3)))) .sk) (.sq (.ie (.cp .eq (.lo 0) (.li (.str 72))) (.re (.lo 1)) .sk) (.re (.ie (.cp .eq (.cp .ne (.mt (.lo 2) 84 .e0) (.li (.str 0))) (.cp .eq (.lo 0) (.li (.str 71)))) (.lo 1) (.lo 3)))))
noncomputable def b991:S:=.sq (.st 5 (.li .none)) (.sq (.ie (.bo false false (.cp .eq (.lo 1) (.li (.str 75))) (.bo true false (.cp .eq (.lo 1) (.li (.str 76))) (.cp .eq (.lo 2) (.li (.int 9))))) (.sq (.up [.loc 6,.loc 5] (.ca (.gb 131 (.fn 911)) (.ec (.lo 0) (.ec (.ie (.cp .eq (.lo 1) (.li (.str 76))) (.li (.str 57)) (.sb (.ar (.lo 4) 5) (.lo 2))) .e0)))) (.ex (.mt (.lo 3) 83 (.ec (.lo 6) .e0)))) (.ie (.cp .eq (.lo 1) (.li (.str 76))) (.ex (.mt (.lo 3) 83 (.ec (.sb (.sb (.lo 0) (.li (.str 77))) (.lo 2)) .e0))) (.ie (.bo true false (.cp .eq (.lo 1) (.li (.str 78))) (.cp .eq (.lo 2) (.li (.int 9)))) (.si (.lo 0) (.li (.str 57)) (.sb (.lo 3) (.li (.int (-1))))) (.ie (.cp .eq (.lo 1) (.li (.str 78))) (.si (.sb (.lo 0) (.li (.str 77))) (.lo 2) (.sb (.lo 3) (.li (.int (-1))))) (.ie (.cp .eq (.lo 1) (.li (.str 79))) (.ex (.mt (.sb (.lo 0) (.li (.str 67))) 83 (.ec (.tp (.ec (.li (.str 69)) (.ec (.sb (.ar (.lo 4) 5) (.lo 2)) (.ec (.sb (.lo 3) (.li (.int (-1)))) .e0)))) .e0))) (.ie (.bo false false (.cp .eq (.lo 1) (.li (.str 80))) (.cp .eq (.lo 1) (.li (.str 70)))) (.ex (.mt (.lo 3) 83 (.ec (.ie (.cp .eq (.lo 1) (.li (.str 80))) (.bu .str (.ec (.sb (.ar (.lo 4) 5) (.lo 2)) .e0)) (.lo 1)) .e0))) (.ie (.cp .eq (.lo 1) (.li (.str 81))) (.ex (.mt (.lo 3) 83 (.ec (.sb (.lo 3) (.li (.int (-1)))) .e0))) (.ie (.cp .eq (.lo 1) (.li (.str 82))) (.ex (.mt (.lo 3) 83 (.ec (.cm .d 1 (.loc 8) .range1 (.ec (.bu .int (.ec (.mt (.lo 3) 84 .e0) .e0)) .e0) .e0 (.bn .add (.li (.str 4)) (.bu .str (.ec (.lo 8) .e0)))) .e0))) (.ie (.cp .eq (.lo 1) (.li (.str 83))) (.sq (.st 7 (.mt (.lo 3) 84 .e0)) (.ex (.mt (.lo 3) 83 (.ec (.ie (.cp .eq (.mt (.lo 3) 84 .e0) (.lo 7)) (.li (.str 1)) (.li (.str 0))) .e0)))) (.ex (.mt (.lo 3) 84 .e0))))))))))) (.re (.lo 5)))
noncomputable def b998:S:=.sq (.sw [2,3] (.ec (.ls .r .e0) (.ec (.li (.int 0)) .e0))) (.sq (.fo (.loc 4) .range1 (.ec (.li (.int 4000)) .e0) (.sq (.ie (.cp .eq (.lo 3) (.bu .len (.ec (.ar (.lo 1) 4) .e0))) (.re (.ie (.cp .eq (.lo 2) (.ls .f .e0)) (.li .none) (.tp (.ec (.li (.str 66)) (.ec (.lo 2) .e0))))) .sk) (.sq (.sw [5,6] (.ec (.lo 3) (.ec (.li .none) .e0))) (.sq (.sw [7,8] (.ec (.ca (.gb 88 (.fn 156)) (.ec (.sb (.sb (.ar (.lo 1) 4) (.lo 3)) (.li (.int 0))) .e0)) (.ec (.sb (.sb (.ar (.lo 1) 4) (.lo 3)) (.li (.int 1))) .e0))) (.sq (.st 3 (.bn .add (.lo 3) (.li (.int 1)))) (.sq (.ie (.cp .inn (.lo 7) (.tp (.ec (.li (.str 72)) (.ec (.li (.str 85)) (.ec (.li (.str 71)) (.ec (.li (.str 74)) (.ec (.li (.str 73)) .e0))))))) (.st 3 (.ca (.gb 142 (.fn 986)) (.ec (.lo 7) (.ec (.lo 8) (.ec (.lo 2) (.ec (.lo 3) .e0)))))) (.ie (.cp .eq (.lo 7) (.li (.str 86))) (.re (.tp (.ec (.li (.str 45)) (.ec (.mt (.lo 2) 84 .e0) .e0)))) (.ie (.cp .eq (.lo 7) (.li (.str 87))) (.st 6 (.mt (.lo 2) 84 .e0)) (.ie (.cp .eq (.lo 7) (.li (.str 88))) (.sq (.sw [3,6] (.ec (.mt (.lo 2) 84 .e0) (.ec (.mt (.lo 2) 84 .e0) .e0))) (.st 6 (.ie (.cp .lt (.lo 3) (.li (.int 0))) (.lo 6) (.li .none)))) (.st 6 (.ca (.gb 143 (.fn 991)) (.ec (.lo 0) (.ec (.lo 7) (.ec (.lo 8) (.ec (.lo 2) (.ec (.lo 1) .e0))))))))))) (.ie (.cp .isn (.lo 6) (.li .none)) (.sq (.st 3 (.ca (.gb 141 (.fn 979)) (.ec (.lo 1) (.ec (.lo 5) (.ec (.lo 2) (.ec (.lo 6) .e0)))))) (.ie (.cp .lt (.lo 3) (.li (.int 0))) (.re (.tp (.ec (.li (.str 48)) (.ec (.lo 6) .e0)))) .sk)) .sk))))))) (.re (.tp (.ec (.li (.str 84)) (.ec (.li .none) .e0)))))
noncomputable def b1003:S:=.sq (.st 1 (.li (.int 13))) (.sq (.fo (.loc 2) .over (.ec (.tk (.lo 0) (.li (.int 24))) .e0) (.st 1 (.bn .mod (.bn .add (.bn .mul (.lo 1) (.li (.int 31))) (.lo 2)) (.li (.int 2147483647))))) (.sq (.st 3 (.ls .r (.ec (.bu (.list .r) (.ec (.tk (.lo 0) (.li (.int 24))) .e0)) (.ec (.lo 1) .e0)))) (.sq (.st 4 (.ca (.gb 126 (.fn 876)) (.ec (.lo 3) (.ec (.li (.int 3)) (.ec (.tp (.ec (.ls .f .e0) (.ec (.ls .f .e0) (.ec (.li (.bool false)) .e0)))) .e0))))) (.sq (.st 5 (.cm .f 1 (.loc 9) .range1 (.ec (.li (.int 12)) .e0) .e0 (.bu .str (.ec (.ca (.gb 124 (.fn 864)) (.ec (.lo 3) (.ec (.li (.int 3)) .e0))) .e0)))) (.sq (.st 6 (.ca (.gb 122 (.cls 834)) (.ec (.ca (.gb 130 (.fn 904)) (.ec (.li (.int 9)) .e0)) (.ec (.li (.str 57)) .e0)))) (.sq (.ex (.mt (.lo 6) 65 (.ec (.lo 4) .e0))) (.sq (.st 7 (.dc .r [67,66,57,77] (.ec (.ls .r .e0) (.ec (.bu (.list .r) (.ec (.lo 5) .e0)) (.ec (.li (.str 70)) (.ec (.dc .r [] .e0) .e0)))))) (.sq (.st 8 (.dc .r [67,66,57] (.ec (.ls .r .e0) (.ec (.bu (.list .r) (.ec (.lo 5) .e0)) (.ec (.li (.str 70)) .e0))))) (.sq (.ie (.cp .ne (.ca (.gb 144 (.fn 998)) (.ec (.lo 7) (.ec (.mt (.ar (.ar (.lo 6) 4) 19) 45 .e0) .e0))) (.ca (.gb 133 (.fn 925)) (.ec (.lo 8) (.ec (.lo 4) .e0)))) (.re (.li (.bool false))) .sk) (.re (.bo true false (.cp .eq (.sb (.lo 7) (.li (.str 67))) (.sb (.lo 8) (.li (.str 67)))) (.cp .eq (.sb (.lo 7) (.li (.str 66))) (.sb (.lo 8) (.li (.str 66)))))))))))))))
noncomputable def b2000:S:=.re (.ie (.cp .eq (.lo 0) (.li (.str 57))) (.tp (.ec (.li (.str 62)) (.ec (.li (.int 9)) .e0))) (.tp (.ec (.li (.str 22)) (.ec (.lo 0) .e0))))
noncomputable def b2001:S:=.re (.li (.bool false))
noncomputable def fdL:List (Nat × FD):=[
 (142,⟨3,[],3,b142⟩),
 (156,⟨1,[],1,b156⟩),
 (163,⟨1,[],1,b163⟩),
 (170,⟨2,[],2,b170⟩),
 (177,⟨1,[],1,b177⟩),
 (184,⟨1,[],1,b184⟩),
 (191,⟨2,[],2,b191⟩),
 (205,⟨4,[],4,b205⟩),
 (212,⟨1,[],1,b212⟩),
 (220,⟨3,[.none],3,b220⟩),
 (227,⟨1,[],1,b227⟩),
 (234,⟨2,[],2,b234⟩),
 (241,⟨3,[],3,b241⟩),
 (248,⟨2,[],4,b248⟩),
 (276,⟨6,[],6,b276⟩),
 (283,⟨3,[],3,b283⟩),
 (290,⟨1,[],5,b290⟩),
 (297,⟨1,[],9,b297⟩),
 (304,⟨1,[],2,b304⟩),
 (318,⟨2,[],2,b318⟩),
 (332,⟨4,[],4,b332⟩),
 (339,⟨1,[],1,b339⟩),
 (346,⟨2,[],2,b346⟩),
 (353,⟨1,[],1,b353⟩),
 (360,⟨3,[],3,b360⟩),
 (368,⟨3,[.none],3,b368⟩),
 (375,⟨2,[],2,b375⟩),
 (382,⟨3,[],3,b382⟩),
 (389,⟨3,[],3,b389⟩),
 (396,⟨2,[],2,b396⟩),
 (403,⟨3,[],3,b403⟩),
 (410,⟨1,[],2,b410⟩),
 (433,⟨3,[],3,b433⟩),
 (440,⟨1,[],1,b440⟩),
 (447,⟨2,[],4,b447⟩),
 (454,⟨2,[],4,b454⟩),
 (461,⟨2,[],2,b461⟩),
 (468,⟨2,[],2,b468⟩),
 (496,⟨5,[],5,b496⟩),
 (503,⟨1,[],1,b503⟩),
 (517,⟨3,[],4,b517⟩),
 (524,⟨2,[],4,b524⟩),
 (531,⟨2,[],4,b531⟩),
 (538,⟨3,[],4,b538⟩),
 (545,⟨3,[],4,b545⟩),
 (550,⟨1,[],1,b550⟩),
 (557,⟨5,[],9,b557⟩),
 (571,⟨5,[],9,b571⟩),
 (576,⟨6,[],10,b576⟩),
 (601,⟨2,[],4,b601⟩),
 (705,⟨2,[],3,b705⟩),
 (712,⟨2,[],4,b712⟩),
 (719,⟨1,[],1,b719⟩),
 (726,⟨2,[],4,b726⟩),
 (733,⟨4,[],6,b733⟩),
 (740,⟨2,[],5,b740⟩),
 (747,⟨3,[],8,b747⟩),
 (754,⟨3,[],3,b754⟩),
 (761,⟨4,[],4,b761⟩),
 (768,⟨4,[],5,b768⟩),
 (775,⟨3,[],8,b775⟩),
 (782,⟨3,[],6,b782⟩),
 (789,⟨2,[],2,b789⟩),
 (796,⟨2,[],3,b796⟩),
 (803,⟨2,[],14,b803⟩),
 (810,⟨1,[],2,b810⟩),
 (817,⟨4,[],4,b817⟩),
 (824,⟨6,[],10,b824⟩),
 (831,⟨3,[],4,b831⟩),
 (850,⟨4,[],4,b850⟩),
 (864,⟨2,[],2,b864⟩),
 (871,⟨2,[],2,b871⟩),
 (876,⟨3,[],3,b876⟩),
 (883,⟨3,[],14,b883⟩),
 (890,⟨4,[],12,b890⟩),
 (897,⟨3,[],11,b897⟩),
 (904,⟨1,[],2,b904⟩),
 (911,⟨2,[],3,b911⟩),
 (918,⟨2,[],2,b918⟩),
 (925,⟨2,[],4,b925⟩),
 (932,⟨2,[],2,b932⟩),
 (939,⟨2,[],2,b939⟩),
 (946,⟨3,[],10,b946⟩),
 (953,⟨3,[],8,b953⟩),
 (958,⟨2,[],10,b958⟩),
 (965,⟨2,[],8,b965⟩),
 (972,⟨3,[],9,b972⟩),
 (979,⟨4,[],9,b979⟩),
 (986,⟨4,[],4,b986⟩),
 (991,⟨5,[],8,b991⟩),
 (998,⟨2,[],9,b998⟩),
 (1003,⟨1,[],9,b1003⟩),
 (2000,⟨1,[],1,b2000⟩),
 (2001,⟨1,[],1,b2001⟩)]
noncomputable def mthL:List (Nat × List (Nat × Nat)):=[
 (145,[(90,142)]),
 (307,[(35,234),(36,212),(37,220),(38,227),(39,241),(40,248),(41,276),(42,283),(43,290),(44,297),(45,304),(90,205)]),
 (413,[(46,339),(47,346),(48,353),(49,360),(50,368),(51,375),(52,382),(53,389),(54,396),(55,403),(56,410),(90,332)]),
 (506,[(63,503),(90,496)]),
 (834,[(34,824),(57,440),(58,447),(59,454),(60,461),(61,468),(62,475),(64,601),(65,705),(66,712),(67,719),(68,726),(69,733),(70,740),(71,747),(72,754),(73,761),(74,768),(75,775),(76,782),(77,789),(78,796),(79,803),(80,810),(81,817),(82,831),(86,636),(87,643),(88,608),(89,650),(90,433)]),
 (853,[(90,850)])]
noncomputable def ops:List NV:=[.tup [.str 70,.str 89,.int 0,.int 1],.tup [.str 90,.str 89,.int 0,.int 1],.tup [.str 91,.str 89,.int 0,.int 1],.tup [.str 92,.str 89,.int 0,.int 1],.tup [.str 80,.str 4,.int 0,.int 1],.tup [.str 93,.str 89,.int 0,.int 1],.tup [.str 94,.str 89,.int 1,.int 0],.tup [.str 81,.str 89,.int 1,.int 2],.tup [.str 95,.str 89,.int 2,.int 4],.tup [.str 96,.str 89,.int 2,.int 2],.tup [.str 97,.str 89,.int 3,.int 3],.tup [.str 76,.str 98,.int 0,.int 1],.tup [.str 78,.str 98,.int 1,.int 1],.tup [.str 99,.str 100,.int 0,.int 1],.tup [.str 101,.str 100,.int 1,.int 1],.tup [.str 102,.str 58,.int 0,.int 1],.tup [.str 103,.str 58,.int 1,.int 1],.tup [.str 104,.str 100,.int 0,.int 0],.tup [.str 75,.str 105,.int 0,.int 1],.tup [.str 106,.str 105,.int 0,.int 1],.tup [.str 79,.str 105,.int 1,.int 1],.tup [.str 107,.str 105,.int 0,.int 0],.tup [.str 108,.str 105,.int 1,.int 0],.tup [.str 109,.str 105,.int 1,.int 1],.tup [.str 110,.str 105,.int 2,.int 1],.tup [.str 111,.str 89,.int 2,.int 1],.tup [.str 112,.str 89,.int 3,.int 1],.tup [.str 113,.str 105,.int 1,.int 1],.tup [.str 114,.str 89,.int 2,.int 1],.tup [.str 115,.str 105,.int 0,.int 1],.tup [.str 116,.str 89,.int 2,.int 1],.tup [.str 117,.str 89,.int 2,.int 1],.tup [.str 118,.str 89,.int 2,.int 1],.tup [.str 119,.str 89,.int 2,.int 1],.tup [.str 120,.str 89,.int 2,.int 1],.tup [.str 121,.str 89,.int 2,.int 1],.tup [.str 122,.str 89,.int 2,.int 1],.tup [.str 123,.str 89,.int 2,.int 1],.tup [.str 124,.str 89,.int 2,.int 1],.tup [.str 125,.str 89,.int 2,.int 1],.tup [.str 126,.str 89,.int 2,.int 1],.tup [.str 127,.str 89,.int 2,.int 1],.tup [.str 128,.str 89,.int 2,.int 1],.tup [.str 83,.str 89,.int 2,.int 1],.tup [.str 129,.str 89,.int 2,.int 1],.tup [.str 130,.str 89,.int 2,.int 1],.tup [.str 131,.str 89,.int 2,.int 1],.tup [.str 132,.str 89,.int 2,.int 1],.tup [.str 133,.str 89,.int 2,.int 1],.tup [.str 134,.str 89,.int 2,.int 1],.tup [.str 135,.str 89,.int 2,.int 1],.tup [.str 136,.str 89,.int 1,.int 1],.tup [.str 137,.str 89,.int 1,.int 1],.tup [.str 138,.str 89,.int 1,.int 1],.tup [.str 139,.str 89,.int 1,.int 1],.tup [.str 140,.str 89,.int 1,.int 1],.tup [.str 141,.str 89,.int 1,.int 1],.tup [.str 142,.str 89,.int 1,.int 1],.tup [.str 72,.str 20,.int 0,.int 0],.tup [.str 85,.str 20,.int 1,.int 0],.tup [.str 71,.str 20,.int 1,.int 0],.tup [.str 143,.str 20,.int 1,.int 0],.tup [.str 144,.str 20,.int 1,.int 0],.tup [.str 145,.str 19,.int 2,.int 1],.tup [.str 146,.str 19,.int 1,.int 1],.tup [.str 86,.str 89,.int 1,.int 0],.tup [.str 87,.str 89,.int 1,.int 0],.tup [.str 147,.str 148,.int 0,.int 1],.tup [.str 149,.str 89,.int 0,.int 1],.tup [.str 150,.str 19,.int 0,.int 1],.tup [.str 151,.str 89,.int 0,.int 1],.tup [.str 152,.str 105,.int 2,.int 1],.tup [.str 153,.str 105,.int 2,.int 1],.tup [.str 154,.str 105,.int 2,.int 1],.tup [.str 155,.str 105,.int 1,.int 2],.tup [.str 156,.str 89,.int 2,.int 2],.tup [.str 82,.str 89,.int 1,.int 1],.tup [.str 73,.str 20,.int 1,.int 2],.tup [.str 74,.str 20,.int 0,.int 0],.tup [.str 88,.str 89,.int 2,.int 0],.tup [.str 157,.str 89,.int 1,.int 1],.tup [.str 158,.str 89,.int 2,.int 2],.tup [.str 159,.str 89,.int 4,.int 4],.tup [.str 160,.str 105,.int 1,.int 0],.tup [.str 161,.str 89,.int 2,.int 1]]
noncomputable def glL:List (Nat × GL):=[
 (107,.seq true ops),
 (108,.seq true [.int 58,.int 65,.int 66,.int 79,.int 83]),
 (418,.dict [62,56,162] [.int 11,.int 13,.int 15]),
 (419,.dict [62,56,162] [.int 12,.int 14,.int 16]),
 (691,.seq false [.str 53,.str 54,.str 61,.str 55])]
@[irreducible] noncomputable def tab:List String:=["0","1","2","e","k","L","B","e0","e1","e2","k0","k1","k2","L0","L1","L2","B0","B1","B2","n","t","program","global","keys","loop","guarded","finally","choice","Unary","!","Logical","||","Num","Str","Name","Binary","Member","Index","Call","Assign","Cond","Expr","Var","Block","If","Return","Break","Continue","Throw","Switch","Try","Labelled","label","While","DoWhile","ForIn","cell","x","u","w","v","For","local","caught","function","view","left","seen","get","set","UNDEF","JT","JMP","NEXTIN","GOSUB","GETGLOB","GETLOC","kept","SETLOC","SETGLOB","CONST","DUP","FORIN","SEQ","long","JF","RET","THROW","RETSUB","","NULL","TRUE","FALSE","THIS","POP","DUP2","SWAP","ROT3","l","GETCELL","c","SETCELL","GETUP","SETUP","FRESH","s","TYPEGLOB","DECLVAR","DECLFUN","GETPROP","SETPROP","GETELEM","SETELEM","DELPROP","DELELEM","DELNAME","ADD","SUB","MUL","DIV","MOD","SHL","SHR","USHR","AND","OR","XOR","EQ","NE","SNE","LT","GT","LE","GE","IN","INSTANCEOF","NEG","TONUM","NOT","BITNOT","TYPEOF","INC","DEC","JFK","JTK","CALL","NEW","CLOSURE","f","NEWOBJ","NEWARR","HOLE","INITPROP","INITGET","INITSET","METHOD","METHODEL","CHECKOBJ","TOKEY","ROT4","FAILSET","REGEXP","up"]
noncomputable def gtab:List (String × NV):=[("_wall",.fn 21),("OP_UNDEF",.int 0),("OP_NULL",.int 1),("OP_TRUE",.int 2),("OP_FALSE",.int 3),("OP_CONST",.int 4),("OP_THIS",.int 5),("OP_POP",.int 6),("OP_DUP",.int 7),("OP_DUP2",.int 8),("OP_SWAP",.int 9),("OP_ROT3",.int 10),("OP_GETLOC",.int 11),("OP_SETLOC",.int 12),("OP_GETCELL",.int 13),("OP_SETCELL",.int 14),("OP_GETUP",.int 15),("OP_SETUP",.int 16),("OP_FRESH",.int 17),("OP_GETGLOB",.int 18),("OP_TYPEGLOB",.int 19),("OP_SETGLOB",.int 20),("OP_GETPROP",.int 23),("OP_SETPROP",.int 24),("OP_GETELEM",.int 25),("OP_SETELEM",.int 26),("OP_DELPROP",.int 27),("OP_DELELEM",.int 28),("OP_DELNAME",.int 29),("OP_ADD",.int 30),("OP_SUB",.int 31),("OP_MUL",.int 32),("OP_DIV",.int 33),("OP_MOD",.int 34),("OP_SHL",.int 35),("OP_SHR",.int 36),("OP_USHR",.int 37),("OP_AND",.int 38),("OP_OR",.int 39),("OP_XOR",.int 40),("OP_EQ",.int 41),("OP_NE",.int 42),("OP_SEQ",.int 43),("OP_SNE",.int 44),("OP_LT",.int 45),("OP_GT",.int 46),("OP_LE",.int 47),("OP_GE",.int 48),("OP_IN",.int 49),("OP_INSTANCEOF",.int 50),("OP_NEG",.int 51),("OP_TONUM",.int 52),("OP_NOT",.int 53),("OP_BITNOT",.int 54),("OP_TYPEOF",.int 55),("OP_INC",.int 56),("OP_DEC",.int 57),("OP_JMP",.int 58),("OP_JF",.int 59),("OP_JT",.int 60),("OP_JFK",.int 61),("OP_JTK",.int 62),("OP_CALL",.int 63),("OP_NEW",.int 64),("OP_RET",.int 65),("OP_THROW",.int 66),("OP_CLOSURE",.int 67),("OP_NEWOBJ",.int 68),("OP_NEWARR",.int 69),("OP_HOLE",.int 70),("OP_INITPROP",.int 71),("OP_INITGET",.int 72),("OP_INITSET",.int 73),("OP_METHOD",.int 74),("OP_METHODEL",.int 75),("OP_FORIN",.int 76),("OP_NEXTIN",.int 77),("OP_GOSUB",.int 78),("OP_RETSUB",.int 79),("OP_CHECKOBJ",.int 80),("OP_TOKEY",.int 81),("OP_ROT4",.int 82),("OP_FAILSET",.int 83),("OP_REGEXP",.int 84),("OPERATIONS",.gl 107),("LAST_OPS",.gl 108),("BadCode",.cls 125),("Unit",.cls 145),("op_name",.fn 156),("arg_kind",.fn 163),("taken_count",.fn 170),("put_count",.fn 177),("is_last",.fn 184),("same_constant",.fn 191),("Code",.cls 307),("depth_at_target",.fn 318),("OpenCode",.cls 413),("GET_OPS",.gl 418),("SET_OPS",.gl 419),("CompBase",.cls 478),("LOOP",.str 24),("KEYS",.str 23),("CHOICE",.str 27),("LABEL",.str 52),("GUARDED",.str 25),("FINALLY",.str 26),("Control",.cls 506),("leave_down_to",.fn 517),("broken",.fn 524),("continued",.fn 531),("break_out",.fn 538),("go_again",.fn 545),("is_guarded",.fn 550),("lay_branch",.fn 557),("lay_choice",.fn 564),("lay_tests",.fn 571),("lay_switch",.fn 576),("BINARY_OPS",.gl 577),("UNARY_OPS",.gl 579),("ITEM_OPS",.gl 580),("CompExpr",.cls 688),("LOOPS",.gl 691),("CompStmt",.cls 834),("Node",.cls 853),("_law_take",.fn 864),("_law_name",.fn 871),("_law_lines",.fn 876),("_law_line",.fn 883),("_law_loop",.fn 890),("_law_try",.fn 897),("_law_view",.fn 904),("_law_get",.fn 911),("_law_value",.fn 918),("_law_all",.fn 925),("_law_is_end",.fn 932),("_law_behind",.fn 939),("_law_rounds",.fn 946),("_law_keys",.fn 953),("_law_switched",.fn 958),("_law_guarded",.fn 965),("_law_do",.fn 972),("_law_caught",.fn 979),("_law_jump",.fn 986),("_law_plain",.fn 991),("_law_run",.fn 998),("law",.fn 1003)]
noncomputable def lkp {α:Type} (i:Nat):List (Nat × α)→Option α
 | []=>none
 | (k,v) :: r=>match Nat.beq k i with
  | true=>some v
  | false=>lkp i r
noncomputable def txt (scr:Nat→Option (List NV)):Tx where
 fd i:=lkp i fdL
 glv g:=lkp g glL
 mth c f:=(lkp c mthL).bind (lkp f)
 scr:=scr
end
section
set_option genCtorIdx true in
inductive Nm where | t | u | e | x
noncomputable def Nm.s:Nm→Nat
 | .t=>20 | .u=>58 | .e=>3 | .x=>57
inductive Tr where
 | expr (n:Nm)
 | var (n:Nm)
 | if1 (n:Nm) (a:Tr)
 | if2 (n:Nm) (a b:Tr)
 | wh (w:Nat) (n:Nm) (b:Tr)
 | dw (w:Nat) (b:Tr) (n:Nm)
 | fr (w:Nat) (i:Option Nm) (n s:Nm) (b:Tr)
 | fi (w:Nat) (isVar:Bool) (n:Nm) (b:Tr)
 | try (b:Tr) (hc:Bool) (c:Tr) (hl:Bool) (l:Tr)
 | sw (n:Nm) (t1:Option Nm) (b1:Tr) (t2:Option Nm) (b2:Tr)
 | brk (l:Option Nat)
 | con (l:Option Nat)
 | ret (n:Option Nm)
 | thr (k:Nat)
 | blk (w:Nat) (b:Tr)
 | nil
 | cons (a r:Tr)
inductive Ev where
 | get (n:Nat)
 | set (n v:Nat)
noncomputable def lim:Nat:=100000
structure W where
 seen:List Ev
 left:List Nat
 x:Nat
noncomputable def W.ev (w:W) (e:Ev):W:=⟨e :: w.seen,w.left,w.x⟩
noncomputable def hd0:List Nat→Nat
 | []=>0
 | v :: _=>v
@[irreducible] noncomputable def W.get (w:W) (n:Nm) (Y F:Nat→W→Prop):Prop:=w.seen.length < lim∧match n with
 | .x=>Y w.x (w.ev (.get 57))
 | .e=>hd0 w.left≤2∧F (hd0 w.left+7) ⟨.get 3 :: w.seen,w.left.tail,w.x⟩
 | n=>Y (hd0 w.left) ⟨.get n.s :: w.seen,w.left.tail,w.x⟩
@[irreducible] noncomputable def W.setK (w:W) (n v:Nat) (K:W→Prop):Prop:=w.seen.length < lim∧K (w.ev (.set n v))
set_option genCtorIdx true in
inductive Res where
 | norm
 | brk (l:Option Nat)
 | con (l:Option Nat)
 | ret (v:Nat)
 | thr (v:Nat)
noncomputable def isIn (l:Nat):List Nat→Bool
 | []=>false
 | k :: r=>match Nat.beq l k with
  | true=>true
  | false=>isIn l r
noncomputable def Res.isEnd (ls:List Nat):Res→Bool
 | .norm=>false
 | .con none=>false
 | .con (some l)=>!isIn l ls
 | _=>true
noncomputable def Res.behind (ls:List Nat):Res→Res
 | .brk none=>.norm
 | .brk (some l)=>match isIn l ls with
  | true=>.norm
  | false=>.brk (some l)
 | r=>r
noncomputable def Res.out (l:Nat):Res→Res
 | .brk (some k)=>match Nat.beq k l with
  | true=>.norm
  | false=>.brk (some k)
 | r=>r
abbrev Kr:=Res→W→Prop
abbrev Ex:=W→Kr→Prop
noncomputable def nz (v:Nat) (A B:Prop):Prop:=match v with
 | 0=>B
 | _+1=>A
noncomputable def stepX (st:Option Nm) (next:Ex):Ex:=fun w K=>match st with
 | none=>next w K
 | some s=>w.get s (fun _ w=>next w K) fun f w=>K (.thr f) w
noncomputable def roundX (ls:List Nat) (body next:Ex):Ex:=fun w K=>body w fun r w=>match r.isEnd ls with
 | true=>K (r.behind ls) w
 | false=>next w K
noncomputable def rounds (ls:List Nat) (n:Nm) (body:Ex) (st:Option Nm):Nat→Bool→Ex
 | 0,_,_,_=>False
 | k+1,skip,w,K=>match skip with
  | true=>roundX ls body (stepX st (rounds ls n body st k false)) w K
  | false=>w.get n (fun v w=>nz v (roundX ls body (stepX st (rounds ls n body st k false)) w K) (K .norm w)) fun f w=>K (.thr f) w
noncomputable def keyRounds (ls:List Nat) (nm:Nat) (body:Ex):Nat→Nat→Ex
 | 0,_,w,K=>K .norm w
 | k+1,i,w,K=>w.setK nm (i+10) fun w=>body w fun r w=>match r.isEnd ls with
  | true=>K (r.behind ls) w
  | false=>keyRounds ls nm body k (i+1) w K
noncomputable def clause (v:Nat) (t:Option Nm) (w:W) (Y:Bool→W→Prop) (F:Nat→W→Prop):Prop:=match t with
 | none=>Y false w
 | some n=>w.get n (fun o w=>Y (Nat.beq o v) w) F
noncomputable def caughtX (hc:Bool) (c:Ex) (r:Res) (w:W) (K:Kr):Prop:=match r with
 | .thr f=>(match hc with
  | true=>c ⟨w.seen,w.left,f⟩ K
  | false=>K (.thr f) w)
 | r=>K r w
noncomputable def lastX (hl:Bool) (l:Ex) (r:Res) (w:W) (K:Kr):Prop:=match hl with
 | true=>l w fun r' w=>(match r' with
  | .norm=>K r w
  | r'=>K r' w)
 | false=>K r w
noncomputable def endX (b:Ex):Ex:=fun w K=>b w fun r w=>K (r.behind []) w
noncomputable def thenX (b1 b2:Ex):Ex:=fun w K=>b1 w fun r w=>match r with
 | .norm=>endX b2 w K
 | r=>K (r.behind []) w
noncomputable def isNo {α:Type}:Option α→Bool
 | none=>true
 | some _=>false
noncomputable def exec:Tr→Ex
 | .expr n,w,K=>w.get n (fun _ w=>K .norm w) fun f w=>K (.thr f) w
 | .var n,w,K=>w.get n (fun v w=>w.setK 60 v (K .norm)) fun f w=>K (.thr f) w
 | .if1 n a,w,K=>w.get n (fun v w=>nz v (exec a w K) (K .norm w)) fun f w=>K (.thr f) w
 | .if2 n a b,w,K=>w.get n (fun v w=>nz v (exec a w K) (exec b w K)) fun f w=>K (.thr f) w
 | .wh l n b,w,K=>rounds [l] n (exec b) none (w.left.length+2) false w fun r w=>K (r.out l) w
 | .dw l b n,w,K=>rounds [l] n (exec b) none (w.left.length+2) true w fun r w=>K (r.out l) w
 | .fr l i n s b,w,K=>stepX i (fun w K=>rounds [l] n (exec b) (some s) (w.left.length+2) false w K) w fun r w=>K (r.out l) w
 | .fi l isVar n b,w,K=>w.get n (fun v w=>v≤2∧keyRounds [l] (cond isVar 59 60) (exec b) v 0 w fun r w=>K (r.out l) w) fun f w=>K (.thr f) w
 | .try b hc c hl l,w,K=>exec b w fun r w=>caughtX hc (exec c) r w fun r w=>lastX hl (exec l) r w K
 | .sw n t1 b1 t2 b2,w,K=>w.get n (fun v w=>clause v t1 w (fun q w=>match q with
   | true=>thenX (exec b1) (exec b2) w K
   | false=>clause v t2 w (fun q w=>match q with
    | true=>endX (exec b2) w K
    | false=>(match isNo t1 with
     | true=>thenX (exec b1) (exec b2) w K
     | false=>(match isNo t2 with
      | true=>endX (exec b2) w K
      | false=>K .norm w))) fun f w=>K (.thr f) w) fun f w=>K (.thr f) w) fun f w=>K (.thr f) w
 | .brk l,w,K=>K (.brk l) w
 | .con l,w,K=>K (.con l) w
 | .ret n,w,K=>(match n with
  | none=>K (.ret 70) w
  | some n=>w.get n (fun v w=>K (.ret v) w) fun f w=>K (.thr f) w)
 | .thr k,w,K=>K (.thr k) w
 | .blk l b,w,K=>exec b w fun r w=>K (r.out l) w
 | .nil,w,K=>K .norm w
 | .cons a r,w,K=>exec a w fun q w=>match q with
  | .norm=>exec r w K
  | q=>K q w
inductive Ins where
 | undef | const (k:Nat) | pop | dup | getloc (i:Nat) | setloc (i:Nat) | getglob (n:Nm) | setglob (n:Nat) | seq
 | jmp (l:Nat) | jf (l:Nat) | jt (l:Nat) | ret | thr | forin | nextin (l:Nat) | gosub (l:Nat) | retsub
noncomputable def Ins.last:Ins→Bool
 | .jmp _ | .ret | .thr | .retsub=>true
 | _=>false
noncomputable def Ins.eff:Ins→Int
 | .undef | .const _ | .dup | .getloc _ | .getglob _ | .nextin _=>1
 | .pop | .seq | .jf _ | .jt _ | .ret | .thr=>-1
 | .retsub=>-2
 | _=>0
noncomputable def Ins.tgt:Ins→Option Nat
 | .jmp l | .jf l | .jt l | .nextin l | .gosub l=>some l
 | _=>none
noncomputable def Ins.tdep:Ins→Int
 | .jf _ | .jt _=>-1
 | .gosub _=>2
 | _=>0
structure Lb where
 dep:Int
 reached:Bool
 pos:Option Nat
structure Hd where
 start:Nat
 stop:Nat
 goal:Nat
 dep:Int
 fin:Bool
structure CS where
 code:List Ins
 labels:List Lb
 depth:Option Int
 hs:List Hd
 locals:Nat
set_option genCtorIdx true in
inductive CK where | loop | keys | choice | label | guarded | fin
structure Ctl where
 kind:CK
 labs:List Nat
 behind:Nat
 again:Nat
abbrev Kc:=CS→Prop
@[irreducible] noncomputable def CS.newLabel (s:CS) (dep:Int) (K:Nat→Kc):Prop:=s.labels.length < lim∧K s.labels.length ⟨s.code,s.labels++[⟨dep,false,none⟩],s.depth,s.hs,s.locals⟩
noncomputable def depI (i:Ins) (d:Int):Option Int:=match i.last with
 | true=>none
 | false=>some (d+i.eff)
@[irreducible] noncomputable def CS.emit (s:CS) (i:Ins) (K:Kc):Prop:=match s.depth with
 | none=>K s
 | some d=>s.code.length < lim∧K ⟨s.code++[i],s.labels,depI i d,s.hs,s.locals⟩
@[irreducible] noncomputable def CS.meet (s:CS) (l:Nat) (d:Int) (K:Kc):Prop:=match s.labels[l]? with
 | none=>False
 | some b=>b.dep=d∧K ⟨s.code,s.labels.set l ⟨b.dep,true,b.pos⟩,s.depth,s.hs,s.locals⟩
@[irreducible] noncomputable def CS.jump (s:CS) (i:Ins) (l:Nat) (K:Kc):Prop:=match s.depth with
 | none=>K s
 | some d=>s.meet l (d+i.tdep) fun s=>s.emit i K
@[irreducible] noncomputable def CS.place (s:CS) (l:Nat) (K:Kc):Prop:=match s.labels[l]? with
 | none=>False
 | some b=>b.pos=none∧K ⟨s.code,s.labels.set l ⟨b.dep,b.reached,some s.code.length⟩,(match b.reached with
  | true=>some b.dep
  | false=>none),s.hs,s.locals⟩
@[irreducible] noncomputable def CS.stand (s:CS) (l:Nat) (K:Kc):Prop:=match s.depth with
 | none=>s.place l K
 | some d=>s.meet l d fun s=>s.place l K
@[irreducible] noncomputable def CS.enter (s:CS) (l:Nat) (d:Int) (K:Kc):Prop:=s.meet l d fun s=>s.stand l K
@[irreducible] noncomputable def CS.mark (s:CS) (K:Nat→Kc):Prop:=s.newLabel (match s.depth with
 | none=>0
 | some d=>d) fun l s=>s.stand l (K l)
@[irreducible] noncomputable def CS.handler (s:CS) (h:Hd) (K:Kc):Prop:=s.hs.length < lim∧K ⟨s.code,s.labels,s.depth,s.hs++[h],s.locals⟩
@[irreducible] noncomputable def CS.one (s:CS) (i:Ins) (K:Kc):Prop:=match i.tgt with
 | none=>s.emit i K
 | some l=>s.jump i l K
noncomputable def CS.emits:List Ins→CS→Kc→Prop
 | [],s,K=>K s
 | i :: r,s,K=>s.one i fun s=>CS.emits r s K
noncomputable def load:Nm→Ins
 | .x=>.getloc 9
 | n=>.getglob n
noncomputable def retIns:Option Nm→Ins
 | none=>.undef
 | some n=>load n
noncomputable def initIns:Option Nm→List Ins
 | none=>[]
 | some n=>[load n,.pop]
noncomputable def Ctl.leave (c:Ctl):List Ins:=match c.kind with
 | .keys=>[.pop]
 | .guarded=>[.gosub c.behind]
 | .fin=>[.pop,.pop]
 | _=>[]
noncomputable def CK.isLoop:CK→Bool
 | .loop | .keys=>true
 | _=>false
noncomputable def Ctl.brkTo (c:Ctl):Option Nat→Bool
 | none=>(match c.kind with
  | .choice=>true
  | k=>k.isLoop)
 | some l=>isIn l c.labs
noncomputable def Ctl.conTo (c:Ctl) (l:Option Nat):Bool:=match c.kind.isLoop with
 | true=>(match l with
  | none=>true
  | some l=>isIn l c.labs)
 | false=>false
noncomputable def CK.ok:CK→Bool
 | .fin=>false
 | _=>true
noncomputable def exitC (to:Ctl→Bool) (at':Ctl→Nat):List Ctl→(List Ins→Prop)→Prop
 | [],_=>False
 | c :: r,K=>match to c with
  | true=>c.kind.ok=true∧K [.jmp (at' c)]
  | false=>exitC to at' r fun is=>K (c.leave++is)
noncomputable def retCode (k:Nat):List Ctl→List Ins
 | []=>[.getloc k,.ret]
 | c :: r=>c.leave++retCode k r
noncomputable def isGd:List Ctl→Bool
 | []=>false
 | c :: r=>match c.kind with
  | .guarded=>true
  | _=>isGd r
@[irreducible] noncomputable def CS.opn (s:CS) (f:CS→Kc→Prop) (K:Kc):Prop:=match s.depth with
 | none=>K s
 | some _=>f s K
@[irreducible] noncomputable def CS.dep (s:CS) (K:Int→Prop):Prop:=match s.depth with
 | none=>False
 | some d=>K d
noncomputable def closeG (hl:Bool) (rest fin:Nat):List Ins:=match hl with
 | true=>[.gosub rest,.jmp fin]
 | false=>[.jmp fin]
noncomputable def testC (d:Int) (t:Option Nm) (l:Nat) (s:CS) (K:Kc):Prop:=match t with
 | none=>K s
 | some n=>s.newLabel (d+1) fun later s=>CS.emits [.dup,load n,.seq,.jf later,.pop,.jmp l] s fun s=>s.stand later K
noncomputable def catchC (cmp:CS→Kc→Prop) (hl:Bool) (rest fin start stop:Nat) (d:Int) (s:CS) (K:Kc):Prop:=
 s.newLabel (d+1) fun h s=>s.handler ⟨start,stop,h,d,false⟩ fun s=>s.enter h (d+1) fun s=>CS.emits [.setloc 9,.pop] s fun s=>cmp s fun s=>CS.emits (closeG hl rest fin) s K
noncomputable def lastC (cmp:CS→Kc→Prop) (rest start:Nat) (d:Int) (s:CS) (K:Kc):Prop:=
 s.mark fun stop s=>s.handler ⟨start,stop,rest,d,true⟩ fun s=>s.enter rest (d+2) fun s=>cmp s fun s=>CS.emits [.retsub] s K
noncomputable def ifC (b:Bool) (f:CS→Kc→Prop) (s:CS) (K:Kc):Prop:=match b with
 | true=>f s K
 | false=>K s
noncomputable def comp:Tr→List Ctl→CS→Kc→Prop
 | .expr n,ctl,s,K=>CS.emits [load n,.pop] s K
 | .var n,ctl,s,K=>CS.emits [load n,.setglob 60,.pop] s K
 | .if1 n a,ctl,s,K=>s.dep fun d=>s.newLabel d fun no s=>s.newLabel d fun fin s=>CS.emits [load n,.jf no] s fun s=>s.opn (comp a ctl) fun s=>s.stand no fun s=>s.stand fin K
 | .if2 n a b,ctl,s,K=>s.dep fun d=>s.newLabel d fun no s=>s.newLabel d fun fin s=>CS.emits [load n,.jf no] s fun s=>s.opn (comp a ctl) fun s=>
   CS.emits [.jmp fin] s fun s=>s.stand no fun s=>s.opn (comp b ctl) fun s=>s.stand fin K
 | .wh w n b,ctl,s,K=>s.dep fun d=>s.newLabel d fun bh s=>s.newLabel d fun ag s=>s.stand ag fun s=>CS.emits [load n,.jf bh] s fun s=>
   s.opn (comp b (⟨.loop,[w],bh,ag⟩ :: ctl)) fun s=>CS.emits [.jmp ag] s fun s=>s.stand bh K
 | .dw w b n,ctl,s,K=>s.dep fun d=>s.newLabel d fun bh s=>s.newLabel d fun ag s=>s.newLabel d fun top s=>s.stand top fun s=>
   s.opn (comp b (⟨.loop,[w],bh,ag⟩ :: ctl)) fun s=>s.stand ag fun s=>CS.emits [load n,.jt top] s fun s=>s.stand bh K
 | .fr w i n st b,ctl,s,K=>s.dep fun d=>s.newLabel d fun bh s=>s.newLabel d fun ag s=>CS.emits (initIns i) s fun s=>s.newLabel d fun top s=>s.stand top fun s=>
   CS.emits [load n,.jf bh] s fun s=>s.opn (comp b (⟨.loop,[w],bh,ag⟩ :: ctl)) fun s=>s.stand ag fun s=>CS.emits [load st,.pop,.jmp top] s fun s=>s.stand bh K
 | .fi w isVar n b,ctl,s,K=>s.dep fun d=>s.newLabel (d+1) fun bh s=>s.newLabel (d+1) fun ag s=>CS.emits [load n,.forin] s fun s=>s.stand ag fun s=>
   CS.emits [.nextin bh,.setglob (cond isVar 59 60),.pop] s fun s=>s.opn (comp b (⟨.keys,[w],bh,ag⟩ :: ctl)) fun s=>CS.emits [.jmp ag] s fun s=>s.stand bh fun s=>CS.emits [.pop] s K
 | .try b hc c hl l,ctl,s,K=>s.dep fun d=>s.newLabel d fun fin s=>s.newLabel (d+2) fun rest s=>s.mark fun start s₀=>
   comp b (match hl with
    | true=>⟨.guarded,[],rest,0⟩ :: ctl
    | false=>ctl) s₀ fun s=>s.mark fun stop s₁=>CS.emits (closeG hl rest fin) s₁ fun s=>
   ifC (hc&&!Nat.beq s₁.code.length s₀.code.length) (catchC (comp c (match hl with
    | true=>⟨.guarded,[],rest,0⟩ :: ctl
    | false=>ctl)) hl rest fin start stop d) s fun s=>ifC hl (lastC (comp l (⟨.fin,[],0,0⟩ :: ctl)) rest start d) s fun s=>s.stand fin K
 | .sw n t1 b1 t2 b2,ctl,s,K=>s.dep fun d=>s.newLabel d fun bh s=>s.newLabel d fun l1 s=>s.newLabel d fun l2 s=>CS.emits [load n] s fun s=>
   testC d t1 l1 s fun s=>testC d t2 l2 s fun s=>CS.emits [.pop,.jmp (match isNo t2 with
    | true=>l2
    | false=>(match isNo t1 with
     | true=>l1
     | false=>bh))] s fun s=>s.stand l1 fun s=>comp b1 (⟨.choice,[],bh,0⟩ :: ctl) s fun s=>s.stand l2 fun s=>comp b2 (⟨.choice,[],bh,0⟩ :: ctl) s fun s=>s.stand bh K
 | .brk l,ctl,s,K=>exitC (Ctl.brkTo · l) Ctl.behind ctl fun is=>CS.emits is s K
 | .con l,ctl,s,K=>exitC (Ctl.conTo · l) Ctl.again ctl fun is=>CS.emits is s K
 | .ret n,ctl,s,K=>CS.emits [retIns n] s fun s=>match isGd ctl with
  | true=>CS.emits [.setloc s.locals,.pop] ⟨s.code,s.labels,s.depth,s.hs,s.locals+1⟩ fun s'=>CS.emits (retCode s.locals ctl) s' K
  | false=>CS.emits [.ret] s K
 | .thr k,ctl,s,K=>CS.emits [.const k,.thr] s K
 | .blk w b,ctl,s,K=>s.dep fun d=>s.newLabel d fun bh s=>comp b (⟨.label,[w],bh,0⟩ :: ctl) s fun s=>s.stand bh K
 | .nil,ctl,s,K=>K s
 | .cons a r,ctl,s,K=>s.opn (comp a ctl) fun s=>comp r ctl s K
noncomputable def CS.init:CS:=⟨[],[],some 0,[],10⟩
set_option genCtorIdx true in
inductive SV where
 | nn
 | s (v:Nat)
 | i (n:Int)
 | k (l:List Nat)
structure MS where
 pc:Nat
 st:List SV
 w:W
 kept:List (Nat × Nat)
structure Un where
 code:List Ins
 pl:Nat→Nat
 hs:List Hd
noncomputable def lookN (k:Nat):List (Nat × Nat)→Option Nat
 | []=>none
 | (k',v) :: r=>match Nat.beq k' k with
  | true=>some v
  | false=>lookN k r
noncomputable def putN (k v:Nat):List (Nat × Nat)→List (Nat × Nat)
 | []=>[(k,v)]
 | (k',v') :: r=>match Nat.beq k' k with
  | true=>(k',v) :: r
  | false=>(k',v') :: putN k v r
noncomputable def keysL (i:Nat):Nat→List Nat
 | 0=>[]
 | n+1=>(i+10) :: keysL (i+1) n
noncomputable def tK (K:SV→List SV→Prop):List SV→Prop
 | x :: st=>K x st
 | _=>False
noncomputable def SV.sK (K:Nat→Prop):SV→Prop
 | .s v=>K v
 | _=>False
noncomputable def SV.iK (K:Int→Prop):SV→Prop
 | .i v=>K v
 | _=>False
noncomputable def SV.kK (K:List Nat→Prop):SV→Prop
 | .k v=>K v
 | _=>False
noncomputable def istep (F:Un) (m:MS) (i:Ins) (N:MS→Prop) (V:Nat→List SV→W→Prop) (O:Nat→W→Prop):Prop:=match i with
 | .undef=>N ⟨m.pc+1,.s 70 :: m.st,m.w,m.kept⟩
 | .const k=>k≤2∧N ⟨m.pc+1,.s k :: m.st,m.w,m.kept⟩
 | .pop=>tK (fun _ st=>N ⟨m.pc+1,st,m.w,m.kept⟩) m.st
 | .dup=>tK (fun x st=>x.sK fun v=>N ⟨m.pc+1,.s v :: .s v :: st,m.w,m.kept⟩) m.st
 | .getloc i=>(match Nat.beq i 9 with
  | true=>m.w.get .x (fun v w=>N ⟨m.pc+1,.s v :: m.st,w,m.kept⟩) fun f w=>V f (.nn :: m.st) w
  | false=>(match lookN i m.kept with
   | some v=>N ⟨m.pc+1,.s v :: m.st,m.w,m.kept⟩
   | none=>False))
 | .setloc i=>tK (fun x st=>x.sK fun v=>(match Nat.beq i 9 with
   | true=>N ⟨m.pc+1,.s v :: st,⟨m.w.seen,m.w.left,v⟩,m.kept⟩
   | false=>m.kept.length < lim∧N ⟨m.pc+1,.s v :: st,m.w,putN i v m.kept⟩)) m.st
 | .getglob n=>m.w.get n (fun v w=>N ⟨m.pc+1,.s v :: m.st,w,m.kept⟩) fun f w=>V f (.nn :: m.st) w
 | .setglob n=>tK (fun x st=>x.sK fun v=>m.w.setK n v fun w=>N ⟨m.pc+1,.s v :: st,w,m.kept⟩) m.st
 | .seq=>tK (fun x st=>x.sK fun a=>tK (fun x st=>x.sK fun b=>N ⟨m.pc+1,.s (cond (Nat.beq b a) 1 0) :: st,m.w,m.kept⟩) st) m.st
 | .jmp l=>N ⟨F.pl l,m.st,m.w,m.kept⟩
 | .jf l=>tK (fun x st=>x.sK fun v=>nz v (N ⟨m.pc+1,st,m.w,m.kept⟩) (N ⟨F.pl l,st,m.w,m.kept⟩)) m.st
 | .jt l=>tK (fun x st=>x.sK fun v=>nz v (N ⟨F.pl l,st,m.w,m.kept⟩) (N ⟨m.pc+1,st,m.w,m.kept⟩)) m.st
 | .ret=>tK (fun x st=>x.sK fun v=>O v m.w) m.st
 | .thr=>tK (fun x st=>x.sK fun v=>V v st m.w) m.st
 | .forin=>tK (fun x st=>x.sK fun v=>v≤2∧N ⟨m.pc+1,.k (keysL 0 v) :: st,m.w,m.kept⟩) m.st
 | .nextin l=>tK (fun x st=>x.kK fun r=>(match r with
  | []=>N ⟨F.pl l,.k [] :: st,m.w,m.kept⟩
  | a :: r=>N ⟨m.pc+1,.s a :: .k r :: st,m.w,m.kept⟩)) m.st
 | .gosub l=>N ⟨F.pl l,.i (m.pc+1:Nat) :: .s 70 :: m.st,m.w,m.kept⟩
 | .retsub=>tK (fun x st=>x.iK fun p=>tK (fun x st=>x.sK fun v=>(match p with
   | .ofNat p=>N ⟨p,st,m.w,m.kept⟩
   | .negSucc _=>V v st m.w)) st) m.st
noncomputable def findH (pl:Nat→Nat) (p:Nat):List Hd→Option Hd
 | []=>none
 | h :: r=>match Nat.ble (pl h.start) p&&Nat.blt p (pl h.stop) with
  | true=>some h
  | false=>findH pl p r
noncomputable def Un.catch (F:Un) (h:Hd) (v:Nat) (st:List SV) (w:W) (kept:List (Nat × Nat)):MS:=
 ⟨F.pl h.goal,(match h.fin with
  | true=>.i (-1) :: .s v :: st.drop (st.length - h.dep.toNat)
  | false=>.s v :: st.drop (st.length - h.dep.toNat)),w,kept⟩
noncomputable def Un.run (F:Un) (K:Kr):Nat→MS→Prop
 | 0,_=>False
 | n+1,m=>match F.code[m.pc]? with
  | none=>m.pc=F.code.length∧m.st=[]∧K .norm m.w
  | some i=>istep F m i (F.run K n) (fun v st w=>match findH F.pl m.pc F.hs with
   | none=>K (.thr v) w
   | some h=>0≤h.dep∧F.run K n (F.catch h v st w m.kept)) fun v w=>K (.ret v) w
noncomputable def CS.spot (s:CS) (l:Nat):Nat:=((s.labels[l]?).bind (·.pos)).getD 0
noncomputable def CS.unit (s:CS):Un:=⟨s.code,s.spot,s.hs.filter fun h=>Nat.blt (s.spot h.start) (s.spot h.stop)⟩
noncomputable def Tr.len:Tr→Nat
 | .cons _ r=>r.len+1
 | _=>0
noncomputable def NX (cx:Bool):Nm→Prop
 | .x=>cx=true
 | _=>True
noncomputable def NO:Option Nm→Prop
 | some .x=>False
 | _=>True
noncomputable def Ln (t:Tr):Prop:=1≤t.len∧t.len≤2
noncomputable def Wf:Tr→Bool→Nat→List Nat→List Nat→Bool→Prop
 | .expr n,false,_,_,_,cx=>NX cx n
 | .var n,false,_+1,_,_,cx=>NX cx n
 | .if1 n a,false,d+1,lo,la,cx=>n≠.x∧Wf a false d lo la cx
 | .if2 n a b,false,d+1,lo,la,cx=>n≠.x∧Wf a false d lo la cx∧Wf b false d lo la cx
 | .wh w n b,false,d+1,lo,la,cx=>n≠.x∧Wf b false d (lo++[w]) (la++[w]) cx
 | .dw w b n,false,d+1,lo,la,cx=>n≠.x∧Wf b false d (lo++[w]) (la++[w]) cx
 | .fr w i n s b,false,d+1,lo,la,cx=>NO i∧n≠.x∧s≠.x∧Wf b false d (lo++[w]) (la++[w]) cx
 | .fi w _ n b,false,d+1,lo,la,cx=>n≠.x∧Wf b false d (lo++[w]) (la++[w]) cx
 | .try b hc c hl l,false,d+1,lo,la,cx=>(hc || hl)=true∧(Ln b∧Wf b true d lo la cx)∧(match hc with
   | true=>Ln c∧Wf c true d lo la true
   | false=>c=.nil)∧(match hl with
   | true=>Ln l∧Wf l true d lo la cx
   | false=>l=.nil)
 | .sw n t1 b1 t2 b2,false,d+1,lo,la,cx=>n≠.x∧NO t1∧NO t2∧¬(t1=none∧t2=none)∧(Ln b1∧Wf b1 true d lo la cx)∧Ln b2∧Wf b2 true d lo la cx
 | .brk none,false,_+1,lo,_,_=>lo≠[]
 | .brk (some l),false,_+1,lo,la,_=>l∈la∨l∈lo
 | .con none,false,_+1,lo,_,_=>lo≠[]
 | .con (some l),false,_+1,lo,_,_=>l∈lo
 | .ret o,false,_+1,_,_,cx=>(match o with
  | some n=>NX cx n
  | none=>True)
 | .thr k,false,_+1,_,_,_=>k≤2
 | .blk w b,false,d+1,lo,la,cx=>Ln b∧Wf b true d lo (la++[w]) cx
 | .nil,true,_,_,_,_=>True
 | .cons a r,true,d,lo,la,cx=>Wf a false d lo la cx∧Wf r true d lo la cx
 | _,_,_,_,_,_=>False
end
section

end
section
noncomputable def viewN:NV:=.fi 853 [26,17,30,22,3,12,9,31,32,33,34] [.str 65,.int 0,.fl [],.none,.fl [],.bool false,.int 10,.str 64,.lam 0,.lam 1,
 .fi 853 [26,17,30,22,35] [.str 63,.int 0,.fl [],.none,.tup [.str 62,.int 9]]]
structure Bs where
 x0:Ob
 x1:Ob
 D:Nat→Option Ob
noncomputable def H (B:Bs) (loc ln:Int) (dep:NV) (co li cs pl hs dp ct:List NV):NH:=⟨[B.x0,B.x1,.I 834 [22,23,4,24,9,25] [viewN,viewN,.ins 3,.lst 11,.int loc,.none],
 .I 413 [19,20,21] [.ins 4,dep,.lst 10],.I 307 [2,3,12,4,8,17,5,6,18,7,9,10,11,13,14,15,16] [.str 57,.fl [],.bool false,.lst 5,.lst 6,.int ln,.lst 7,.fl [],.lst 8,.lst 9,.int 0,.int 0,.fl [],.bool false,.none,.none,.fl []],
 .L co,.L li,.L cs,.L pl,.L hs,.L dp,.L ct],B.D⟩
section
variable {B:Bs} {loc ln x:Int} {dep y:NV} {co li cs pl hs dp ct l:List NV} {K:Ob→Prop} {o:Ob}
theorem h_2:regK (H B loc ln dep co li cs pl hs dp ct).reg 2 K=K (.I 834 [22,23,4,24,9,25] [viewN,viewN,.ins 3,.lst 11,.int loc,.none]):=rfl
theorem h_3:regK (H B loc ln dep co li cs pl hs dp ct).reg 3 K=K (.I 413 [19,20,21] [.ins 4,dep,.lst 10]):=rfl
theorem h_4:regK (H B loc ln dep co li cs pl hs dp ct).reg 4 K=K (.I 307 [2,3,12,4,8,17,5,6,18,7,9,10,11,13,14,15,16] [.str 57,.fl [],.bool false,.lst 5,.lst 6,.int ln,.lst 7,.fl [],.lst 8,.lst 9,.int 0,.int 0,.fl [],.bool false,.none,.none,.fl []]):=rfl
theorem h_5:regK (H B loc ln dep co li cs pl hs dp ct).reg 5 K=K (.L co):=rfl
theorem h_6:regK (H B loc ln dep co li cs pl hs dp ct).reg 6 K=K (.L li):=rfl
theorem h_7:regK (H B loc ln dep co li cs pl hs dp ct).reg 7 K=K (.L cs):=rfl
theorem h_8:regK (H B loc ln dep co li cs pl hs dp ct).reg 8 K=K (.L pl):=rfl
theorem h_9:regK (H B loc ln dep co li cs pl hs dp ct).reg 9 K=K (.L hs):=rfl
theorem h_10:regK (H B loc ln dep co li cs pl hs dp ct).reg 10 K=K (.L dp):=rfl
theorem h_11:regK (H B loc ln dep co li cs pl hs dp ct).reg 11 K=K (.L ct):=rfl
theorem hw_2:(H B loc ln dep co li cs pl hs dp ct).put 2 (.I 834 [22,23,4,24,9,25] [viewN,viewN,.ins 3,.lst 11,.int x,.none])=H B x ln dep co li cs pl hs dp ct:=rfl
theorem hw_3:(H B loc ln dep co li cs pl hs dp ct).put 3 (.I 413 [19,20,21] [.ins 4,y,.lst 10])=H B loc ln y co li cs pl hs dp ct:=rfl
theorem hw_4:(H B loc ln dep co li cs pl hs dp ct).put 4 (.I 307 [2,3,12,4,8,17,5,6,18,7,9,10,11,13,14,15,16] [.str 57,.fl [],.bool false,.lst 5,.lst 6,.int x,.lst 7,.fl [],.lst 8,.lst 9,.int 0,.int 0,.fl [],.bool false,.none,.none,.fl []])=H B loc x dep co li cs pl hs dp ct:=rfl
theorem hw_5:(H B loc ln dep co li cs pl hs dp ct).put 5 (.L l)=H B loc ln dep l li cs pl hs dp ct:=rfl
theorem hw_6:(H B loc ln dep co li cs pl hs dp ct).put 6 (.L l)=H B loc ln dep co l cs pl hs dp ct:=rfl
theorem hw_7:(H B loc ln dep co li cs pl hs dp ct).put 7 (.L l)=H B loc ln dep co li l pl hs dp ct:=rfl
theorem hw_8:(H B loc ln dep co li cs pl hs dp ct).put 8 (.L l)=H B loc ln dep co li cs l hs dp ct:=rfl
theorem hw_9:(H B loc ln dep co li cs pl hs dp ct).put 9 (.L l)=H B loc ln dep co li cs pl l dp ct:=rfl
theorem hw_10:(H B loc ln dep co li cs pl hs dp ct).put 10 (.L l)=H B loc ln dep co li cs pl hs l ct:=rfl
theorem hw_11:(H B loc ln dep co li cs pl hs dp ct).put 11 (.L l)=H B loc ln dep co li cs pl hs dp l:=rfl
end
theorem cps {G:Prop} (h:∀ C:Prop,(G→C)→C):G:=h G id
inductive CV where
 | s (v:Nat)
 | i (n:Nat)
noncomputable def CV.av:CV→NV
 | .s v=>.str v
 | .i n=>.int n
noncomputable def depV:Option Int→NV
 | none=>.none
 | some d=>.int d
noncomputable def dpV (b:Lb):NV:=match b.reached with
 | true=>.int b.dep
 | false=>.none
noncomputable def plV (b:Lb):NV:=match b.pos with
 | none=>.int (-1)
 | some p=>.int p
noncomputable def hdV (h:Hd):NV:=.tup [.int h.start,.int h.stop,.int h.goal,.int h.dep,.bool h.fin]
noncomputable def CK.s:CK→Nat
 | .loop=>24 | .keys=>23 | .choice=>27 | .label=>52 | .guarded=>25 | .fin=>26
noncomputable def ctV (c:Ctl):NV:=.fi 506 [26,27,28,29] [.str c.kind.s,.fl (c.labs.map .str),(match c.kind with
 | .fin=>.none
 | _=>.int c.behind),(match c.kind.isLoop with
 | true=>.int c.again
 | false=>.none)]
noncomputable def ctR:List Ctl→List NV
 | []=>[]
 | c :: r=>ctR r++[ctV c]
noncomputable def Ins.op:Ins→Nat
 | .undef=>0 | .const _=>4 | .pop=>6 | .dup=>7 | .getloc _=>11 | .setloc _=>12 | .getglob _=>18 | .setglob _=>20 | .seq=>43
 | .jmp _=>58 | .jf _=>59 | .jt _=>60 | .ret=>65 | .thr=>66 | .forin=>76 | .nextin _=>77 | .gosub _=>78 | .retsub=>79
noncomputable def InsA (cs:List CV):Ins→NV→Prop
 | .const n,v=>∃ j:Nat,v=.int j∧cs[j]?=some (.i n)
 | .getglob n,v=>∃ j:Nat,v=.int j∧cs[j]?=some (.s n.s)
 | .setglob n,v=>∃ j:Nat,v=.int j∧cs[j]?=some (.s n)
 | .getloc i,v=>v=.int i
 | .setloc i,v=>v=.int i
 | .jmp l,v=>v=.int l
 | .jf l,v=>v=.int l
 | .jt l,v=>v=.int l
 | .nextin l,v=>v=.int l
 | .gosub l,v=>v=.int l
 | _,v=>v=.none
inductive CodeR (cs:List CV):List Ins→List NV→Prop where
 | nil:CodeR cs [] []
 | snoc {is:List Ins} {vs:List NV} {i:Ins} {v:NV}:CodeR cs is vs→InsA cs i v→CodeR cs (is++[i]) (vs++[.tup [.int i.op,v]])
noncomputable def optI:Option Nat→NV
 | none=>.none
 | some l=>.int l
structure Wit where
 cs:List CV
 co:List NV
 li:List NV
 ln:Int
structure Inv' (n:Nat) (s:CS) (w:Wit):Prop where
 code:CodeR w.cs s.code w.co
 lin:w.li.length=s.code.length
 cs:w.cs.length≤s.code.length+n
abbrev Inv:=Inv' 0
noncomputable def HS (B:Bs) (w:Wit) (s:CS) (ctl:List Ctl):NH:=H B s.locals w.ln (depV s.depth) w.co w.li (w.cs.map CV.av) (s.labels.map plV) (s.hs.map hdV) (s.labels.map dpV) (ctR ctl)
noncomputable def Nx (B:Bs) (ctl:List Ctl) (K:CS→Prop) (Q:Po) (v:NV):Prop:=∀ s w,Inv s w→K s→Q v (HS B w s ctl)
end
section
theorem nth_of {K:NV→Prop}:∀ {l:List NV} {n:Nat} {v:NV},l[n]?=some v→K v→nthK K l n
 | [],_,_,e,_=>nomatch e
 | _ :: _,0,_,e,h=>Option.some.inj e▸h
 | _ :: l,n+1,_,e,h=>nth_of (l:=l) e h
theorem nth_map {α:Type} {K:NV→Prop} {f:α→NV} {l:List α} {n:Nat} {b:α} (e:l[n]?=some b) (h:K (f b)):nthK K (l.map f) n:=
 nth_of ((List.getElem?_map).trans (e▸rfl)) h
theorem map_len {α:Type} {f:α→NV} {l:List α} (h:l.length < lim):(l.map f).length < cap:=by rw [List.length_map]; exact Nat.lt_trans h (by decide)
theorem lt_cap {n:Nat} (h:n < lim):n < cap:=Nat.lt_trans h (by decide)
theorem int_le {n:Nat} (h:0≤n):(0:Int)≤n:=Int.natCast_nonneg n
section
variable {scr:Nat→Option (List NV)} {B:Bs} {k n l:Nat} {Q:Po} {d ln j loc:Int} {dep a v:NV} {co li cs pl hs dp ct:List NV} {op:Int} {s:CS} {w:Wit} {i:Ins} {K:CS→Prop} {K2:Nat→CS→Prop} {ctl:List Ctl} {b:Lb} {σ₀:NH}
theorem Q_int {x y:Int} {σ τ:NH} (e:x=y) (f:σ=τ) (h:Q (.int y) τ):Q (.int x) σ:=by rw [e,f]; exact h
theorem Q_none {σ τ:NH} (f:σ=τ) (h:Q .none τ):Q .none σ:=by rw [f]; exact h
theorem len1 {α:Type} {f:α→NV} {l:List α} {v:NV}:(((l.map f++[v]).length:Nat):Int) - 1=(l.length:Nat):=by simp
theorem Inv'.eq {n:Nat} (I:Inv' n s w) {lb:List Lb} {dp:Option Int} {hs:List Hd} {lo:Nat}:Inv' n ⟨s.code,lb,dp,hs,lo⟩ w:=⟨I.code,I.lin,I.cs⟩
theorem Inv'.line (I:Inv s w) {x:Int}:Inv s ⟨w.cs,w.co,w.li,x⟩:=⟨I.code,I.lin,I.cs⟩
theorem CodeR.len {cs:List CV} {is:List Ins} {vs:List NV} (h:CodeR cs is vs):vs.length=is.length:=by
 induction h with
 | nil=>rfl
 | snoc _ _ ih=>rw [List.length_append,List.length_append,ih]; rfl
noncomputable def Ins.tk:Ins→Int
 | .pop | .setloc _ | .setglob _ | .dup | .jf _ | .jt _ | .ret | .thr | .forin | .nextin _=>1
 | .seq | .retsub=>2
 | _=>0
noncomputable def Ins.pt:Ins→Int
 | .undef | .const _ | .getloc _ | .setloc _ | .getglob _ | .setglob _ | .seq | .forin=>1
 | .dup | .nextin _=>2
 | _=>0
theorem eff_pt:i.pt - i.tk=i.eff:=by cases i <;> rfl
theorem tkpt {a b c d:Int} (e:b - a=c):d - (a+0)+b=d+c:=by lia
theorem c_last (h:Q (.bool i.last) σ₀):callN (txt scr) (k+1) 184 [.int i.op] Q σ₀:=by cases i <;> exact enter h
theorem c_lastB {b:Bool} (e:i.last=b) (h:Q (.bool b) σ₀):callN (txt scr) (k+1) 184 [.int i.op] Q σ₀:=c_last (e▸h)
theorem c_taken (h:Q (.int (i.tk+0)) σ₀):callN (txt scr) (k+1) 170 [.int i.op,a] Q σ₀:=by cases i <;> exact enter h
theorem c_put (h:Q (.int i.pt) σ₀):callN (txt scr) (k+1) 177 [.int i.op] Q σ₀:=by cases i <;> exact enter h
theorem c_setline (I:Inv s w) (q:∀ w,Inv s w→Q .none (HS B w s ctl)):callN (txt scr) (k+1) 346 [.ins 3,.int j] Q (HS B w s ctl):=enter (q ⟨w.cs,w.co,w.li,j⟩ I.line)
theorem hs_new:HS B w ⟨s.code,s.labels++[b],s.depth,s.hs,s.locals⟩ ctl=H B s.locals w.ln (depV s.depth) w.co w.li (w.cs.map CV.av) (s.labels.map plV++[plV b]) (s.hs.map hdV) (s.labels.map dpV++[dpV b]) (ctR ctl):=by unfold HS; rw [List.map_append,List.map_append]; rfl
theorem c_new (h:s.newLabel d K2) (I:Inv s w) (q:∀ l s w,Inv s w→K2 l s→Q (.int l) (HS B w s ctl)):callN (txt scr) (k+2) 353 [.ins 3] Q (HS B w s ctl):=by
 unfold CS.newLabel at h
 exact enter ⟨map_len h.1,enter ⟨map_len h.1,Q_int len1 (hs_new (s:=s) (b:=⟨d,false,none⟩)).symm (q _ _ w I.eq h.2)⟩⟩
theorem emit_none {co:List Ins} {lb:List Lb} {hs:List Hd} {lo:Nat} (h:CS.emit ⟨co,lb,none,hs,lo⟩ i K):K ⟨co,lb,none,hs,lo⟩:=by unfold CS.emit at h; exact h
theorem emit_some {co:List Ins} {lb:List Lb} {hs:List Hd} {lo:Nat} (h:CS.emit ⟨co,lb,some d,hs,lo⟩ i K):co.length < lim∧K ⟨co++[i],lb,depI i d,hs,lo⟩:=by unfold CS.emit at h; exact h
theorem one_emit (e:i.tgt=none) (h:s.one i K):s.emit i K:=by unfold CS.one at h; rw [e] at h; exact h
theorem emit_key {co:List Ins} {lb:List Lb} {hs:List Hd} {lo:Nat} (I:Inv' 1 ⟨co,lb,some d,hs,lo⟩ w) (ia:InsA w.cs i a) (h:CS.emit ⟨co,lb,some d,hs,lo⟩ i K) (q:Nx B ctl K Q .none) :
  w.co.length < cap∧w.li.length < cap∧Q .none (HS B ⟨w.cs,w.co++[.tup [.int i.op,a]],w.li++[.int w.ln],w.ln⟩ ⟨co++[i],lb,(match i.last with
   | true=>none
   | false=>some (d - (i.tk+0)+i.pt)),hs,lo⟩ ctl):=by
 refine ⟨I.code.len▸lt_cap (emit_some h).1,I.lin▸lt_cap (emit_some h).1,q _ _ ⟨.snoc I.code ia,by rw [List.length_append,List.length_append]; exact congrArg (·+1) I.lin,by rw [List.length_append]; exact I.cs⟩ ?_⟩
 rw [tkpt eff_pt]; exact (emit_some h).2
theorem Inv'.up (I:Inv s w):Inv' 1 s w:=⟨I.code,I.lin,Nat.le_succ_of_le I.cs⟩
theorem c_add' (h:s.emit i K) (ia:InsA w.cs i a) (I:Inv' 1 s w) (hc:s.depth=none→Inv s w) (q:Nx B ctl K Q .none):callN (txt scr) (k+2) 368 [.ins 3,.int i.op,a] Q (HS B w s ctl):=by
 obtain ⟨co,lb,dp,hs,lo⟩:=s
 induction dp using Option.casesOn with
 | none=>exact enter (q _ w (hc rfl) (emit_none h))
 | some d=>
  have key:=emit_key I ia h q
  cases e:i.last <;> rw [e] at key
  ·exact enter (enter ⟨key.1,key.2.1,c_lastB e (c_taken (c_put key.2.2))⟩)
  ·exact enter (enter ⟨key.1,key.2.1,c_lastB e key.2.2⟩)
theorem c_add (h:s.emit i K) (ia:InsA w.cs i a) (I:Inv s w) (q:Nx B ctl K Q .none):callN (txt scr) (k+2) 368 [.ins 3,.int i.op,a] Q (HS B w s ctl):=c_add' h ia I.up (fun _=>I) q
theorem hs_set {b b':Lb} (e:s.labels[l]?=some b) {x y:NV} (h1:plV b'=x) (h2:dpV b'=y) {dp:Option Int}:HS B w ⟨s.code,s.labels.set l b',dp,s.hs,s.locals⟩ ctl=H B s.locals w.ln (depV dp) w.co w.li (w.cs.map CV.av) ((s.labels.map plV).set l x) (s.hs.map hdV) ((s.labels.map dpV).set l y) (ctR ctl):=by
 unfold HS; rw [List.map_set,List.map_set,h1,h2]
set_option tactic.hygienic true in
theorem set_same {α:Type} {l:List α} {n:Nat} {a:α} (h:l[n]?=some a):l.set n a=l:=by
 apply List.ext_getElem?
 intro m
 rw [List.getElem?_set]
 split
 ·rename_i e; subst e; rw [h,if_pos (List.getElem?_eq_some_iff.mp h).1]
 ·rfl
theorem if_t {A E:Prop} {x:Bool} (e:x=true) (h:A):ifT A E (.bool x):=e▸h
theorem if_f {A E:Prop} {x:Bool} (e:x=false) (h:E):ifT A E (.bool x):=e▸h
theorem ne_self {d:Int}:(!decide (d=d))=false:=by rw [decide_eq_true rfl]; rfl
theorem lt_of {α:Type} {f:α→NV} {L:List α} {b:α} (e:L[n]?=some b):n < (L.map f).length:=by rw [List.length_map]; exact (List.getElem?_eq_some_iff.mp e).1
theorem get_map {α:Type} {f:α→NV} {L:List α} {b:α} (e:L[n]?=some b):(L.map f)[n]?=some (f b):=by rw [List.getElem?_map,e]; rfl
theorem hs_meet (e:s.labels[l]?=some b) (h:Q v (HS B w ⟨s.code,s.labels.set l ⟨b.dep,true,b.pos⟩,s.depth,s.hs,s.locals⟩ ctl)) :
  Q v (H B s.locals w.ln (depV s.depth) w.co w.li (w.cs.map CV.av) (s.labels.map plV) (s.hs.map hdV) ((s.labels.map dpV).set l (.int b.dep)) (ctR ctl)):=by
 have f:=hs_set (B:=B) (w:=w) (ctl:=ctl) (b':=⟨b.dep,true,b.pos⟩) e (x:=plV b) rfl rfl (dp:=s.depth)
 rw [set_same (get_map e)] at f
 exact f▸h
theorem c_meet (h:s.meet l d K) (q:∀ lb,K ⟨s.code,lb,s.depth,s.hs,s.locals⟩→Q .none (HS B w ⟨s.code,lb,s.depth,s.hs,s.locals⟩ ctl)):callN (txt scr) (k+1) 360 [.ins 3,.int l,.int d] Q (HS B w s ctl):=by
 unfold CS.meet at h
 cases e:s.labels[l]? with
 | none=>rw [e] at h; exact h.elim
 | some b=>
  simp only [e] at h
  obtain ⟨rfl,h⟩:=h
  have key:=hs_meet e (q _ h)
  obtain ⟨dp,r,p⟩:=b
  induction r using Bool.casesOn with
  | true=>exact enter (nth_map e (nth_map e (if_f ne_self ⟨lt_of e,key⟩)))
  | false=>exact enter (nth_map e ⟨lt_of e,key⟩)
theorem c_tdep (e:i.tgt=some l) (h:Q (.int (d+i.tdep)) σ₀):callN (txt scr) (k+1) 318 [.int i.op,.int d] Q σ₀:=by
 cases i <;> cases e
 ·exact enter (Int.add_zero d▸h)
 ·exact enter h
 ·exact enter h
 ·exact enter (Int.add_zero d▸h)
 ·exact enter h
theorem tgtA {cs:List CV} (e:i.tgt=some l):InsA cs i (.int l):=by cases i <;> cases e <;> rfl
theorem c_jump (e:i.tgt=some l) (h:s.one i K) (I:Inv s w) (q:Nx B ctl K Q .none):callN (txt scr) (k+3) 389 [.ins 3,.int i.op,.int l] Q (HS B w s ctl):=by
 have h:s.jump i l K:=by unfold CS.one at h; rw [e] at h; exact h
 unfold CS.jump at h
 obtain ⟨co,lb,dp,hs,lo⟩:=s
 induction dp using Option.casesOn with
 | none=>exact enter (q _ w I h)
 | some d=>
  refine enter (c_tdep e (c_meet h fun lb h=>?_))
  have key:=emit_key I.up.eq (tgtA e) h q
  cases e:i.last <;> rw [e] at key
  ·exact enter (enter ⟨key.1,key.2.1,c_lastB e (c_taken (c_put key.2.2))⟩)
  ·exact enter (enter ⟨key.1,key.2.1,c_lastB e key.2.2⟩)
theorem c_isopen {x:Bool} (e:(match s.depth with
  | none=>false
  | some _=>true)=x) (h:Q (.bool x) (HS B w s ctl)):callN (txt scr) (k+1) 339 [.ins 3] Q (HS B w s ctl):=by
 subst e
 obtain ⟨co,lb,dp,hs,lo⟩:=s
 induction dp using Option.casesOn <;> exact enter h
theorem hs_place (e:s.labels[l]?=some b) {dp:Option Int} (h:Q v (HS B w ⟨s.code,s.labels.set l ⟨b.dep,b.reached,some s.code.length⟩,dp,s.hs,s.locals⟩ ctl)) :
  Q v (H B s.locals w.ln (depV dp) w.co w.li (w.cs.map CV.av) ((s.labels.map plV).set l (.int s.code.length)) (s.hs.map hdV) (s.labels.map dpV) (ctR ctl)):=by
 have f:=hs_set (B:=B) (w:=w) (ctl:=ctl) (b':=⟨b.dep,b.reached,some s.code.length⟩) e (y:=dpV b) rfl rfl (dp:=dp)
 simp only [set_same (get_map e)] at f
 exact f▸h
theorem c_place (e:s.labels[l]?=some b) (hp:b.pos=none) (I:Inv s w) (q:Q .none (H B s.locals w.ln (depV s.depth) w.co w.li (w.cs.map CV.av) ((s.labels.map plV).set l (.int s.code.length)) (s.hs.map hdV) (s.labels.map dpV) (ctR ctl))) :
  callN (txt scr) (k+2) 234 [.ins 4,.int l] Q (HS B w s ctl):=by
 rw [← I.code.len] at q
 obtain ⟨dp,r,p⟩:=b
 subst hp
 exact enter (nth_map e (enter ⟨lt_of e,q⟩))
theorem place_inv (h:s.place l K):∃ b,s.labels[l]?=some b∧b.pos=none∧K ⟨s.code,s.labels.set l ⟨b.dep,b.reached,some s.code.length⟩,(match b.reached with
  | true=>some b.dep
  | false=>none),s.hs,s.locals⟩:=by
 unfold CS.place at h
 cases e:s.labels[l]? with
 | none=>rw [e] at h; exact h.elim
 | some b=>rw [e] at h; exact ⟨b,rfl,h⟩
theorem c_stand (h:s.stand l K) (I:Inv s w) (q:Nx B ctl K Q .none):callN (txt scr) (k+3) 396 [.ins 3,.int l] Q (HS B w s ctl):=by
 unfold CS.stand at h
 obtain ⟨co,lb,dp,hs,lo⟩:=s
 induction dp using Option.casesOn with
 | none=>
  obtain ⟨⟨d,r,p⟩,e,hp,h⟩:=place_inv h
  have key:=hs_place e (q _ w I.eq h)
  cases r <;> exact enter (c_place e hp I (nth_map e key))
 | some d=>
  refine enter (c_meet h fun lb h=>?_)
  obtain ⟨⟨d,r,p⟩,e,hp,h⟩:=place_inv h
  have key:=hs_place e (q _ w I.eq h)
  cases r <;> exact c_place e hp I.eq (nth_map e key)
theorem c_enter (h:s.enter l d K) (I:Inv s w) (q:Nx B ctl K Q .none):callN (txt scr) (k+4) 403 [.ins 3,.int l,.int d] Q (HS B w s ctl):=by
 unfold CS.enter at h
 exact enter (c_meet h fun lb h=>c_stand h I.eq q)
theorem c_mark (h:s.mark K2) (I:Inv s w) (q:∀ l s w,Inv s w→K2 l s→Q (.int l) (HS B w s ctl)):callN (txt scr) (k+4) 410 [.ins 3] Q (HS B w s ctl):=by
 unfold CS.mark at h
 exact enter (c_new h I fun l s w I h=>c_stand h I fun s w I h=>q l s w I h)
theorem hs_hd {x:Hd} (h:Q v (HS B w ⟨s.code,s.labels,s.depth,s.hs++[x],s.locals⟩ ctl)):Q v (H B s.locals w.ln (depV s.depth) w.co w.li (w.cs.map CV.av) (s.labels.map plV) (s.hs.map hdV++[hdV x]) (s.labels.map dpV) (ctR ctl)):=by
 unfold HS at h; rw [List.map_append] at h; exact h
theorem c_handler {x:Hd} (h:s.handler x K) (I:Inv s w) (q:Nx B ctl K Q .none):callN (txt scr) (k+1) 276 [.ins 4,.int x.start,.int x.stop,.int x.goal,.int x.dep,.bool x.fin] Q (HS B w s ctl):=by
 unfold CS.handler at h
 exact enter ⟨map_len h.1,hs_hd (q _ w I.eq h.2)⟩
theorem c_local (I:Inv s w) (q:Q (.int s.locals) (HS B w ⟨s.code,s.labels,s.depth,s.hs,s.locals+1⟩ ctl)):callN (txt scr) (k+1) 440 [.ins 2] Q (HS B w s ctl):=by
 have e:((s.locals:Int)+1) - 1=s.locals:=by lia
 exact enter (Q_int e rfl q)
noncomputable def CV.same:CV→CV→Bool
 | .s a,.s b=>Nat.beq a b
 | .i a,.i b=>decide ((a:Int)=b)
 | _,_=>false
theorem CV.same_eq {x y:CV} (h:x.same y=true):x=y:=by
 cases x <;> cases y
 ·exact congrArg CV.s (Nat.eq_of_beq_eq_true h)
 ·cases h
 ·cases h
 ·exact congrArg CV.i (Int.ofNat.inj (of_decide_eq_true h))
theorem c_same {x y:CV} (h:Q (.bool (x.same y)) σ₀):callN (txt scr) (k+1) 191 [x.av,y.av] Q σ₀:=by
 cases x <;> cases y <;> exact enter h
noncomputable def cR (R:PoS) (K':Fr→NH→Prop):PoS:=fun fl fr σ=>match fl with
 | .ret v=>R (.ret v) fr σ
 | _=>K' fr σ
theorem for_inv {p:Pt} {chk:NH→Prop} {body:Fr→PoS→NH→Prop} {R:PoS} (J:List NV→Fr→NH→Prop)
  (h:∀ x xs fr σ (K:Fr→NH→Prop),J (x :: xs) fr σ→(∀ fr σ,J xs fr σ→K fr σ)→chk σ∧bindP p x fr fun fr=>body fr (fun fl fr σ=>match fl with
   | .ret v=>R (.ret v) fr σ
   | _=>K fr σ) σ)
  (e:∀ fr σ,J [] fr σ→chk σ∧R .nxt fr σ):∀ xs fr σ,J xs fr σ→forW p chk body R xs fr σ
 | [],fr,σ,j=>e fr σ j
 | x :: xs,fr,σ,j=>h x xs fr σ _ j fun fr σ j=>for_inv J h e xs fr σ j
theorem c_const {x:CV} (hl:w.cs.length < cap) (q:∀ j cs,(cs=w.cs∨cs=w.cs++[x])→cs[j]?=some x→Q (.int (j:Nat)) (HS B ⟨cs,w.co,w.li,w.ln⟩ s ctl)):callN (txt scr) (k+2) 248 [.ins 4,x.av] Q (HS B w s ctl):=by
 refine enter (for_inv (fun xs fr σ=>∃ n r y z,xs=zipI n (r.map CV.av)∧(∀ j:Nat,r[j]?=w.cs[n+j]?)∧fr=[some (.ins 4),some x.av,y,z]∧σ=HS B w s ctl) ?_ ?_ _ _ _ ⟨0,w.cs,none,none,rfl,fun j=>by rw [Nat.zero_add],rfl,rfl⟩)
 ·rintro _ _ _ _ K ⟨n,r,y,z,e,hr,rfl,rfl⟩ hK
  induction r using List.casesOn with
  | nil=>cases e
  | cons c r=>
   cases e
   refine ⟨rfl,c_same ?_⟩
   cases hc:c.same x with
   | true=>exact q n _ (.inl rfl) (by have:=hr 0; rw [Nat.add_zero] at this; rw [← this,CV.same_eq hc]; rfl)
   | false=>exact hK _ _ ⟨n+1,r,_,_,rfl,fun j=>by have:=hr (j+1); rw [Nat.add_assoc,Nat.add_comm 1 j,← this]; rfl,rfl,rfl⟩
 ·rintro _ _ ⟨n,r,y,z,e,hr,rfl,rfl⟩
  have key:=q w.cs.length (w.cs++[x]) (.inr rfl) (List.getElem?_concat_length)
  unfold HS at key
  rw [List.map_append,← len1 (f:=CV.av) (v:=x.av)] at key
  exact ⟨rfl,by rw [List.length_map]; exact hl,key⟩
theorem InsA.more {cs ds:List CV} (h:InsA cs i v):InsA (cs++ds) i v:=by
 cases i <;> first | exact h | exact let ⟨j,e,q⟩:=h; ⟨j,e,by rw [List.getElem?_append_left (List.getElem?_eq_some_iff.mp q).1]; exact q⟩
theorem CodeR.more {cs ds:List CV} {is:List Ins} {vs:List NV} (h:CodeR cs is vs):CodeR (cs++ds) is vs:=by
 induction h with
 | nil=>exact .nil
 | snoc _ a ih=>exact .snoc ih a.more
theorem c_named2 {x:CV} (ia:∀ (cs:List CV) (j:Nat),cs[j]?=some x→InsA cs i (.int (j:Nat))) (h:s.emit i K) (I:Inv s w) (q:Nx B ctl K Q .none):callN (txt scr) (k+3) 382 [.ins 3,.int i.op,x.av] Q (HS B w s ctl) ∧
  (i.op=4→callN (txt scr) (k+3) 375 [.ins 3,x.av] Q (HS B w s ctl)):=by
 obtain ⟨co,lb,dp,hs,lo⟩:=s
 induction dp using Option.casesOn with
 | none=>exact ⟨enter (q _ w I (emit_none h)),fun _=>enter (q _ w I (emit_none h))⟩
 | some d=>
  have hl:w.cs.length < cap:=Nat.lt_of_le_of_lt I.cs (lt_cap (emit_some h).1)
  have key:∀ (j:Nat) (cs:List CV),(cs=w.cs∨cs=w.cs++[x])→cs[j]?=some x→Inv' 1 ⟨co,lb,some d,hs,lo⟩ ⟨cs,w.co,w.li,w.ln⟩:=by
   rintro j cs (rfl | rfl) e
   ·exact I.up
   ·exact ⟨I.code.more,I.lin,by rw [List.length_append]; exact Nat.succ_le_succ I.cs⟩
  refine ⟨enter (c_const hl fun j cs hc e=>c_add' h (ia cs j e) (key j cs hc e) (fun z=>nomatch z) q),fun ho=>enter (c_const hl fun j cs hc e=>?_)⟩
  have:=c_add' (scr:=scr) (k:=k) (Q:=fun _ σ=>Q .none σ) h (ia cs j e) (key j cs hc e) (fun z=>nomatch z) q
  rw [ho] at this
  exact this
theorem c_named {x:CV} (ia:∀ (cs:List CV) (j:Nat),cs[j]?=some x→InsA cs i (.int (j:Nat))) (h:s.emit i K) (I:Inv s w) (q:Nx B ctl K Q .none):callN (txt scr) (k+3) 382 [.ins 3,.int i.op,x.av] Q (HS B w s ctl):=(c_named2 ia h I q).1
theorem c_addconst {n:Nat} (h:s.emit (.const n) K) (I:Inv s w) (q:Nx B ctl K Q .none):callN (txt scr) (k+3) 375 [.ins 3,.int (n:Nat)] Q (HS B w s ctl):=(c_named2 (i:=.const n) (x:=.i n) (fun cs j e=>⟨j,rfl,e⟩) h I q).2 rfl
theorem c_add0 (e:i.tgt=none) (ia:∀ cs,InsA cs i .none) (h:s.one i K) (I:Inv s w) (q:Nx B ctl K Q .none):callN (txt scr) (k+2) 368 [.ins 3,.int i.op] Q (HS B w s ctl):=by
 have h:=one_emit e h
 have:=leave (c_add (scr:=scr) (k:=k) h (ia _) I q)
 exact enter this
end
end
section
noncomputable abbrev nd (k:Nat) (ps:List NV):NV:=.fi 853 [26,17,30,22] [.str k,.int 1,.fl ps,.none]
noncomputable def nmT (n:Nm):NV:=nd 34 [.str n.s]
noncomputable def optT:Option Nm→NV
 | none=>.none
 | some n=>nmT n
noncomputable def optS:Option Nat→NV
 | none=>.none
 | some l=>.str l
noncomputable def bN (b:Bool) (v:NV):NV:=match b with
 | true=>v
 | false=>.none
noncomputable def layP:Tr→List NV
 | .expr n=>[.str 41,.int 1,.fl [nmT n],.none]
 | .var n=>[.str 42,.int 1,.fl [.fl [.tup [.str 60,nmT n],.tup [.str 59,.none]]],.none]
 | .if1 n a=>[.str 44,.int 1,.fl [nmT n,.fi 853 [26,17,30,22] (layP a),.none],.none]
 | .if2 n a b=>[.str 44,.int 1,.fl [nmT n,.fi 853 [26,17,30,22] (layP a),.fi 853 [26,17,30,22] (layP b)],.none]
 | .wh w n b=>[.str 51,.int 1,.fl [.str w,nd 53 [nmT n,.fi 853 [26,17,30,22] (layP b)]],.none]
 | .dw w b n=>[.str 51,.int 1,.fl [.str w,nd 54 [.fi 853 [26,17,30,22] (layP b),nmT n]],.none]
 | .fr w i n s b=>[.str 51,.int 1,.fl [.str w,nd 61 [optT i,nmT n,nmT s,.fi 853 [26,17,30,22] (layP b)]],.none]
 | .fi w v n b=>[.str 51,.int 1,.fl [.str w,nd 55 [(match v with
  | true=>nd 42 [.fl [.tup [.str 59,.none]]]
  | false=>nd 34 [.str 60]),nmT n,.fi 853 [26,17,30,22] (layP b)]],.none]
 | .try b hc c hl l=>[.str 50,.int 1,.fl [.fl (layP b),bN hc (.str 57),bN hc (.fl (layP c)),bN hl (.fl (layP l))],viewN]
 | .sw n t1 b1 t2 b2=>[.str 49,.int 1,.fl [nmT n,.fl [.tup [optT t1,.fl (layP b1)],.tup [optT t2,.fl (layP b2)]]],.none]
 | .brk l=>[.str 46,.int 1,.fl [optS l],.none]
 | .con l=>[.str 47,.int 1,.fl [optS l],.none]
 | .ret n=>[.str 45,.int 1,.fl [optT n],.none]
 | .thr k=>[.str 48,.int 1,.fl [nd 32 [.int k]],.none]
 | .blk w b=>[.str 51,.int 1,.fl [.str w,nd 43 [.fl (layP b)]],.none]
 | .nil=>[]
 | .cons a r=>.fi 853 [26,17,30,22] (layP a) :: layP r
noncomputable abbrev layT (t:Tr):NV:=.fi 853 [26,17,30,22] (layP t)
section
variable {scr:Nat→Option (List NV)} {B:Bs} {k m l:Nat} {Q:Po} {s:CS} {w:Wit} {i:Ins} {K:CS→Prop} {K2:Nat→CS→Prop} {ctl:List Ctl} {n:Nm} {t:Tr}
theorem c_value (h:s.one (load n) K) (I:Inv s w) (q:Nx B ctl K Q .none):callN (txt scr) (k+5) 601 [.ins 2,nmT n] Q (HS B w s ctl):=by
 induction n using Nm.casesOn
 ·exact enter (c_setline I fun w I=>enter (enter (c_named (i:=.getglob .t) (x:=.s 20) (fun cs j e=>⟨j,rfl,e⟩) (one_emit rfl h) I q)))
 ·exact enter (c_setline I fun w I=>enter (enter (c_named (i:=.getglob .u) (x:=.s 58) (fun cs j e=>⟨j,rfl,e⟩) (one_emit rfl h) I q)))
 ·exact enter (c_setline I fun w I=>enter (enter (c_named (i:=.getglob .e) (x:=.s 3) (fun cs j e=>⟨j,rfl,e⟩) (one_emit rfl h) I q)))
 ·exact enter (c_setline I fun w I=>enter (enter (c_add (i:=.getloc 9) (one_emit rfl h) rfl I q)))
theorem c_num {n:Nat} (h:s.one (.const n) K) (I:Inv s w) (q:Nx B ctl K Q .none):callN (txt scr) (k+4) 601 [.ins 2,nd 32 [.int n]] Q (HS B w s ctl):=
 enter (c_setline I fun w I=>c_addconst (one_emit rfl h) I q)
theorem c_setname {v:Nat} (hv:v=59∨v=60) (h:s.one (.setglob v) K) (I:Inv s w) (q:Nx B ctl K Q .none):callN (txt scr) (k+5) 461 [.ins 2,.str v] Q (HS B w s ctl):=by
 rcases hv with rfl | rfl
 ·exact enter (enter (enter (enter (c_named (i:=.setglob 59) (x:=.s 59) (fun cs j e=>⟨j,rfl,e⟩) (one_emit rfl h) I q))))
 ·exact enter (enter (enter (enter (c_named (i:=.setglob 60) (x:=.s 60) (fun cs j e=>⟨j,rfl,e⟩) (one_emit rfl h) I q))))
theorem c_branch {b:Bool} (h:CS.emits [load n,cond b (.jt l) (.jf l)] s K) (I:Inv s w) (q:Nx B ctl K Q .none):callN (txt scr) (k+6) 557 [.ins 3,nmT n,.int l,.bool b,.bnd 2 601] Q (HS B w s ctl):=by
 induction b using Bool.casesOn
 ·exact enter (c_value h I fun s w I h=>c_jump (i:=.jf l) rfl h I q)
 ·exact enter (c_value h I fun s w I h=>c_jump (i:=.jt l) rfl h I q)
noncomputable def StC (scr:Nat→Option (List NV)) (m:Nat) (t:Tr):Prop:=∀ f B ctl s w K Q,m≤f→comp t ctl s K→Inv s w→ctl.length+m≤1000→Nx B ctl K Q .none→callN (txt scr) (f+1) 712 [.ins 2,layT t] Q (HS B w s ctl)
inductive All (P:Tr→Prop):Tr→Prop where
 | nil:All P .nil
 | cons {a r:Tr}:P a→All P r→All P (.cons a r)
theorem c_sts {T:Tr} {f:Nat} (H:All (StC scr m) T) (hm:m≤f) (h:comp T ctl s K) (I:Inv s w) (hl:ctl.length+m≤1000) (q:Nx B ctl K Q .none):callN (txt scr) (f+2) 705 [.ins 2,.fl (layP T)] Q (HS B w s ctl):=by
 refine enter (for_inv (fun xs fr σ=>∃ r s w y,xs=layP r∧All (StC scr m) r∧comp r ctl s K∧Inv s w∧fr=[some (.ins 2),some (.fl (layP T)),y]∧σ=HS B w s ctl) ?_ ?_ _ _ _ ⟨T,s,w,none,rfl,H,h,I,rfl,rfl⟩)
 ·rintro _ _ _ _ K' ⟨r,s,w,y,e,hr,h,I,rfl,rfl⟩ hK
  cases hr with
  | nil=>cases e
  | @cons a r ha hr=>
   cases e
   have h:s.opn (comp a ctl) (fun s=>comp r ctl s K):=h
   unfold CS.opn at h
   obtain ⟨co,lb,dp,hs,lo⟩:=s
   induction dp using Option.casesOn with
   | none=>exact ⟨rfl,c_isopen rfl (hK _ _ ⟨r,_,w,_,rfl,hr,h,I,rfl,rfl⟩)⟩
   | some d=>exact ⟨rfl,c_isopen rfl (ha f B ctl _ _ _ _ hm h I hl fun s w I h=>hK _ _ ⟨r,s,w,_,rfl,hr,h,I,rfl,rfl⟩)⟩
 ·rintro _ _ ⟨r,s,w,y,e,hr,h,I,rfl,rfl⟩
  cases hr with
  | nil=>exact ⟨rfl,q _ _ I h⟩
  | cons _ _=>cases e
end
end
section
section
variable {scr:Nat→Option (List NV)} {B:Bs} {k m l d:Nat} {d':Int} {Q:Po} {s:CS} {w:Wit} {i:Ins} {K:CS→Prop} {K2:Nat→CS→Prop} {ctl:List Ctl} {n:Nm} {t a b:Tr}
theorem fuel {f:Nat} (h:m+10≤f):∃ g,f=g+10∧m≤g:=⟨f - 10,by lia,by lia⟩
theorem ge {g:Nat} (h:m≤g) {c:Nat}:m≤g+c:=Nat.le_add_right_of_le h
theorem st_expr:StC scr (m+10) (.expr n):=by
 intro f B ctl s w K Q hf h I hl q
 obtain ⟨g,rfl,hg⟩:=fuel hf
 exact enter (c_setline I fun w I=>c_value h I fun s w I h=>enter (c_add0 (i:=.pop) rfl (fun _=>rfl) h I q))
theorem st_var:StC scr (m+10) (.var n):=by
 intro f B ctl s w K Q hf h I hl q
 obtain ⟨g,rfl,hg⟩:=fuel hf
 refine enter (c_setline I fun w I=>enter ⟨rfl,c_value h I fun s w I h=>c_setname (.inr rfl) h I fun s w I h=>?_⟩)
 exact c_add0 (i:=.pop) rfl (fun _=>rfl) h I fun s w I h=>⟨rfl,rfl,q _ _ I h⟩
theorem st_thr {j:Nat}:StC scr (m+10) (.thr j):=by
 intro f B ctl s w K Q hf h I hl q
 obtain ⟨g,rfl,hg⟩:=fuel hf
 have h:CS.emits [.const j,.thr] s K:=h
 exact enter (c_setline I fun w I=>c_num h I fun s w I h=>c_add0 (i:=.thr) rfl (fun _=>rfl) h I q)
theorem dep_inv {K:Int→Prop} (h:s.dep K):∃ d,s.depth=some d∧K d:=by
 unfold CS.dep at h
 cases e:s.depth with
 | none=>rw [e] at h; exact h.elim
 | some d=>rw [e] at h; exact ⟨d,rfl,h⟩
theorem one_all {P:Tr→Prop} (h:P t):All P (.cons t .nil):=.cons h .nil
theorem last_snoc {K:NV→List NV→Prop} {x:NV}:∀ {l:List NV},K x l→lastK K (l++[x])
 | [],h=>h
 | [_],h=>h
 | _ :: _ :: _,h=>last_snoc (l:=_ :: _) (K:=fun z r=>K z (_ :: r)) h
theorem ctR_len:∀ (ctl:List Ctl),(ctR ctl).length=ctl.length
 | []=>rfl
 | _ :: r=>by unfold ctR; rw [List.length_append,ctR_len r]; rfl
theorem ctl_cap (h:ctl.length+m≤1000):(ctR ctl).length < cap:=by rw [ctR_len]; exact Nat.lt_of_le_of_lt (Nat.le_trans (Nat.le_add_right _ _) h) (by decide)
theorem hl0 (h:ctl.length+(m+10)≤1000):ctl.length+m≤1000:=by lia
theorem hl1 (h:ctl.length+(m+10)≤1000):ctl.length+1+m≤1000:=by lia
theorem st_if1 (H:StC scr m a):StC scr (m+10) (.if1 n a):=by
 intro f B ctl s w K Q hf h I hl q
 obtain ⟨g,rfl,hg⟩:=fuel hf
 obtain ⟨d,hd,h⟩:=dep_inv h
 exact enter (c_setline I fun w I=>enter (c_new h I fun l s w I h=>c_new h I fun l2 s w I h=>c_branch (b:=false) h I fun s w I h=>
  c_sts (one_all H) (ge hg) h I (hl0 hl) fun s w I h=>c_stand h I fun s w I h=>c_stand h I q))
theorem st_if2 (H:StC scr m a) (H2:StC scr m b):StC scr (m+10) (.if2 n a b):=by
 intro f B ctl s w K Q hf h I hl q
 obtain ⟨g,rfl,hg⟩:=fuel hf
 obtain ⟨d,hd,h⟩:=dep_inv h
 exact enter (c_setline I fun w I=>enter (c_new h I fun l s w I h=>c_new h I fun l2 s w I h=>c_branch (b:=false) h I fun s w I h=>
  c_sts (one_all H) (ge hg) h I (hl0 hl) fun s w I h=>c_jump (i:=.jmp l2) rfl h I fun s w I h=>c_stand h I fun s w I h=>c_sts (one_all H2) (ge hg) h I (hl0 hl) fun s w I h=>c_stand h I q))
theorem op_of {α:Type} {K:α→Prop} {o:Option α} {x:α} (e:o=some x) (h:K x):opK K o:=e▸h
section
variable {D:Nat→Option Ob}
theorem dset_same {a:Nat} {v:Option Ob}:dset D a v a=v:=if_pos rfl
theorem dset_set {a:Nat} {u v:Option Ob}:dset (dset D a u) a v=dset D a v:=funext fun b=>by
 show (if b=a then v else if b=a then u else D b)=if b=a then v else D b
 by_cases h:b=a
 ·rw [if_pos h,if_pos h]
 ·rw [if_neg h,if_neg h,if_neg h]
theorem dset_back {a:Nat} {u:Option Ob} (h:D a=none):dset (dset D a u) a none=D:=by
 rw [dset_set]
 exact funext fun b=>by
  show (if b=a then none else D b)=D b
  by_cases e:b=a
  ·rw [if_pos e,e,h]
  ·rw [if_neg e]
theorem q_d5 {a:Nat} {u0 u1 u2 u3 u4:Option Ob} {v:NV} {R:List Ob} (h:D a=none) (q:Q v ⟨R,D⟩):Q v ⟨R,dset (dset (dset (dset (dset (dset D a u0) a u1) a u2) a u3) a u4) a none⟩:=by
 rw [dset_set,dset_set,dset_set,dset_set,dset_back h]; exact q
end
theorem c_ctl {a b c d:NV} (h:Q (.fi 506 [26,27,28,29] [a,b,c,d]) (HS B w s ctl)):∀ x,(HS B w s ctl).dyn x=none→callN (txt scr) (k+1) 496 [.di x,a,b,c,d] (fun r σ=>onN (frz 90 (.di x) Q σ) r) ((HS B w s ctl).dput x (some (.I 506 [] []))):=
 fun x hx=>enter (op_of dset_same (op_of dset_same (op_of dset_same (op_of dset_same (op_of dset_same (q_d5 hx h))))))
theorem c_body {c:Ctl} {f:Nat} (H:StC scr m b) (hm:m≤f) (h:s.opn (comp b (c :: ctl)) K) (I:Inv s w) (hl:ctl.length+(m+10)≤1000) (q:Nx B ctl K Q .none):callN (txt scr) (f+3) 754 [.ins 2,layT b,ctV c] Q (HS B w s ctl):=
 enter ⟨ctl_cap hl,c_sts (ctl:=c :: ctl) (one_all H) hm h I (hl1 hl) fun s w I h=>last_snoc (l:=ctR ctl) (q _ _ I h)⟩
theorem st_wh {x:Nat} (H:StC scr m b):StC scr (m+10) (.wh x n b):=by
 intro f B ctl s w K Q hf h I hl q
 obtain ⟨g,rfl,hg⟩:=fuel hf
 obtain ⟨d,hd,h⟩:=dep_inv h
 refine enter (c_setline I fun w I=>enter ⟨1,enter (c_new h I fun l s w I h=>c_new h I fun l2 s w I h=>c_setline I fun w I=>c_ctl (enter (c_stand h I fun s w I h=>?_)))⟩)
 exact c_branch (b:=false) h I fun s w I h=>c_body (c:=⟨.loop,[x],l,l2⟩) H (ge hg) h I hl fun s w I h=>c_jump (i:=.jmp l2) rfl h I fun s w I h=>c_stand h I q
theorem st_dw {x:Nat} (H:StC scr m b):StC scr (m+10) (.dw x b n):=by
 intro f B ctl s w K Q hf h I hl q
 obtain ⟨g,rfl,hg⟩:=fuel hf
 obtain ⟨d,hd,h⟩:=dep_inv h
 refine enter (c_setline I fun w I=>enter ⟨1,enter (c_new h I fun l s w I h=>c_new h I fun l2 s w I h=>c_setline I fun w I=>c_ctl (enter ?_))⟩)
 exact c_new h I fun l3 s w I h=>c_stand h I fun s w I h=>c_body (c:=⟨.loop,[x],l,l2⟩) H (ge hg) h I hl fun s w I h=>c_stand h I fun s w I h=>c_branch (b:=true) h I fun s w I h=>c_stand h I q
theorem st_fr {x:Nat} {o:Option Nm} {z:Nm} (H:StC scr m b):StC scr (m+10) (.fr x o n z b):=by
 intro f B ctl s w K Q hf h I hl q
 obtain ⟨g,rfl,hg⟩:=fuel hf
 obtain ⟨d,hd,h⟩:=dep_inv h
 refine enter (c_setline I fun w I=>enter ⟨1,enter (c_new h I fun l s w I h=>c_new h I fun l2 s w I h=>c_setline I fun w I=>c_ctl (enter ?_))⟩)
 induction o using Option.casesOn with
 | none=>
  have h:s.newLabel d fun top s=>_:=h
  refine c_new h I fun l3 s w I h=>c_stand h I fun s w I h=>c_branch (b:=false) h I fun s w I h=>c_body (c:=⟨.loop,[x],l,l2⟩) H (ge hg) h I hl fun s w I h=>c_stand h I fun s w I h=>?_
  exact c_value h I fun s w I h=>c_add0 (i:=.pop) rfl (fun _=>rfl) h I fun s w I h=>c_jump (i:=.jmp l3) rfl h I fun s w I h=>c_stand h I q
 | some o=>
  refine c_value h I fun s w I h=>c_add0 (i:=.pop) rfl (fun _=>rfl) h I fun s w I h=>c_new (K2:=fun top s=>_) h I fun l3 s w I h=>c_stand h I fun s w I h=>c_branch (b:=false) h I fun s w I h=>?_
  refine c_body (c:=⟨.loop,[x],l,l2⟩) H (ge hg) h I hl fun s w I h=>c_stand h I fun s w I h=>?_
  exact c_value h I fun s w I h=>c_add0 (i:=.pop) rfl (fun _=>rfl) h I fun s w I h=>c_jump (i:=.jmp l3) rfl h I fun s w I h=>c_stand h I q
theorem st_fi {x:Nat} {v:Bool} (H:StC scr m b):StC scr (m+10) (.fi x v n b):=by
 intro f B ctl s w K Q hf h I hl q
 obtain ⟨g,rfl,hg⟩:=fuel hf
 obtain ⟨d,hd,h⟩:=dep_inv h
 refine enter (c_setline I fun w I=>enter ⟨1,enter (c_new h I fun l s w I h=>c_new h I fun l2 s w I h=>c_setline I fun w I=>c_ctl (enter ?_))⟩)
 induction v using Bool.casesOn with
 | true=>
  refine enter ⟨rfl,rfl,c_value h I fun s w I h=>c_add0 (i:=.forin) rfl (fun _=>rfl) h I fun s w I h=>c_stand h I fun s w I h=>c_jump (i:=.nextin l) rfl h I fun s w I h=>?_⟩
  refine enter ?_
  refine c_setname (.inl rfl) h I fun s w I h=>c_add0 (i:=.pop) rfl (fun _=>rfl) h I fun s w I h=>c_body (c:=⟨.keys,[x],l,l2⟩) H (ge hg) h I hl fun s w I h=>?_
  exact c_jump (i:=.jmp l2) rfl h I fun s w I h=>c_stand h I fun s w I h=>c_add0 (i:=.pop) rfl (fun _=>rfl) h I q
 | false=>
  refine c_value h I fun s w I h=>c_add0 (i:=.forin) rfl (fun _=>rfl) h I fun s w I h=>c_stand h I fun s w I h=>c_jump (i:=.nextin l) rfl h I fun s w I h=>?_
  refine enter ?_
  refine c_setname (.inr rfl) h I fun s w I h=>c_add0 (i:=.pop) rfl (fun _=>rfl) h I fun s w I h=>c_body (c:=⟨.keys,[x],l,l2⟩) H (ge hg) h I hl fun s w I h=>?_
  exact c_jump (i:=.jmp l2) rfl h I fun s w I h=>c_stand h I fun s w I h=>c_add0 (i:=.pop) rfl (fun _=>rfl) h I q
theorem new_dep (h:s.newLabel d' K2):s.newLabel d' fun l s'=>s'.depth=s.depth∧K2 l s':=by
 unfold CS.newLabel at h ⊢; exact ⟨h.1,rfl,h.2⟩
theorem st_blk {x:Nat} (H:All (StC scr m) b):StC scr (m+10) (.blk x b):=by
 intro f B ctl s w K Q hf h I hl q
 obtain ⟨g,rfl,hg⟩:=fuel hf
 obtain ⟨d,hd,h⟩:=dep_inv h
 refine enter (c_setline I fun w I=>enter ⟨1,c_new (new_dep h) I fun l s w I h=>c_ctl ⟨ctl_cap hl,?_⟩⟩)
 refine enter ⟨rfl,c_isopen (ctl:=⟨.label,[x],l,0⟩ :: ctl) (x:=true) (by rw [h.1,hd]) (enter (c_setline I fun w I=>c_sts H (ge hg) h.2 I (hl1 hl) fun s w I h=>⟨rfl,?_⟩))⟩
 exact last_snoc (l:=ctR ctl) (c_stand h I q)
end
end
section
noncomputable def lvs:List Ctl→List Ins
 | []=>[]
 | c :: r=>c.leave++lvs r
theorem exit_at {to:Ctl→Bool} {at':Ctl→Nat} {P:List Ins→Prop}:∀ {ctl:List Ctl},exitC to at' ctl P→∃ pre c post,ctl=pre++c :: post∧(∀ x∈pre,to x=false)∧to c=true∧c.kind.ok=true∧P (lvs pre++[.jmp (at' c)])
 | [],h=>h.elim
 | c :: r,h=>by
  unfold exitC at h
  cases e:to c <;> rw [e] at h
  ·obtain ⟨pre,c',post,rfl,h1,h2,h3⟩:=exit_at h
   refine ⟨c :: pre,c',post,rfl,fun x hx=>?_,h2,h3.1,?_⟩
   ·rcases List.mem_cons.mp hx with rfl | hx
    ·exact e
    ·exact h1 x hx
   ·unfold lvs; rw [List.append_assoc]; exact h3.2
  ·exact ⟨[],c,r,rfl,fun x hx=>(nomatch hx),e,h.1,h.2⟩
theorem ctR_eq:∀ (l:List Ctl),ctR l=(l.map ctV).reverse
 | []=>rfl
 | c :: r=>by unfold ctR; rw [ctR_eq r,List.map_cons,List.reverse_cons]
theorem ctR_app (pre post:List Ctl):ctR (pre++post)=ctR post++(pre.map ctV).reverse:=by rw [ctR_eq,ctR_eq,List.map_append,List.reverse_append]
theorem ctR_drop {pre post:List Ctl}:((ctR (pre++post)).drop post.length).reverse=pre.map ctV:=by
 rw [ctR_app,← ctR_len post,List.drop_left,List.reverse_reverse]
theorem ctR_get {pre post:List Ctl} {c:Ctl}:(ctR (pre++c :: post))[post.length]?=some (ctV c):=by
 rw [ctR_app]
 unfold ctR
 rw [List.append_assoc,← ctR_len post,List.getElem?_append_right (Nat.le_refl _),Nat.sub_self]; rfl
section
variable {scr:Nat→Option (List NV)} {B:Bs} {k m l d:Nat} {Q:Po} {s:CS} {w:Wit} {i:Ins} {K:CS→Prop} {K2:Nat→CS→Prop} {ctl:List Ctl} {n:Nm} {t a b:Tr}
theorem leave_st {c:Ctl} {is:List Ins} {j:Nat} {RR:PoS} {K':Fr→NH→Prop} (h:CS.emits (c.leave++is) s K) (I:Inv s w) (hK:∀ s w,Inv s w→CS.emits is s K→K' [some (.ins 3),some (.lst 11),some (.int j),some (ctV c)] (HS B w s ctl)) :
  wS (txt scr) (callN (txt scr) (k+3)) (match b517 with
   | .fo _ _ _ r=>r
   | _=>.sk) [some (.ins 3),some (.lst 11),some (.int j),some (ctV c)] (cR RR K') (HS B w s ctl):=by
 obtain ⟨kd,ls,bh,ag⟩:=c
 induction kd using CK.casesOn with
 | loop=>exact hK s w I h
 | choice=>exact hK s w I h
 | label=>exact hK s w I h
 | keys=>exact c_add0 (i:=.pop) rfl (fun _=>rfl) h I fun s w I h=>hK s w I h
 | guarded=>exact c_jump (i:=.gosub bh) rfl h I fun s w I h=>hK s w I h
 | fin=>exact c_add0 (i:=.pop) rfl (fun _=>rfl) h I fun s w I h=>c_add0 (i:=.pop) rfl (fun _=>rfl) h I fun s w I h=>hK s w I h
theorem leave_go {is:List Ins} {j:Nat} {RR:PoS} {chk:NH→Prop} {bd:Fr→PoS→NH→Prop} (hc:∀ s w,chk (HS B w s ctl)) (e2:bd=fun fr Q σ=>wS (txt scr) (callN (txt scr) (k+3)) (match b517 with
   | .fo _ _ _ r=>r
   | _=>.sk) fr Q σ) (q:∀ s w y,Inv s w→CS.emits is s K→RR .nxt [some (.ins 3),some (.lst 11),some (.int j),y] (HS B w s ctl)):∀ (pre:List Ctl) {xs s w} y,xs=pre.map ctV→CS.emits (lvs pre++is) s K→Inv s w →
  forW (.loc 3) chk bd RR xs [some (.ins 3),some (.lst 11),some (.int j),y] (HS B w s ctl):=by
 subst e2
 intro pre
 induction pre with
 | nil=>exact fun {xs s w} y e h I=>e▸⟨hc s w,q s w y I h⟩
 | cons c pre ih=>
  intro xs s w y e h I
  subst e
  unfold lvs at h
  rw [List.append_assoc] at h
  exact ⟨hc s w,leave_st h I fun s w I h=>ih _ rfl h I⟩
theorem c_leave {pre:List Ctl} {is:List Ins} {j:Nat} (hj:j≤cap) (e:((ctR ctl).drop j).reverse=pre.map ctV) (h:CS.emits (lvs pre++is) s K) (I:Inv s w) (q:Nx B ctl (CS.emits is · K) Q .none):callN (txt scr) (k+4) 517 [.ins 3,.lst 11,.int j] Q (HS B w s ctl):=
 enter ⟨hj,leave_go (fun s w=>by exact rfl) rfl (fun s w y I h=>q s w I h) pre none e h I⟩
noncomputable def dwn:List Ctl→List NV
 | []=>[]
 | _ :: r=>.int r.length :: dwn r
theorem dwn_eq:∀ (r:List Ctl),down ((r.length:Int) - 1) r.length=dwn r
 | []=>rfl
 | c :: r=>by
  have e:(((c :: r).length:Nat):Int) - 1=r.length:=by rw [List.length_cons]; lia
  rw [e]
  show NV.int r.length :: down ((r.length:Int) - 1) r.length=_
  rw [dwn_eq r]; rfl
theorem down_ctl:down ((ctR ctl).length - 1) (((ctR ctl).length:Int) - 1 - -1).toNat=dwn ctl:=by
 have e:(((ctR ctl).length:Int) - 1 - -1).toNat=ctl.length:=by rw [ctR_len]; lia
 rw [e,ctR_len,dwn_eq]
theorem down_cap (h:ctl.length+m≤1000):(((ctR ctl).length:Int) - 1).natAbs≤cap:=by rw [ctR_len]; have:cap=1048576:=rfl; lia
theorem c_isloop {c:Ctl} {σ:NH} (h:Q (.bool c.kind.isLoop) σ):callN (txt scr) (k+1) 503 [ctV c] Q σ:=by
 obtain ⟨kd,ls,bh,ag⟩:=c
 cases kd <;> exact enter h
theorem pds_str {σ:NH}:∀ {ls:List Nat},pds (pd σ 4) (ls.map .str)=some (ls.map .str)
 | []=>rfl
 | y :: ls=>by
  show optC _ (pds (pd σ 4) (ls.map .str))=_
  rw [pds_str (ls:=ls)]; rfl
theorem mem_str {x:Nat}:∀ {ls:List Nat},PD.mem (.str x) (ls.map .str)=isIn x ls
 | []=>rfl
 | y :: ls=>by
  show (match Nat.beq x y with
   | true=>true
   | false=>PD.mem (.str x) (ls.map .str))=_
  rw [mem_str (ls:=ls)]; rfl
theorem if_b {b:Bool} {A E:Prop} (h:match b with
  | true=>A
  | false=>E):ifT A E (.bool b):=by
 rcases b with _ | _
 ·exact h
 ·exact h
noncomputable def lp0 (b:S):S:=match b with
 | .sq (.fo _ _ _ r) _=>r
 | _=>.sk
noncomputable def jF (lo:Option Nat) (y2 y3:Option NV):Fr:=[some (.lst 11),some (optS lo),y2,y3]
theorem find_go {b':S} {to:Ctl→Bool} {lo:Option Nat} {C post:List Ctl} {c:Ctl} {σ:NH} {RR:PoS} {chk:NH→Prop} {bd:Fr→PoS→NH→Prop} (hc:chk σ) (e2:bd=fun fr Q σ=>wS (txt scr) (callN (txt scr) k) b' fr Q σ)
  (one:∀ (c:Ctl) (j:Nat) y3 (K':Fr→NH→Prop),(ctR C)[j]?=some (ctV c)→(match to c with
   | true=>∀ y3,RR (.ret (.int j)) (jF lo (some (.int j)) y3) σ
   | false=>∀ y3,K' (jF lo (some (.int j)) y3) σ)→wS (txt scr) (callN (txt scr) k) b' (jF lo (some (.int j)) y3) (cR RR K') σ)
  (q:∀ y3,RR (.ret (.int post.length)) (jF lo (some (.int post.length)) y3) σ) (ht:to c=true):∀ (p2 p1:List Ctl) {xs:List NV},xs=dwn (p2++c :: post)→C=p1++(p2++c :: post)→(∀ x∈p2,to x=false)→∀ y2 y3,forW (.loc 2) chk bd RR xs (jF lo y2 y3) σ:=by
 subst e2
 intro p2
 induction p2 with
 | nil=>exact fun p1 {xs} ex e h y2 y3=>ex▸⟨hc,one c post.length y3 _ (e▸ctR_get) (by rw [ht]; exact q)⟩
 | cons d p2 ih=>exact fun p1 {xs} ex e h y2 y3=>ex▸⟨hc,one d (p2++c :: post).length y3 (fun fr σ=>forW _ _ _ RR (dwn (p2++c :: post)) fr σ) (e▸ctR_get (post:=p2++c :: post)) (by
   rw [h d (.head _)]
   exact fun y3=>ih (p1++[d]) rfl (e.trans (List.append_assoc p1 [d] _).symm) (fun x hx=>h x (.tail _ hx)) _ _)⟩
theorem c_broken {lo:Option Nat} {pre post:List Ctl} {c:Ctl} (hl:(pre++c :: post).length+m≤1000) (h1:∀ x∈pre,x.brkTo lo=false) (h2:c.brkTo lo=true) (q:Q (.int post.length) (HS B w s (pre++c :: post))) :
  callN (txt scr) (k+2) 524 [.lst 11,optS lo] Q (HS B w s (pre++c :: post)):=by
 have key:=fun {RR:PoS} {chk:NH→Prop} {bd:Fr→PoS→NH→Prop} hc e2 q=>find_go (scr:=scr) (k:=k+1) (b':=lp0 b524) (to:=(Ctl.brkTo · lo)) (lo:=lo) (C:=pre++c :: post) (post:=post) (c:=c) (σ:=HS B w s (pre++c :: post)) (RR:=RR) (chk:=chk) (bd:=bd) hc e2 (fun c j y3 K' g h=>by
  obtain ⟨kd,ls,bh,ag⟩:=c
  rcases lo with _ | x
  ·rcases kd with _ | _ | _ | _ | _ | _ <;> exact nth_of g (c_isloop (c:=⟨_,ls,bh,ag⟩) (h _))
  ·have h:(match isIn x ls with
    | true=>∀ y3,RR (.ret (.int j)) (jF (some x) (some (.int j)) y3) (HS B w s (pre++c :: post))
    | false=>∀ y3,K' (jF (some x) (some (.int j)) y3) (HS B w s (pre++c :: post))):=h
   refine nth_of g (op_of pds_str ?_)
   rw [mem_str]
   refine if_b ?_
   rcases e:isIn x ls with _ | _ <;> rw [e] at h <;> exact h _) q h2 pre [] down_ctl rfl h1 none none
 exact enter ⟨rfl,down_cap hl,by decide,key trivial rfl fun _=>q⟩
theorem c_continued {lo:Option Nat} {pre post:List Ctl} {c:Ctl} (hl:(pre++c :: post).length+m≤1000) (h1:∀ x∈pre,x.conTo lo=false) (h2:c.conTo lo=true) (q:Q (.int post.length) (HS B w s (pre++c :: post))) :
  callN (txt scr) (k+2) 531 [.lst 11,optS lo] Q (HS B w s (pre++c :: post)):=by
 have key:=fun {RR:PoS} {chk:NH→Prop} {bd:Fr→PoS→NH→Prop} hc e2 q=>find_go (scr:=scr) (k:=k+1) (b':=lp0 b531) (to:=(Ctl.conTo · lo)) (lo:=lo) (C:=pre++c :: post) (post:=post) (c:=c) (σ:=HS B w s (pre++c :: post)) (RR:=RR) (chk:=chk) (bd:=bd) hc e2 (fun c j y3 K' g h=>by
  have h:(match (match c.kind.isLoop with
   | true=>(match lo with
    | none=>true
    | some l=>isIn l c.labs)
   | false=>false) with
   | true=>∀ y3,RR (.ret (.int j)) (jF lo (some (.int j)) y3) (HS B w s (pre++_ :: post))
   | false=>∀ y3,K' (jF lo (some (.int j)) y3) (HS B w s (pre++_ :: post))):=h
  refine nth_of g (c_isloop (c:=c) ?_)
  rcases e:c.kind.isLoop with _ | _ <;> rw [e] at h
  ·exact h _
  ·rcases lo with _ | x
   ·exact h _
   ·have h:(match isIn x c.labs with
     | true=>∀ y3,RR (.ret (.int j)) (jF (some x) (some (.int j)) y3) (HS B w s (pre++_ :: post))
     | false=>∀ y3,K' (jF (some x) (some (.int j)) y3) (HS B w s (pre++_ :: post))):=h
    refine op_of (pds_str (ls:=c.labs)) ?_
    rw [mem_str]
    refine if_b ?_
    rcases e:isIn x c.labs with _ | _ <;> rw [e] at h <;> exact h _) q h2 pre [] down_ctl rfl h1 none none
 exact enter ⟨rfl,down_cap hl,by decide,key trivial rfl fun _=>q⟩
theorem leave_len {pre post:List Ctl} {c:Ctl} (hl:(pre++c :: post).length+m≤1000):post.length+1≤cap:=by
 rw [List.length_append,List.length_cons] at hl; have:cap=1048576:=rfl; lia
theorem drop1 {pre post:List Ctl} {c:Ctl}:((ctR (pre++c :: post)).drop (post.length+1)).reverse=pre.map ctV:=ctR_drop (post:=c :: post)
theorem st_brk {lo:Option Nat}:StC scr (m+10) (.brk lo):=by
 intro f B ctl s w K Q hf h I hl q
 obtain ⟨g,rfl,hg⟩:=fuel hf
 obtain ⟨pre,c,post,rfl,h1,h2,ok,h⟩:=exit_at h
 refine enter (c_setline I fun w I=>enter (c_broken hl h1 h2 (c_leave (leave_len hl) drop1 h I fun s w I h=>nth_of ctR_get ?_)))
 obtain ⟨kd,ls,bh,ag⟩:=c
 cases kd <;> first | exact c_jump (i:=.jmp bh) rfl h I q | exact nomatch ok
theorem st_con {lo:Option Nat}:StC scr (m+10) (.con lo):=by
 intro f B ctl s w K Q hf h I hl q
 obtain ⟨g,rfl,hg⟩:=fuel hf
 obtain ⟨pre,c,post,rfl,h1,h2,ok,h⟩:=exit_at h
 refine enter (c_setline I fun w I=>enter (c_continued hl h1 h2 (c_leave (leave_len hl) drop1 h I fun s w I h=>nth_of ctR_get ?_)))
 obtain ⟨kd,ls,bh,ag⟩:=c
 cases kd <;> first | exact c_jump (i:=.jmp ag) rfl h I q | cases h2
theorem comp_inv {p:Pt} {chk:NH→Prop} {cs:Fr→(Bool→NH→Prop)→NH→Prop} {elt:Fr→Po→NH→Prop} {K:Fr→List NV→NH→Prop} (J:List NV→List NV→Fr→NH→Prop)
  (h:∀ x xs acc fr σ (G:Fr→List NV→NH→Prop),J (x :: xs) acc fr σ→(∀ fr acc σ,J xs acc fr σ→G fr acc σ)→chk σ∧bindP p x fr fun fr=>cs fr (fun b σ=>match b with
   | true=>elt fr (fun v σ=>acc.length < cap∧G fr (acc++[v]) σ) σ
   | false=>G fr acc σ) σ)
  (e:∀ acc fr σ,J [] acc fr σ→chk σ∧K fr acc σ):∀ xs fr acc σ,J xs acc fr σ→loopC p chk cs elt K xs fr acc σ
 | [],fr,acc,σ,j=>e acc fr σ j
 | x :: xs,fr,acc,σ,j=>h x xs acc fr σ _ j fun fr acc σ j=>comp_inv J h e xs fr acc σ j
noncomputable def gdV (c:Ctl):NV:=.bool (match c.kind with
 | .guarded=>true
 | _=>false)
theorem isB_gd:∀ {l:List Ctl},isB (l.map gdV)=some (isGd l)
 | []=>rfl
 | c :: r=>by
  obtain ⟨kd,ls,bh,ag⟩:=c
  cases kd
  case guarded=>
   show (isB (r.map gdV)).map _=_
   rw [isB_gd (l:=r)]; rfl
  all_goals exact isB_gd (l:=r)
theorem gd_app:∀ {a b:List Ctl},isGd (a++b)=(isGd a || isGd b)
 | [],_=>rfl
 | c :: r,b=>by
  obtain ⟨kd,ls,bh,ag⟩:=c
  cases kd
  case guarded=>rfl
  all_goals exact gd_app (a:=r)
theorem gd_rev:∀ {l:List Ctl},isGd l.reverse=isGd l
 | []=>rfl
 | c :: r=>by
  rw [List.reverse_cons,gd_app,gd_rev (l:=r),Bool.or_comm]
  exact (gd_app (a:=[c]) (b:=r)).symm
theorem gd_go {L:List Ctl} {σ:NH} {chk:NH→Prop} {cs:Fr→(Bool→NH→Prop)→NH→Prop} {elt:Fr→Po→NH→Prop} {Kf:Fr→List NV→NH→Prop} (hc:chk σ) (hcs:∀ fr G,G true σ→cs fr G σ) (he:∀ (c:Ctl) Q,Q (gdV c) σ→elt [some (.lst 11),some (ctV c)] Q σ) (q:∀ fr,Kf fr (L.map gdV) σ) (hl:L.length≤cap) :
  ∀ (r d:List Ctl) {xs acc y},xs=r.map ctV→acc=d.map gdV→L=d++r→loopC (.loc 1) chk cs elt Kf xs [some (.lst 11),y] acc σ:=by
 intro r
 induction r with
 | nil=>exact fun d {xs acc y} e1 e2 e=>e1▸⟨hc,by rw [e2,← List.append_nil d,← e]; exact q _⟩
 | cons c r ih=>exact fun d {xs acc y} e1 e2 e=>e1▸⟨hc,hcs _ _ (he c _ ⟨by rw [e2,List.length_map]; exact Nat.lt_of_lt_of_le (by rw [e,List.length_append]; exact Nat.lt_add_of_pos_right (Nat.succ_pos _)) hl,ih (d++[c]) rfl (by rw [e2,List.map_append]; rfl) (by rw [e,List.append_assoc]; rfl)⟩)⟩
theorem c_guarded (hl:ctl.length+m≤1000) (q:Q (.bool (isGd ctl)) (HS B w s ctl)):callN (txt scr) (k+1) 550 [.lst 11] Q (HS B w s ctl):=by
 refine enter (gd_go (L:=ctl.reverse) ?_ ?_ ?_ ?_ ?_ ctl.reverse [] ?_ rfl rfl)
 ·rfl
 ·exact fun fr G h=>h
 ·exact fun c Q h=>by
   obtain ⟨kd,ls,bh,ag⟩:=c
   rcases kd with _ | _ | _ | _ | _ | _ <;> exact h
 ·exact fun fr=>op_of (isB_gd.trans (congrArg some gd_rev)) q
 ·rw [List.length_reverse]; exact Nat.le_trans (Nat.le_add_right _ _) (Nat.le_trans hl (by decide))
 ·rw [ctR_eq,List.map_reverse]
theorem retCode_eq {j:Nat}:∀ {ctl:List Ctl},retCode j ctl=lvs ctl++[.getloc j,.ret]
 | []=>rfl
 | c :: r=>by unfold retCode lvs; rw [retCode_eq (ctl:=r),List.append_assoc]
noncomputable def retK' (ctl:List Ctl) (K:Kc) (s:CS):Prop:=match isGd ctl with
 | true=>CS.emits [.setloc s.locals,.pop] ⟨s.code,s.labels,s.depth,s.hs,s.locals+1⟩ fun s'=>CS.emits (retCode s.locals ctl) s' K
 | false=>CS.emits [.ret] s K
theorem ret_tail {v:NV} {g:Nat} (hl:ctl.length+m≤1000) (q:Nx B ctl K Q .none):Nx B ctl (retK' ctl K) (fun _ σ=>wS (txt scr) (callN (txt scr) (g+6)) (match b796 with
  | .sq _ r=>r
  | _=>.sk) [some (.ins 2),some v,none] (retK Q) σ) .none:=by
 intro s w I h
 refine c_guarded hl ?_
 unfold retK' at h
 cases e:isGd ctl <;> rw [e] at h
 ·exact c_add0 (i:=.ret) rfl (fun _=>rfl) h I q
 ·have h:CS.emits [.setloc s.locals,.pop] ⟨s.code,s.labels,s.depth,s.hs,s.locals+1⟩ (fun s'=>CS.emits (retCode s.locals ctl) s' K):=h
  refine c_local I (enter (c_add (i:=.setloc s.locals) (one_emit rfl h) rfl I.eq fun s w I h=>c_add0 (i:=.pop) rfl (fun _=>rfl) h I fun s w I h=>?_))
  replace h:=retCode_eq▸h
  refine c_leave (pre:=ctl) (Nat.zero_le _) (by rw [ctR_eq]; exact List.reverse_reverse _) h I fun s w I h=>?_
  exact c_add (i:=.getloc _) (one_emit rfl h) rfl I fun s w I h=>c_add0 (i:=.ret) rfl (fun _=>rfl) h I q
theorem st_ret {o:Option Nm}:StC scr (m+10) (.ret o):=by
 intro f B ctl s w K Q hf h I hl q
 obtain ⟨g,rfl,hg⟩:=fuel hf
 have h:s.one (retIns o) (fun s=>match isGd ctl with
  | true=>CS.emits [.setloc s.locals,.pop] ⟨s.code,s.labels,s.depth,s.hs,s.locals+1⟩ fun s'=>CS.emits (retCode s.locals ctl) s' K
  | false=>CS.emits [.ret] s K):=h
 induction o using Option.casesOn
 ·refine enter (c_setline I fun w I=>enter (c_add0 (i:=.undef) rfl (fun _=>rfl) h I ?_))
  exact ret_tail hl q
 ·refine enter (c_setline I fun w I=>enter (c_value h I ?_))
  exact ret_tail hl q
end
end
section
section
variable {scr:Nat→Option (List NV)} {B:Bs} {k m l d:Nat} {d':Int} {Q:Po} {s:CS} {w:Wit} {i:Ins} {K:CS→Prop} {K2:Nat→CS→Prop} {K3:Nat→Nat→CS→Prop} {e' d'':Int} {ctl:List Ctl} {n:Nm} {t a b:Tr}
theorem cap0:0 < cap:=by decide
theorem cap1:1 < cap:=by decide
theorem c_tests {t1 t2:Option Nm} {x y:NV} {l1 l2:Nat} (h:testC d' t1 l1 s fun s=>testC d' t2 l2 s fun s=>CS.emits [.pop,.jmp (match isNo t2 with
    | true=>l2
    | false=>(match isNo t1 with
     | true=>l1
     | false=>l))] s K) (I:Inv s w) (q:Nx B ctl K Q .none):callN (txt scr) (k+6) 571 [.ins 3,.fl [.tup [optT t1,x],.tup [optT t2,y]],.fl [.int l1,.int l2],.int l,.bnd 2 601] Q (HS B w s ctl):=by
 induction t1 using Option.casesOn <;> induction t2 using Option.casesOn
 ·exact enter ⟨rfl,rfl,rfl,c_add0 (i:=.pop) rfl (fun _=>rfl) h I fun s w I h=>c_jump (i:=.jmp _) rfl h I q⟩
 ·refine enter ⟨rfl,rfl,c_new h I fun l3 s w I h=>c_add0 (i:=.dup) rfl (fun _=>rfl) h I fun s w I h=>c_value h I fun s w I h=>c_add0 (i:=.seq) rfl (fun _=>rfl) h I fun s w I h=>?_⟩
  refine c_jump (i:=.jf l3) rfl h I fun s w I h=>c_add0 (i:=.pop) rfl (fun _=>rfl) h I fun s w I h=>c_jump (i:=.jmp l2) rfl h I fun s w I h=>c_stand h I fun s w I h=>⟨rfl,?_⟩
  exact c_add0 (i:=.pop) rfl (fun _=>rfl) h I fun s w I h=>c_jump (i:=.jmp _) rfl h I q
 ·refine enter ⟨rfl,c_new h I fun l3 s w I h=>c_add0 (i:=.dup) rfl (fun _=>rfl) h I fun s w I h=>c_value h I fun s w I h=>c_add0 (i:=.seq) rfl (fun _=>rfl) h I fun s w I h=>?_⟩
  refine c_jump (i:=.jf l3) rfl h I fun s w I h=>c_add0 (i:=.pop) rfl (fun _=>rfl) h I fun s w I h=>c_jump (i:=.jmp l1) rfl h I fun s w I h=>c_stand h I fun s w I h=>⟨rfl,rfl,?_⟩
  exact c_add0 (i:=.pop) rfl (fun _=>rfl) h I fun s w I h=>c_jump (i:=.jmp _) rfl h I q
 ·refine enter ⟨rfl,c_new h I fun l3 s w I h=>c_add0 (i:=.dup) rfl (fun _=>rfl) h I fun s w I h=>c_value h I fun s w I h=>c_add0 (i:=.seq) rfl (fun _=>rfl) h I fun s w I h=>?_⟩
  refine c_jump (i:=.jf l3) rfl h I fun s w I h=>c_add0 (i:=.pop) rfl (fun _=>rfl) h I fun s w I h=>c_jump (i:=.jmp l1) rfl h I fun s w I h=>c_stand h I fun s w I h=>⟨rfl,?_⟩
  refine c_new h I fun l3 s w I h=>c_add0 (i:=.dup) rfl (fun _=>rfl) h I fun s w I h=>c_value h I fun s w I h=>c_add0 (i:=.seq) rfl (fun _=>rfl) h I fun s w I h=>?_
  refine c_jump (i:=.jf l3) rfl h I fun s w I h=>c_add0 (i:=.pop) rfl (fun _=>rfl) h I fun s w I h=>c_jump (i:=.jmp l2) rfl h I fun s w I h=>c_stand h I fun s w I h=>⟨rfl,?_⟩
  exact c_add0 (i:=.pop) rfl (fun _=>rfl) h I fun s w I h=>c_jump (i:=.jmp _) rfl h I q
theorem st_sw {t1 t2:Option Nm} (H1:All (StC scr m) a) (H2:All (StC scr m) b):StC scr (m+10) (.sw n t1 a t2 b):=by
 intro f B ctl s w K Q hf h I hl q
 obtain ⟨g,rfl,hg⟩:=fuel hf
 obtain ⟨d,hd,h⟩:=dep_inv h
 refine enter (c_setline I fun w I=>enter (c_new h I fun l s w I h=>⟨rfl,c_new h I fun l1 s w I h=>⟨cap0,rfl,c_new h I fun l2 s w I h=>⟨cap1,rfl,?_⟩⟩⟩))
 refine c_value h I fun s w I h=>c_tests h I fun s w I h=>c_ctl ⟨ctl_cap hl,rfl,?_⟩
 refine c_stand (ctl:=⟨.choice,[],l,0⟩ :: ctl) h I fun s w I h=>c_sts H1 (ge hg) h I (hl1 hl) fun s w I h=>⟨rfl,?_⟩
 refine c_stand (ctl:=⟨.choice,[],l,0⟩ :: ctl) h I fun s w I h=>c_sts H2 (ge hg) h I (hl1 hl) fun s w I h=>⟨rfl,?_⟩
 exact last_snoc (l:=ctR ctl) (c_stand h I q)
theorem c_close {hl:Bool} {rest fin:Nat} (h:CS.emits (closeG hl rest fin) s K) (I:Inv s w) (q:Nx B ctl K Q .none):callN (txt scr) (k+4) 817 [.ins 2,bN hl (.fl (layP t)),.int rest,.int fin] Q (HS B w s ctl):=by
 induction hl using Bool.casesOn
 ·exact enter (c_jump (i:=.jmp fin) rfl h I q)
 ·exact enter (c_jump (i:=.gosub rest) rfl h I fun s w I h=>c_jump (i:=.jmp fin) rfl h I q)
theorem c_last' {f:Nat} (H:All (StC scr m) t) (hm:m≤f) (hl:ctl.length+(m+10)≤1000) (h:comp t (⟨.fin,[],0,0⟩ :: ctl) s fun s=>CS.emits [.retsub] s K) (I:Inv s w) (q:Nx B ctl K Q .none):callN (txt scr) (f+3) 831 [.ins 2,.fl (layP t),.none] Q (HS B w s ctl):=by
 refine enter (enter (c_ctl ⟨ctl_cap hl,c_sts (ctl:=⟨.fin,[],0,0⟩ :: ctl) H hm h I (hl1 hl) fun s w I h=>last_snoc (l:=ctR ctl) ?_⟩))
 exact c_add0 (i:=.retsub) rfl (fun _=>rfl) h I q
theorem c_caught {f start stop:Nat} {x:NV} {ps:List NV} (H:All (StC scr m) t) (hm:m≤f) (hl:ctl.length+m≤1000) (h:s.newLabel (d'+1) fun h s=>s.handler ⟨start,stop,h,d',false⟩ fun s=>s.enter h (d'+1) fun s=>CS.emits [.setloc 9,.pop] s fun s=>comp t ctl s K) (I:Inv s w) (q:Nx B ctl K Q .none) :
  callN (txt scr) (f+9) 824 [.ins 2,.fi 853 [26,17,30,22] [.str 50,.int 1,.fl (x :: .str 57 :: .fl (layP t) :: ps),viewN],.int start,.int stop,.int d',.none] Q (HS B w s ctl):=by
 refine enter (c_new h I fun l s w I h=>c_handler (x:=⟨start,stop,l,d',false⟩) h I fun s w I h=>c_enter h I fun s w I h=>?_)
 refine enter (c_add (i:=.setloc 9) (one_emit rfl h) rfl I fun s w I h=>c_add0 (i:=.pop) rfl (fun _=>rfl) h I fun s w I h=>?_)
 exact c_sts H (Nat.le_add_right_of_le hm) h I hl q
theorem beq_dec {x y:Nat}:decide ((x:Int)=y)=Nat.beq x y:=by
 cases e:Nat.beq x y with
 | true=>rw [Nat.eq_of_beq_eq_true e]; exact decide_eq_true rfl
 | false=>exact decide_eq_false fun h=>Nat.ne_of_beq_eq_false e (Int.ofNat.inj h)
noncomputable def S.drop:Nat→S→S
 | 0,s=>s
 | n+1,s=>match s with
  | .sq _ r=>r.drop n
  | _=>.sk
noncomputable def gCtl (hl:Bool) (rest:Nat) (ctl:List Ctl):List Ctl:=match hl with
 | true=>⟨.guarded,[],rest,0⟩ :: ctl
 | false=>ctl
theorem gCtl_len {hl:Bool} {rest:Nat} (h:ctl.length+(m+10)≤1000):(gCtl hl rest ctl).length+m≤1000:=by
 induction hl using Bool.casesOn
 ·exact hl0 h
 ·exact hl1 h
theorem try_tail {hl:Bool} {rest start fin f:Nat} {v0 v1 v2 v3 v4 v5 v6:Option NV} (H:All (StC scr m) t) (hm:m≤f) (hl':ctl.length+(m+10)≤1000) (q:Nx B ctl K Q .none) :
  Nx B (gCtl hl rest ctl) (fun s=>ifC hl (lastC (comp t (⟨.fin,[],0,0⟩ :: ctl)) rest start d') s fun s=>s.stand fin K)
   (fun _ σ=>wS (txt scr) (callN (txt scr) (f+7)) (S.drop 9 b803) [some (.ins 2),v0,v1,v2,v3,some (bN hl (.fl (layP t))),some (.int fin),some (.int rest),some (.int d'),some .none,some (.int start),v4,v5,v6] (retK Q) σ) .none:=by
 intro s w I h
 induction hl using Bool.casesOn
 ·exact c_stand h I q
 ·have h:s.mark _:=h
  refine last_snoc (l:=ctR ctl) (c_mark (ctl:=ctl) h I fun l s w I h=>c_handler (x:=⟨start,l,rest,d',true⟩) h I fun s w I h=>c_enter h I fun s w I h=>?_)
  exact c_last' H (Nat.le_add_right_of_le hm) hl' h I fun s w I h=>c_stand h I q
theorem new_dep2 (h:s.newLabel d' fun l s=>s.newLabel e' (K3 l)) (hd:s.depth=some d''):s.newLabel d' fun l s=>s.newLabel e' fun l2 s=>s.depth=some d''∧K3 l l2 s:=by
 unfold CS.newLabel at h ⊢
 exact ⟨h.1,h.2.1,hd,h.2.2⟩
theorem try_mid {hc hl':Bool} {c l:Tr} {rest start fin f:Nat} {v1:Option NV} {s₀:CS} {w₀:Wit} (H:All (StC scr m) b) (Hc:All (StC scr m) c) (Hl:All (StC scr m) l) (hm:m≤f) (hl:ctl.length+(m+10)≤1000)
  (h:comp b (gCtl hl' rest ctl) s₀ fun s=>s.mark fun stop s₁=>CS.emits (closeG hl' rest fin) s₁ fun s=>
   ifC (hc&&!Nat.beq s₁.code.length s₀.code.length) (catchC (comp c (gCtl hl' rest ctl)) hl' rest fin start stop d') s fun s=>ifC hl' (lastC (comp l (⟨.fin,[],0,0⟩ :: ctl)) rest start d') s fun s=>s.stand fin K)
  (I₀:Inv s₀ w₀) (q:Nx B ctl K Q .none):wS (txt scr) (callN (txt scr) (f+9)) (S.drop 5 b803) [some (.ins 2),some (layT (.try b hc c hl' l)),some (.fl (layP b)),v1,some (bN hc (.fl (layP c))),some (bN hl' (.fl (layP l))),some (.int fin),some (.int rest),some (.int d'),some .none,some (.int start),some (.int w₀.co.length),none,none] (retK Q) (HS B w₀ s₀ (gCtl hl' rest ctl)):=by
 refine c_sts H (Nat.le_add_right_of_le hm) h I₀ (gCtl_len hl) fun s w I h=>c_mark h I fun stop s₁ w₁ I₁ h=>enter (c_close h I₁ fun s w I h=>?_)
 have e1:PD.beq (.int w₁.co.length) (.int w₀.co.length)=Nat.beq s₁.code.length s₀.code.length:=by rw [I₁.code.len,I₀.code.len]; exact beq_dec
 induction hc using Bool.casesOn with
 | false=>exact try_tail Hl (Nat.le_add_right_of_le hm) hl q _ _ I h
 | true=>
  cases e:Nat.beq s₁.code.length s₀.code.length <;> rw [e] at h e1
  ·have h:catchC (comp c (gCtl hl' rest ctl)) hl' rest fin start stop d' s (fun s=>ifC hl' (lastC (comp l (⟨.fin,[],0,0⟩ :: ctl)) rest start d') s fun s=>s.stand fin K):=h
   refine if_f e1 (c_caught (ctl:=gCtl hl' rest ctl) Hc hm (gCtl_len hl) h I fun s w I h=>c_close (ctl:=gCtl hl' rest ctl) h I fun s w I h=>?_)
   exact try_tail Hl (Nat.le_add_right_of_le hm) hl q _ _ I h
  ·refine if_t e1 ?_
   exact try_tail Hl (Nat.le_add_right_of_le hm) hl q _ _ I h
theorem st_try {hc hl':Bool} {c l:Tr} (H:All (StC scr m) b) (Hc:All (StC scr m) c) (Hl:All (StC scr m) l):StC scr (m+10) (.try b hc c hl' l):=by
 intro f B ctl s w K Q hf h I hl q
 obtain ⟨g,rfl,hg⟩:=fuel hf
 obtain ⟨d,hd,h⟩:=dep_inv h
 refine enter (c_setline I fun w I=>enter (c_new (new_dep2 h hd) I fun fin s w I h=>c_new h I fun rest s w I h=>?_))
 obtain ⟨hd,h⟩:=h
 obtain ⟨co,lb,dp,hs,lo⟩:=s
 subst hd
 have h:CS.mark _ (fun start s₀=>comp b (gCtl hl' rest ctl) s₀ fun s=>s.mark fun stop s₁=>CS.emits (closeG hl' rest fin) s₁ fun s=>
   ifC (hc&&!Nat.beq s₁.code.length s₀.code.length) (catchC (comp c (gCtl hl' rest ctl)) hl' rest fin start stop d) s fun s=>ifC hl' (lastC (comp l (⟨.fin,[],0,0⟩ :: ctl)) rest start d) s fun s=>s.stand fin K):=h
 refine enter (c_mark h I fun start s₀ w₀ I₀ h=>enter ?_)
 induction hl' using Bool.casesOn with
 | false=>exact try_mid H Hc Hl hg hl h I₀ q
 | true=>exact c_ctl ⟨ctl_cap hl,try_mid (ctl:=ctl) H Hc Hl hg hl h I₀ q⟩
end
end
section
noncomputable def Tr.h:Tr→Nat
 | .if1 _ a=>a.h+1
 | .if2 _ a b=>max a.h b.h+1
 | .wh _ _ b=>b.h+1
 | .dw _ b _=>b.h+1
 | .fr _ _ _ _ b=>b.h+1
 | .fi _ _ _ b=>b.h+1
 | .try b _ c _ l=>max b.h (max c.h l.h)+1
 | .sw _ _ a _ b=>max a.h b.h+1
 | .blk _ b=>b.h+1
 | .cons a r=>max a.h r.h
 | _=>0
noncomputable def Tr.ok:Tr→Bool→Bool
 | .if1 _ a,s=>!s&&a.ok false
 | .if2 _ a b,s=>!s&&a.ok false&&b.ok false
 | .wh _ _ b,s=>!s&&b.ok false
 | .dw _ b _,s=>!s&&b.ok false
 | .fr _ _ _ _ b,s=>!s&&b.ok false
 | .fi _ _ _ b,s=>!s&&b.ok false
 | .try b _ c _ l,s=>!s&&b.ok true&&c.ok true&&l.ok true
 | .sw _ _ a _ b,s=>(!s&&a.ok true&&b.ok true)&&(Nat.ble a.len 1000&&Nat.ble b.len 1000)
 | .blk _ b,s=>!s&&b.ok true
 | .thr j,s=>!s&&Nat.ble j 2
 | .nil,s=>s
 | .cons a r,s=>s&&a.ok false&&r.ok true
 | _,s=>!s
section
variable {scr:Nat→Option (List NV)} {m m':Nat} {t:Tr}
theorem StC.mono (h:StC scr m t) (q:m≤m'):StC scr m' t:=fun f B ctl s w K Q hf c I hl=>h f B ctl s w K Q (Nat.le_trans q hf) c I (Nat.le_trans (Nat.add_le_add_left q _) hl)
theorem All.mono (h:All (StC scr m) t) (q:m≤m'):All (StC scr m') t:=by
 induction h with
 | nil=>exact .nil
 | cons a _ ih=>exact .cons (a.mono q) ih
noncomputable def StL (scr:Nat→Option (List NV)) (h:Nat) (t:Tr):Bool→Prop
 | false=>StC scr (10 * h+10) t
 | true=>All (StC scr (10 * h+10)) t
theorem StL.mono {h h':Nat} {s:Bool} (a:StL scr h t s) (q:h≤h'):StL scr h' t s:=by
 have:10 * h+10≤10 * h'+10:=by lia
 induction s using Bool.casesOn
 ·exact StC.mono a this
 ·exact All.mono a this
theorem and2 {a b:Bool} (h:(a&&b)=true):a=true∧b=true:=by induction a using Bool.casesOn <;> induction b using Bool.casesOn <;> first | exact ⟨rfl,rfl⟩ | cases h
theorem wst:∀ (t:Tr) (s:Bool),t.ok s=true→StL scr t.h t s
 | .expr n,false,h=>st_expr (m:=0)
 | .var n,false,h=>st_var (m:=0)
 | .thr j,false,h=>st_thr (m:=0)
 | .brk l,false,h=>st_brk (m:=0)
 | .con l,false,h=>st_con (m:=0)
 | .ret o,false,h=>st_ret (m:=0)
 | .if1 n a,false,h=>st_if1 (wst a false h)
 | .if2 n a b,false,h=>have h:=and2 h; st_if2 ((wst a false h.1).mono (Nat.le_max_left _ _)) ((wst b false h.2).mono (Nat.le_max_right _ _))
 | .wh w n b,false,h=>st_wh (wst b false h)
 | .dw w b n,false,h=>st_dw (wst b false h)
 | .fr w i n z b,false,h=>st_fr (wst b false h)
 | .fi w v n b,false,h=>st_fi (wst b false h)
 | .try b hc c hl l,false,h=>have h:=and2 h; have h1:=and2 h.1; st_try ((wst b true h1.1).mono (Nat.le_max_left _ _)) ((wst c true h1.2).mono (Nat.le_trans (Nat.le_max_left _ _) (Nat.le_max_right _ _))) ((wst l true h.2).mono (Nat.le_trans (Nat.le_max_right _ _) (Nat.le_max_right _ _)))
 | .sw n t1 a t2 b,false,h=>have h:=and2 (and2 h).1; st_sw ((wst a true h.1).mono (Nat.le_max_left _ _)) ((wst b true h.2).mono (Nat.le_max_right _ _))
 | .blk w b,false,h=>st_blk (wst b true h)
 | .nil,true,h=>.nil
 | .cons a r,true,h=>have h:=and2 h; .cons ((wst a false h.1).mono (h':=max a.h r.h) (Nat.le_max_left _ _)) ((wst r true h.2).mono (Nat.le_max_right _ _))
end
end
section
structure P12 where
 o0:Ob
 o1:Ob
 o2:Ob
 o3:Ob
 o4:Ob
 o5:Ob
 o6:Ob
 o7:Ob
 o8:Ob
 o9:Ob
 oa:Ob
 ob:Ob
noncomputable def evV:Ev→NV
 | .get n=>.tup [.str 68,.str n]
 | .set n v=>.tup [.str 69,.str n,.str v]
noncomputable def evL:List Ev→List NV
 | []=>[]
 | e :: r=>evL r++[evV e]
theorem ev_len:∀ {l:List Ev},l.length < lim→(evL l).length < cap:=fun h=>by
 have:∀ l:List Ev,(evL l).length=l.length:=fun l=>by
  induction l with
  | nil=>rfl
  | cons e r ih=>unfold evL; rw [List.length_append,ih]; rfl
 rw [this]; exact lt_cap h
noncomputable def G (p:P12) (h:W) (kept:List (Nat × Nat)) (t:W) (rest:List Ob) (D:Nat→Option Ob):NH:=⟨p.o0 :: p.o1 :: p.o2 :: p.o3 :: p.o4 :: p.o5 :: p.o6 :: p.o7 :: p.o8 :: p.o9 :: p.oa :: p.ob ::
 .L (evL h.seen) :: .L (h.left.map .str) :: .E (kept.map fun x=>((x.1:Int),.str x.2)) :: .D [67,66,57,77] [.lst 12,.lst 13,.str h.x,.dct 14] ::
 .L (evL t.seen) :: .L (t.left.map .str) :: .D [67,66,57] [.lst 16,.lst 17,.str t.x] :: rest,D⟩
section
variable {scr:Nat→Option (List NV)} {p:P12} {h t:W} {kept:List (Nat × Nat)} {rest:List Ob} {D:Nat→Option Ob} {k:Nat} {Q:Po} {n:Nm} {Y F:Nat→W→Prop} {v:NV}
theorem pds3 {σ:NH}:∀ {ls:List Nat},pds (pd σ 3) (ls.map .str)=some (ls.map .str)
 | []=>rfl
 | y :: ls=>by
  show optC _ (pds (pd σ 3) (ls.map .str))=_
  rw [pds3 (ls:=ls)]; rfl
theorem fl3 {σ:NH} {ls:List Nat}:(pds (pd σ 3) (ls.map .str)).map PD.fl=some (.fl (ls.map .str)):=by rw [pds3]; rfl
theorem cat_e {v:Nat} (h:v≤2):cat 3 v=some (v+7):=by
 show (match Nat.ble v 2 with
  | true=>some (v+7)
  | false=>none)=_
 rw [Nat.ble_eq_true_of_le h]
theorem set_inv {x y:Nat} {w:W} {K:W→Prop} (c:w.setK x y K):(evL w.seen).length < cap∧K (w.ev (.set x y)):=by unfold W.setK at c; exact ⟨ev_len c.1,c.2⟩
theorem c_getT (c:t.get n Y F) (qY:∀ v t,Y v t→Q (.tup [.str v,.none]) (G p h kept t rest D)) (qF:∀ v t,F v t→Q (.tup [.none,.str v]) (G p h kept t rest D)):callN (txt scr) (k+1) 911 [.dct 18,.str n.s] Q (G p h kept t rest D):=by
 obtain ⟨sn,lf,x⟩:=t
 unfold W.get at c
 obtain ⟨c0,c⟩:=c
 have c1:=ev_len c0
 induction n using Nm.casesOn
 case x=>exact enter ⟨c1,qY _ _ c⟩
 case e=>
  cases lf with
  | nil=>exact enter ⟨c1,qF _ _ c.2⟩
  | cons v lf=>exact enter ⟨c1,op_of (fl3 (ls:=v :: lf)) ⟨rfl,op_of (cat_e c.1) (qF _ _ c.2)⟩⟩
 all_goals
  cases lf with
  | nil=>exact enter ⟨c1,qY _ _ c⟩
  | cons v lf=>exact enter ⟨c1,op_of (fl3 (ls:=v :: lf)) ⟨rfl,qY _ _ c⟩⟩
end
end
section
noncomputable def resV:Res→NV
 | .norm=>.none
 | .brk l=>.tup [.str 46,optS l]
 | .con l=>.tup [.str 47,optS l]
 | .ret v=>.tup [.str 45,.str v]
 | .thr v=>.tup [.str 48,.str v]
section
variable {scr:Nat→Option (List NV)} {p:P12} {h w:W} {kept:List (Nat × Nat)} {rest:List Ob} {D:Nat→Option Ob} {k m:Nat} {Q:Po} {n:Nm} {Y F:Nat→W→Prop} {v:NV} {K:Kr} {a b t:Tr} {r:Res} {ls:List Nat} {σ:NH}
theorem c_valT (c:w.get n Y F) (qY:∀ v w,Y v w→Q (.tup [.str v,.none]) (G p h kept w rest D)) (qF:∀ v w,F v w→Q (.tup [.none,.str v]) (G p h kept w rest D)):callN (txt scr) (k+2) 918 [.dct 18,nmT n] Q (G p h kept w rest D):=enter (c_getT c qY qF)
theorem c_numT {j:Nat} (hj:j≤2) (q:Q (.tup [.str j,.none]) σ):callN (txt scr) (k+1) 918 [.dct 18,nd 32 [.int j]] Q σ:=enter ⟨Nat.ble_eq_true_of_le hj,q⟩
theorem c_isend (q:Q (.bool (r.isEnd ls)) σ):callN (txt scr) (k+1) 932 [resV r,.fl (ls.map .str)] Q σ:=by
 induction r using Res.casesOn with
 | norm=>exact enter q
 | brk l=>exact enter q
 | ret v=>exact enter q
 | thr v=>exact enter q
 | con l=>induction l using Option.casesOn with
  | none=>exact enter q
  | some l=>
   have:Q (.bool (!PD.mem (.str l) (ls.map .str))) σ:=by rw [mem_str]; exact q
   exact enter (op_of pds_str this)
theorem c_behind (q:Q (resV (r.behind ls)) σ):callN (txt scr) (k+1) 939 [resV r,.fl (ls.map .str)] Q σ:=by
 induction r using Res.casesOn with
 | norm=>exact enter q
 | con l=>exact enter q
 | ret v=>exact enter q
 | thr v=>exact enter q
 | brk l=>induction l using Option.casesOn with
  | none=>exact enter q
  | some l=>
   have q:Q (resV (match isIn l ls with
    | true=>.norm
    | false=>.brk (some l))) σ:=q
   cases e:isIn l ls <;> rw [e] at q
   ·exact enter (op_of pds_str (if_f (mem_str.trans e) q))
   ·exact enter (op_of pds_str (if_t (mem_str.trans e) q))
noncomputable def DoC (scr:Nat→Option (List NV)) (m:Nat) (t:Tr):Prop:=∀ f p h kept w rest D K Q,m≤f→exec t w K→(∀ r w,K r w→Q (resV r) (G p h kept w rest D))→callN (txt scr) (f+1) 972 [.dct 18,layT t,.fl []] Q (G p h kept w rest D)
theorem c_all {f:Nat} (H:All (DoC scr m) t) (hm:m≤f) (c:exec t w K) (q:∀ r w,K r w→Q (resV r) (G p h kept w rest D)):callN (txt scr) (f+2) 925 [.dct 18,.fl (layP t)] Q (G p h kept w rest D):=by
 refine enter (for_inv (fun xs fr σ=>∃ r w y z,xs=layP r∧All (DoC scr m) r∧exec r w K∧fr=[some (.dct 18),some (.fl (layP t)),y,z]∧σ=G p h kept w rest D) ?_ ?_ _ _ _ ⟨t,w,none,none,rfl,H,c,rfl,rfl⟩)
 ·rintro _ _ _ _ K' ⟨r,w,y,z,e,hr,c,rfl,rfl⟩ hK
  cases hr with
  | nil=>exact nomatch e
  | @cons a r ha hr=>
   cases e
   refine ⟨rfl,ha f p h kept w rest D _ _ hm c fun q' w c=>?_⟩
   induction q' using Res.casesOn with
   | norm=>exact hK _ _ ⟨r,w,_,_,rfl,hr,c,rfl,rfl⟩
   | brk l=>exact q _ _ c
   | con l=>exact q _ _ c
   | ret l=>exact q _ _ c
   | thr l=>exact q _ _ c
 ·rintro _ _ ⟨r,w,y,z,e,hr,c,rfl,rfl⟩
  cases hr with
  | nil=>exact ⟨rfl,q _ _ c⟩
  | cons _ _=>cases e
theorem do_expr:DoC scr (m+10) (.expr n):=fun f p h kept w rest D K Q hf c q=>by
 obtain ⟨g,rfl,hg⟩:=fuel hf
 exact enter (c_valT c (fun v w c=>q _ _ c) fun v w c=>q _ _ c)
theorem do_var:DoC scr (m+10) (.var n):=fun f p h kept w rest D K Q hf c q=>by
 obtain ⟨g,rfl,hg⟩:=fuel hf
 exact enter (c_valT c (fun v w c=>⟨(set_inv c).1,q _ _ (set_inv c).2⟩) fun v w c=>q _ _ c)
theorem do_thr {j:Nat} (hj:j≤2):DoC scr (m+10) (.thr j):=fun f p h kept w rest D K Q hf c q=>by
 obtain ⟨g,rfl,hg⟩:=fuel hf
 exact enter (c_numT hj (q _ _ c))
theorem do_brk {l:Option Nat}:DoC scr (m+10) (.brk l):=fun f p h kept w rest D K Q hf c q=>by
 obtain ⟨g,rfl,hg⟩:=fuel hf
 exact enter (q _ _ c)
theorem do_con {l:Option Nat}:DoC scr (m+10) (.con l):=fun f p h kept w rest D K Q hf c q=>by
 obtain ⟨g,rfl,hg⟩:=fuel hf
 exact enter (q _ _ c)
theorem do_ret {o:Option Nm}:DoC scr (m+10) (.ret o):=fun f p h kept w rest D K Q hf c q=>by
 obtain ⟨g,rfl,hg⟩:=fuel hf
 induction o using Option.casesOn with
 | none=>exact enter (q _ _ c)
 | some n=>exact enter (c_valT c (fun v w c=>q _ _ c) fun v w c=>q _ _ c)
theorem do_if1 (H:DoC scr m a):DoC scr (m+10) (.if1 n a):=fun f p h kept w rest D K Q hf c q=>by
 obtain ⟨g,rfl,hg⟩:=fuel hf
 refine enter (c_valT c (fun v w c=>?_) fun v w c=>q _ _ c)
 induction v using Nat.casesOn with
 | zero=>exact q _ _ c
 | succ v=>exact H _ _ _ _ _ _ _ _ _ (ge hg) c q
theorem do_if2 (H:DoC scr m a) (H2:DoC scr m b):DoC scr (m+10) (.if2 n a b):=fun f p h kept w rest D K Q hf c q=>by
 obtain ⟨g,rfl,hg⟩:=fuel hf
 refine enter (c_valT c (fun v w c=>?_) fun v w c=>q _ _ c)
 induction v using Nat.casesOn with
 | zero=>exact H2 _ _ _ _ _ _ _ _ _ (ge hg) c q
 | succ v=>exact H _ _ _ _ _ _ _ _ _ (ge hg) c q
end
end
section
section
variable {scr:Nat→Option (List NV)} {p:P12} {h w:W} {kept:List (Nat × Nat)} {rest:List Ob} {D:Nat→Option Ob} {k m:Nat} {Q:Po} {n:Nm} {Y F:Nat→W→Prop} {v:NV} {K:Kr} {a b t:Tr} {r:Res} {ls:List Nat} {σ:NH}
theorem c_lab {x g:Nat} {i:NV} {J:Res→NH→Prop} {σ₀:NH} (hb:∀ R:Po,(∀ r σ,J r σ→R (resV r) σ)→callN (txt scr) (g+10) 972 [.dct 18,i,.fl [.str x]] R σ₀) (q:∀ r σ,J r σ→Q (resV (r.out x)) σ) :
  callN (txt scr) (g+11) 972 [.dct 18,nd 51 [.str x,i],.fl []] Q σ₀:=by
 refine enter (hb _ fun r σ c=>?_)
 have q:=q _ _ c
 induction r using Res.casesOn with
 | norm=>exact enter q
 | con l=>cases l with
  | none=>exact q
  | some l=>exact enter q
 | ret v=>exact enter q
 | thr v=>exact enter q
 | brk l=>cases l with
  | none=>exact q
  | some l=>
   have q:Q (resV (match Nat.beq l x with
    | true=>.norm
    | false=>.brk (some l))) σ:=q
   have e1:PD.mem (.str l) [.str x]=Nat.beq l x:=by
    show (match Nat.beq l x with
     | true=>true
     | false=>false)=_
    cases Nat.beq l x <;> rfl
   refine enter ?_
   cases e:Nat.beq l x <;> rw [e] at q e1
   ·exact if_f e1 q
   ·exact if_t e1 q
theorem do_blk {x:Nat} (H:All (DoC scr m) b):DoC scr (m+10) (.blk x b):=by
 intro f p h kept w rest D K Q hf c q
 obtain ⟨g,rfl,hg⟩:=fuel hf
 exact c_lab (J:=fun r σ=>∃ w,K (r.out x) w∧σ=G p h kept w rest D) (fun R hR=>enter (c_all H (ge hg) c fun r w c=>hR r _ ⟨w,c,rfl⟩)) fun r σ ⟨w,c,e⟩=>e▸q _ _ c
theorem whl_inv {test:Fr→Po→NH→Prop} {body:Fr→PoS→NH→Prop} {R:PoS} (J:Nat→Fr→NH→Prop)
  (h:∀ n fr σ (K:Fr→NH→Prop),J (n+1) fr σ→(∀ fr σ,J n fr σ→K fr σ)→test fr (fun v σ=>ifT (body fr (fun fl fr σ=>match fl with
   | .ret v=>R (.ret v) fr σ
   | _=>K fr σ) σ) (R .nxt fr σ) v) σ)
  (h0:∀ fr σ,J 0 fr σ→False):∀ n fr σ,J n fr σ→whlW test body R n fr σ
 | 0,fr,σ,j=>(h0 fr σ j).elim
 | n+1,fr,σ,j=>h n fr σ _ j fun fr σ j=>whl_inv J h h0 n fr σ j
inductive Lk where
 | wh
 | dw
 | fr (i:Option Nm) (z:Nm)
noncomputable def Lk.nd (o:Lk) (n:Nm) (b:Tr):NV:=match o with
 | .wh=>Mine.nd 53 [nmT n,layT b]
 | .dw=>Mine.nd 54 [layT b,nmT n]
 | .fr i z=>Mine.nd 61 [optT i,nmT n,nmT z,layT b]
noncomputable def Lk.step:Lk→Option Nm
 | .fr _ z=>some z
 | _=>none
noncomputable def Lk.skip:Lk→Bool
 | .dw=>true
 | _=>false
noncomputable def Lk.ini:Lk→Option Nm
 | .fr i _=>i
 | _=>none
noncomputable def whB:S:=match S.drop 5 b946 with
 | .wh _ b=>b
 | _=>.sk
noncomputable def Lk.kd:Lk→NV
 | .wh=>.str 53
 | .dw=>.str 54
 | .fr _ _=>.str 61
noncomputable def Lk.te:Lk→NV
 | .wh=>.int 0
 | _=>.int 1
noncomputable def Lk.ps (n:Nm) (b:Tr):Lk→NV
 | .wh=>.fl [nmT n,layT b]
 | .dw=>.fl [layT b,nmT n]
 | .fr i z=>.fl [optT i,nmT n,nmT z,layT b]
noncomputable def lF (o:Lk) (n:Nm) (b:Tr) (x:Nat) (y5 y6 y8 y9:Option NV):Fr:=[some (.dct 18),some (o.nd n b),some (.fl [.str x]),some o.kd,some (o.ps n b),y5,y6,some o.te,y8,y9]
theorem bd {x f:Nat} {N:Res→W→Prop} {R:NV→Po} {Z:NV→NH→Prop} (H:DoC scr m b) (hm:m≤f) (c:exec b w fun r w=>match r.isEnd [x] with
  | true=>K (r.behind [x]) w
  | false=>N r w) (q:∀ r w v,K r w→R v (resV r) (G p h kept w rest D)) (z:∀ r w,N r w→Z (resV r) (G p h kept w rest D)) :
  callN (txt scr) (f+3) 972 [.dct 18,layT b,.fl []] (fun v σ=>callN (txt scr) (f+3) 932 [v,.fl [.str x]] (fun t σ=>ifT (callN (txt scr) (f+3) 939 [v,.fl [.str x]] (R v) σ) (Z v σ) t) σ) (G p h kept w rest D):=by
 refine H (f+2) p h kept w rest D _ _ (ge hm) c fun r w c=>c_isend (ls:=[x]) ?_
 rcases e:r.isEnd [x] with _ | _ <;> rw [e] at c
 ·exact z r w c
 ·exact c_behind (ls:=[x]) (q _ _ _ c)
theorem rounds_st {o:Lk} {f x j:Nat} {y5 y6 y9:Option NV} {skip:Bool} {K':Fr→NH→Prop}
  (H:DoC scr m b) (hm:m≤f) (q:∀ r w,K r w→Q (resV r) (G p h kept w rest D)) (hK:∀ w y5 y6 y9,rounds [x] n (exec b) o.step j false w K→K' (lF o n b x y5 y6 (some (.bool false)) y9) (G p h kept w rest D))
  (c:rounds [x] n (exec b) o.step (j+1) skip w K):wS (txt scr) (callN (txt scr) (f+3)) whB (lF o n b x y5 y6 (some (.bool skip)) y9) (cR (retK Q) K') (G p h kept w rest D):=by
 have bdy:∀ w y5 y6,roundX [x] (exec b) (stepX o.step (rounds [x] n (exec b) o.step j false)) w K→wS (txt scr) (callN (txt scr) (f+3)) (S.drop 1 whB) (lF o n b x y5 y6 (some (.bool skip)) y9) (cR (retK Q) K') (G p h kept w rest D):=by
  rcases o with _ | _ | ⟨i,z⟩
  ·exact fun w y5 y6 c=>bd H hm c (fun r w _ c=>q r w c) fun r w c=>hK w _ _ _ c
  ·exact fun w y5 y6 c=>bd H hm c (fun r w _ c=>q r w c) fun r w c=>hK w _ _ _ c
  ·exact fun w y5 y6 c=>bd H hm c (fun r w _ c=>q r w c) fun r w c=>c_valT c (fun v w c=>hK w _ _ _ c) fun v w c=>q _ _ c
 have tst:∀ v w y5 y6,nz v (roundX [x] (exec b) (stepX o.step (rounds [x] n (exec b) o.step j false)) w K) (K .norm w)→ifT (Q .none (G p h kept w rest D)) (wS (txt scr) (callN (txt scr) (f+3)) (S.drop 1 whB) (lF o n b x y5 y6 (some (.bool skip)) y9) (cR (retK Q) K') (G p h kept w rest D)) (.bool (Nat.beq v 0)):=fun v w y5 y6 c=>by
  rcases v with _ | v
  ·exact q _ _ c
  ·exact bdy w y5 y6 c
 rcases skip with _ | _
 ·rcases o with _ | _ | ⟨i,z⟩
  ·exact c_valT c (fun v w c=>tst v w _ _ c) fun v w c=>q _ _ c
  ·exact c_valT c (fun v w c=>tst v w _ _ c) fun v w c=>q _ _ c
  ·exact c_valT c (fun v w c=>tst v w _ _ c) fun v w c=>q _ _ c
 ·exact bdy w y5 y6 c
theorem rounds_go {o:Lk} {f x j:Nat} {v1 v2:Option NV}
  (H:DoC scr m b) (hm:m≤f) (c:rounds [x] n (exec b) o.step j o.skip w K) (q:∀ r w,K r w→Q (resV r) (G p h kept w rest D)) :
  wS (txt scr) (callN (txt scr) (f+3)) (S.drop 5 b946) (lF o n b x v1 v2 (some (.bool o.skip)) none) (retK Q) (G p h kept w rest D):=by
 have key:∀ j skip w y5 y6 y9,rounds [x] n (exec b) o.step j skip w K→whlW (fun fr Q σ=>wE (txt scr) (callN (txt scr) (f+3)) (.li (.bool true)) fr Q σ) (fun fr Q σ=>wS (txt scr) (callN (txt scr) (f+3)) whB fr Q σ) (retK Q) j (lF o n b x y5 y6 (some (.bool skip)) y9) (G p h kept w rest D):=fun j=>by
  induction j with
  | zero=>exact fun _ _ _ _ _ c=>c.elim
  | succ j ih=>exact fun skip w y5 y6 y9 c=>rounds_st (K':=fun fr σ=>whlW _ _ (retK Q) j fr σ) H hm q (fun w y5 y6 y9 c=>ih false w y5 y6 y9 c) c
 exact ⟨j,key j _ w _ _ _ c⟩
theorem do_wh {x:Nat} (H:DoC scr m b):DoC scr (m+10) (.wh x n b):=by
 intro f p h kept w rest D K Q hf c q
 obtain ⟨g,rfl,hg⟩:=fuel hf
 exact c_lab (J:=fun r σ=>∃ w,K (r.out x) w∧σ=G p h kept w rest D) (fun R hR=>enter (enter (rounds_go (o:=.wh) H (ge hg) c fun r w c=>hR r _ ⟨w,c,rfl⟩))) fun r σ ⟨w,c,e⟩=>e▸q _ _ c
theorem do_dw {x:Nat} (H:DoC scr m b):DoC scr (m+10) (.dw x b n):=by
 intro f p h kept w rest D K Q hf c q
 obtain ⟨g,rfl,hg⟩:=fuel hf
 exact c_lab (J:=fun r σ=>∃ w,K (r.out x) w∧σ=G p h kept w rest D) (fun R hR=>enter (enter (rounds_go (o:=.dw) H (ge hg) c fun r w c=>hR r _ ⟨w,c,rfl⟩))) fun r σ ⟨w,c,e⟩=>e▸q _ _ c
theorem do_fr {x:Nat} {o:Option Nm} {z:Nm} (H:DoC scr m b):DoC scr (m+10) (.fr x o n z b):=by
 intro f p h kept w rest D K Q hf c q
 obtain ⟨g,rfl,hg⟩:=fuel hf
 refine c_lab (J:=fun r σ=>∃ w,K (r.out x) w∧σ=G p h kept w rest D) (fun R hR=>?_) fun r σ ⟨w,c,e⟩=>e▸q _ _ c
 induction o using Option.casesOn with
 | none=>exact enter (enter (rounds_go (o:=.fr none z) H (ge hg) c fun r w c=>hR r _ ⟨w,c,rfl⟩))
 | some o=>exact enter (enter (c_valT c (fun v w c=>rounds_go (o:=.fr (some o) z) H (ge hg) c fun r w c=>hR r _ ⟨w,c,rfl⟩) fun v w c=>hR (.thr v) _ ⟨w,c,rfl⟩))
end
end
section
section
variable {scr:Nat→Option (List NV)} {p:P12} {h w:W} {kept:List (Nat × Nat)} {rest:List Ob} {D:Nat→Option Ob} {k m:Nat} {Q:Po} {n:Nm} {Y F:Nat→W→Prop} {v:NV} {K:Kr} {a b c l t:Tr} {r:Res} {ls:List Nat} {σ:NH}
theorem try_last {hl:Bool} {f:Nat} {v0 v1 v2 v3:Option NV} (H:All (DoC scr m) l) (hm:m≤f) (c:lastX hl (exec l) r w K) (q:∀ r w,K r w→Q (resV r) (G p h kept w rest D)) :
  wS (txt scr) (callN (txt scr) (f+2)) (S.drop 3 b965) [some (.dct 18),v0,v1,v2,v3,some (bN hl (.fl (layP l))),some (resV r),none] (retK Q) (G p h kept w rest D):=by
 induction hl using Bool.casesOn with
 | false=>exact q _ _ c
 | true=>
  refine c_all H hm c fun r' w c=>?_
  induction r' using Res.casesOn with
  | norm=>exact q _ _ c
  | brk l=>exact q _ _ c
  | con l=>exact q _ _ c
  | ret l=>exact q _ _ c
  | thr l=>exact q _ _ c
theorem do_try {hc hl:Bool} (H:All (DoC scr m) b) (Hc:All (DoC scr m) c) (Hl:All (DoC scr m) l):DoC scr (m+10) (.try b hc c hl l):=by
 intro f p h kept w rest D K Q hf c q
 obtain ⟨g,rfl,hg⟩:=fuel hf
 refine enter (enter (c_all H (ge hg) c fun r w c=>?_))
 induction r using Res.casesOn with
 | norm=>exact try_last Hl (ge hg) c q
 | brk l=>exact try_last Hl (ge hg) c q
 | con l=>exact try_last Hl (ge hg) c q
 | ret l=>exact try_last Hl (ge hg) c q
 | thr l=>
  induction hc using Bool.casesOn with
  | false=>exact try_last Hl (ge hg) c q
  | true=>exact c_all Hc (ge hg) c fun r w c=>try_last Hl (ge hg) c q
noncomputable def fiT (v:Bool):NV:=match v with
 | true=>nd 42 [.fl [.tup [.str 59,.none]]]
 | false=>nd 34 [.str 60]
theorem cat_k {v:Nat} (h:v≤2):cat 4 v=some (v+10):=by
 show (match Nat.ble v 2 with
  | true=>some (v+10)
  | false=>none)=_
 rw [Nat.ble_eq_true_of_le h]
noncomputable def fiB:S:=match S.drop 2 b953 with
 | .sq (.fo _ _ _ r) _=>r
 | _=>.sk
noncomputable def fF (v':Bool) (n:Nm) (b:Tr) (x u:Nat) (y5 y6 y7:Option NV):Fr:=[some (.dct 18),some (.fl [fiT v',nmT n,layT b]),some (.fl [.str x]),some (.str u),some .none,y5,y6,y7]
theorem fi_step {x g i k u:Nat} {v':Bool} {y6 y7:Option NV} {K':Fr→NH→Prop} {RR:PoS} (H:DoC scr m b) (hg:m≤g) (q:∀ r w fr,K r w→RR (.ret (resV r)) fr (G p h kept w rest D)) (hi:i≤2) (hK:∀ w y5 y6 y7,keyRounds [x] (cond v' 59 60) (exec b) k (i+1) w K→K' (fF v' n b x u y5 y6 y7) (G p h kept w rest D))
  (c:keyRounds [x] (cond v' 59 60) (exec b) (k+1) i w K):wS (txt scr) (callN (txt scr) (g+3)) fiB (fF v' n b x u (some (.int i)) y6 y7) (cR RR K') (G p h kept w rest D):=by
 have c:=set_inv c
 have go:∀ y6 y7,wS (txt scr) (callN (txt scr) (g+3)) (S.drop 2 fiB) (fF v' n b x u (some (.int i)) y6 y7) (cR RR K') (G p h kept (w.ev (.set (cond v' 59 60) (i+10))) rest D):=fun y6 y7=>bd H hg c.2 (fun r w _ c=>q r w _ c) fun r w c=>hK w _ _ _ c
 rcases v' with _ | _
 ·exact ⟨Nat.ble_eq_true_of_le hi,op_of (cat_k hi) ⟨c.1,go _ _⟩⟩
 ·exact ⟨Nat.ble_eq_true_of_le hi,op_of (cat_k hi) ⟨c.1,go _ _⟩⟩
theorem do_fi {x:Nat} {v':Bool} (H:DoC scr m b):DoC scr (m+10) (.fi x v' n b):=by
 intro f p h kept w rest D K Q hf c q
 obtain ⟨g,rfl,hg⟩:=fuel hf
 refine c_lab (J:=fun r σ=>∃ w,K (r.out x) w∧σ=G p h kept w rest D) (fun R hR=>?_) fun r σ ⟨w,c,e⟩=>e▸q _ _ c
 have q':∀ r w,K (r.out x) w→R (resV r) (G p h kept w rest D):=fun r w c=>hR r _ ⟨w,c,rfl⟩
 have key:∀ {RR:PoS} u,(∀ r w fr,K (r.out x) w→RR (.ret (resV r)) fr (G p h kept w rest D))→(∀ w fr,K (Res.norm.out x) w→RR .nxt fr (G p h kept w rest D))→∀ k i w y5 y6 y7,i+k≤2→keyRounds [x] (cond v' 59 60) (exec b) k i w (fun r w=>K (r.out x) w)→forW (.loc 5) (fun _=>True) (fun fr Q σ=>wS (txt scr) (callN (txt scr) (g+7)) fiB fr Q σ) RR (ups i k) (fF v' n b x u y5 y6 y7) (G p h kept w rest D):=fun {RR} u q1 q2 k=>by
  induction k with
  | zero=>exact fun i w y5 y6 y7 _ c=>⟨trivial,q2 w _ c⟩
  | succ k ih=>exact fun i w y5 y6 y7 e c=>⟨trivial,fi_step (K':=fun fr σ=>forW _ _ _ RR (ups (i+1) k) fr σ) H (Nat.le_add_right_of_le hg) q1 (Nat.le_trans (Nat.le_add_right i _) e) (fun w y5 y6 y7 c=>ih (i+1) w y5 y6 y7 (by rw [Nat.add_assoc,Nat.add_comm 1]; exact e) c) c⟩
 have cp:2≤cap:=by decide
 exact enter (enter (enter (c_valT c (fun u w c=>⟨Nat.ble_eq_true_of_le c.1,Int.ofNat_le.mpr (Nat.le_trans c.1 cp),Int.le_trans (by decide) (Int.natCast_nonneg u),key u (fun r w fr c=>q' r w c) (fun w fr c=>q' .norm w c) u 0 w none none none (by rw [Nat.zero_add]; exact c.1) c.2⟩) fun u w c=>q' (.thr u) w c)))
end
end
section
noncomputable def Tr.app:Tr→Tr→Tr
 | .cons a r,b=>.cons a (r.app b)
 | _,b=>b
section
variable {scr:Nat→Option (List NV)} {p:P12} {h w:W} {kept:List (Nat × Nat)} {rest:List Ob} {D:Nat→Option Ob} {k m:Nat} {Q:Po} {n:Nm} {Y F:Nat→W→Prop} {v:NV} {K:Kr} {a b c l t:Tr} {r:Res} {ls:List Nat} {σ:NH} {P:Tr→Prop}
theorem lay_app (h:All P a):layP (a.app b)=layP a++layP b:=by
 induction h with
 | nil=>rfl
 | cons _ _ ih=>exact congrArg (List.cons _) ih
theorem All.app (h:All P a) (h2:All P b):All P (a.app b):=by
 induction h with
 | nil=>exact h2
 | cons x _ ih=>exact .cons x ih
theorem lay_len (h:All P a):(layP a).length=a.len:=by
 induction h with
 | nil=>rfl
 | cons _ _ ih=>exact congrArg (·+1) ih
def ExM (ex:Ex):Prop:=∀ w K K',(∀ r w,K r w→K' r w)→ex w K→ex w K'
theorem get_mono {Y' F':Nat→W→Prop} (hY:∀ v w,Y v w→Y' v w) (hF:∀ v w,F v w→F' v w) (c:w.get n Y F):w.get n Y' F':=by
 unfold W.get at c ⊢
 refine ⟨c.1,?_⟩
 have c:=c.2
 induction n using Nm.casesOn
 ·exact hY _ _ c
 ·exact hY _ _ c
 ·exact ⟨c.1,hF _ _ c.2⟩
 ·exact hY _ _ c
theorem set_mono {x y:Nat} {K K':W→Prop} (h:∀ w,K w→K' w) (c:w.setK x y K):w.setK x y K':=by
 unfold W.setK at c ⊢
 exact ⟨c.1,h _ c.2⟩
theorem nz_mono {v:Nat} {A B A' B':Prop} (h1:A→A') (h2:B→B') (c:nz v A B):nz v A' B':=by
 induction v using Nat.casesOn
 ·exact h2 c
 ·exact h1 c
theorem roundX_mono {body next:Ex} (hb:ExM body) (hn:ExM next):ExM (roundX ls body next):=fun w K K' h c=>hb _ _ _ (fun r w c=>by
 cases e:r.isEnd ls <;> rw [e] at c
 ·exact hn _ _ _ h c
 ·exact h _ _ c) c
theorem stepX_mono {o:Option Nm} {next:Ex} (hn:ExM next):ExM (stepX o next):=fun w K K' h c=>by
 induction o using Option.casesOn with
 | none=>exact hn _ _ _ h c
 | some z=>exact get_mono (fun _ _=>hn _ _ _ h) (fun _ _=>h _ _) c
theorem rounds_mono {body:Ex} {o:Option Nm} (hb:ExM body):∀ k s,ExM (rounds ls n body o k s)
 | 0,_=>fun w K K' h c=>c.elim
 | k+1,true=>fun w K K' h c=>roundX_mono hb (stepX_mono (rounds_mono hb k false)) w K K' h c
 | k+1,false=>fun w K K' h c=>get_mono (fun _ _=>nz_mono (roundX_mono hb (stepX_mono (rounds_mono hb k false)) _ K K' h) (h _ _)) (fun _ _=>h _ _) c
theorem keys_mono {body:Ex} {x:Nat} (hb:ExM body):∀ k i,ExM (keyRounds ls x body k i)
 | 0,_=>fun w K K' h c=>h _ _ c
 | k+1,i=>fun w K K' h c=>set_mono (fun _=>hb _ _ _ fun r w c=>by
  cases e:r.isEnd ls <;> rw [e] at c
  ·exact keys_mono hb k (i+1) _ _ _ h c
  ·exact h _ _ c) c
theorem clause_mono {u:Nat} {o:Option Nm} {Y Y':Bool→W→Prop} {F F':Nat→W→Prop} (hY:∀ v w,Y v w→Y' v w) (hF:∀ v w,F v w→F' v w) (c:clause u o w Y F):clause u o w Y' F':=by
 induction o using Option.casesOn with
 | none=>exact hY _ _ c
 | some z=>exact get_mono (fun _ _=>hY _ _) hF c
theorem end_mono {ex:Ex} (hb:ExM ex):ExM (endX ex):=fun w K K' h c=>hb _ _ _ (fun _ _=>h _ _) c
theorem then_mono {e1 e2:Ex} (h1:ExM e1) (h2:ExM e2):ExM (thenX e1 e2):=fun w K K' h c=>h1 _ _ _ (fun r w c=>by
 induction r using Res.casesOn
 ·exact end_mono h2 _ _ _ h c
 all_goals exact h _ _ c) c
theorem exec_mono:∀ t,ExM (exec t)
 | .expr n=>fun w K K' h c=>get_mono (fun _ _=>h _ _) (fun _ _=>h _ _) c
 | .var n=>fun w K K' h c=>get_mono (fun _ _=>set_mono fun _=>h _ _) (fun _ _=>h _ _) c
 | .if1 n a=>fun w K K' h c=>get_mono (fun _ _=>nz_mono (exec_mono a _ _ _ h) (h _ _)) (fun _ _=>h _ _) c
 | .if2 n a b=>fun w K K' h c=>get_mono (fun _ _=>nz_mono (exec_mono a _ _ _ h) (exec_mono b _ _ _ h)) (fun _ _=>h _ _) c
 | .wh l n b=>fun w K K' h c=>rounds_mono (exec_mono b) _ _ _ _ _ (fun _ _=>h _ _) c
 | .dw l b n=>fun w K K' h c=>rounds_mono (exec_mono b) _ _ _ _ _ (fun _ _=>h _ _) c
 | .fr l i n s b=>fun w K K' h c=>stepX_mono (next:=fun w K=>rounds [l] n (exec b) (some s) (w.left.length+2) false w K) (fun w K K'=>rounds_mono (exec_mono b) _ _ _ _ _) _ _ _ (fun _ _=>h _ _) c
 | .fi l v n b=>fun w K K' h c=>get_mono (fun _ _ c=>⟨c.1,keys_mono (exec_mono b) _ _ _ _ _ (fun _ _=>h _ _) c.2⟩) (fun _ _=>h _ _) c
 | .try b hc c hl l=>fun w K K' h q=>exec_mono b _ _ _ (fun r w q=>by
   have hL:∀ r w,lastX hl (exec l) r w K→lastX hl (exec l) r w K':=fun r w q=>by
    induction hl using Bool.casesOn with
    | false=>exact h _ _ q
    | true=>exact exec_mono l _ _ _ (fun r' w q=>by induction r' using Res.casesOn <;> exact h _ _ q) q
   induction r using Res.casesOn with
   | thr f=>induction hc using Bool.casesOn with
    | false=>exact hL _ _ q
    | true=>exact exec_mono c _ _ _ hL q
   | _=>exact hL _ _ q) q
 | .sw n t1 b1 t2 b2=>fun w K K' h c=>get_mono (fun v w=>clause_mono (fun q w c=>by
   induction q using Bool.casesOn with
   | true=>exact then_mono (exec_mono b1) (exec_mono b2) _ _ _ h c
   | false=>exact clause_mono (fun q w c=>by
     induction q using Bool.casesOn with
     | true=>exact end_mono (exec_mono b2) _ _ _ h c
     | false=>
      induction t1 using Option.casesOn with
      | none=>exact then_mono (exec_mono b1) (exec_mono b2) _ _ _ h c
      | some _=>induction t2 using Option.casesOn with
       | none=>exact end_mono (exec_mono b2) _ _ _ h c
       | some _=>exact h _ _ c) (fun _ _=>h _ _) c) (fun _ _=>h _ _)) (fun _ _=>h _ _) c
 | .brk l=>fun w K K' h c=>h _ _ c
 | .con l=>fun w K K' h c=>h _ _ c
 | .ret o=>fun w K K' h c=>by
  induction o using Option.casesOn with
  | none=>exact h _ _ c
  | some n=>exact get_mono (fun _ _=>h _ _) (fun _ _=>h _ _) c
 | .thr k=>fun w K K' h c=>h _ _ c
 | .blk l b=>fun w K K' h c=>exec_mono b _ _ _ (fun _ _=>h _ _) c
 | .nil=>fun w K K' h c=>h _ _ c
 | .cons a r=>fun w K K' h c=>exec_mono a _ _ _ (fun q w c=>by
   induction q using Res.casesOn with
   | norm=>exact exec_mono r _ _ _ h c
   | _=>exact h _ _ c) c
theorem exec_app (h:All P a):∀ {w:W} {K:Kr},(exec a w fun r w=>match r with
  | .norm=>exec b w K
  | r=>K r w)→exec (a.app b) w K:=by
 induction h with
 | nil=>exact fun c=>c
 | @cons x r _ _ ih=>
  intro w K c
  exact exec_mono x w _ (fun q w=>match q with
   | .norm=>exec (r.app b) w K
   | q=>K q w) (fun q w c=>by
    induction q using Res.casesOn with
    | norm=>exact ih c
    | _=>exact c) c
theorem comp_copy {chk:NH→Prop} {T:Tx} {C:Cal} {KK:Fr→List NV→NH→Prop} {σ:NH} {v0 v1 v2 v3 v4 v5 v6 v7 v8 v9 va:Option NV} (hc:chk σ):∀ (xs acc:List NV) (y:Option NV),acc.length+xs.length≤cap →
  (∀ y,KK [v0,v1,v2,v3,v4,v5,v6,v7,v8,v9,va,y] (acc++xs) σ)→loopC (.loc 11) chk (fun _ K σ=>K true σ) (fun fr Q σ=>wE T C (.lo 11) fr Q σ) KK xs [v0,v1,v2,v3,v4,v5,v6,v7,v8,v9,va,y] acc σ
 | [],acc,y,hl,h=>by have:=h y; rw [List.append_nil] at this; exact ⟨hc,this⟩
 | x :: xs,acc,y,hl,h=>by
  have hl:acc.length+xs.length+1≤cap:=hl
  exact ⟨hc,by lia,comp_copy hc xs (acc++[x]) _ (by rw [List.length_append]; have:[x].length=1:=rfl; lia) fun y=>by rw [List.append_assoc]; exact h y⟩
theorem sw_01 {t1 t2:Option Nm} {f:Nat} {v2 v3 v5 v6 v7 v8 v9:Option NV} (h1:All (DoC scr m) a) (h2:All (DoC scr m) b) (hm:m≤f) (l1:a.len≤1000) (l2:b.len≤1000) (c:exec (a.app b) w fun r w=>K (r.behind []) w) (q:∀ r w,K r w→Q (resV r) (G p h kept w rest D)) :
  wS (txt scr) (callN (txt scr) (f+2)) (S.drop 6 b958) [some (.dct 18),some (.fl [nmT n,.fl [.tup [optT t1,.fl (layP a)],.tup [optT t2,.fl (layP b)]]]),v2,v3,some (.int 0),v5,v6,v7,v8,v9] (retK Q) (G p h kept w rest D):=by
 have e1:=lay_len h1
 have e2:=lay_len h2
 have hc:cap=1048576:=rfl
 refine ⟨by decide,rfl,comp_copy (by rfl) (layP a) [] _ (by rw [e1]; show 0+a.len≤cap; lia) fun y=>⟨rfl,comp_copy (by rfl) (layP b) _ _ (by rw [e2,List.nil_append,e1]; lia) fun y=>⟨rfl,?_⟩⟩⟩
 rw [List.nil_append,← lay_app h1]
 exact c_all (h1.app h2) hm c fun r w c=>c_behind (ls:=[]) (q _ _ c)
theorem sw_1 {t1 t2:Option Nm} {f:Nat} {v2 v3 v5 v6 v7 v8 v9:Option NV} (h2:All (DoC scr m) b) (hm:m≤f) (l2:b.len≤1000) (c:endX (exec b) w K) (q:∀ r w,K r w→Q (resV r) (G p h kept w rest D)) :
  wS (txt scr) (callN (txt scr) (f+2)) (S.drop 6 b958) [some (.dct 18),some (.fl [nmT n,.fl [.tup [optT t1,.fl (layP a)],.tup [optT t2,.fl (layP b)]]]),v2,v3,some (.int 1),v5,v6,v7,v8,v9] (retK Q) (G p h kept w rest D):=by
 have e2:=lay_len h2
 have hc:cap=1048576:=rfl
 refine ⟨by decide,rfl,comp_copy (by rfl) (layP b) [] _ (by rw [e2]; show 0+b.len≤cap; lia) fun y=>⟨rfl,?_⟩⟩
 exact c_all h2 hm c fun r w c=>c_behind (ls:=[]) (q _ _ c)
theorem sw_no {rows:NV} {f:Nat} {v2 v3 v5 v6 v7 v8 v9:Option NV} (c:K .norm w) (q:∀ r w,K r w→Q (resV r) (G p h kept w rest D)) :
  wS (txt scr) (callN (txt scr) (f+2)) (S.drop 6 b958) [some (.dct 18),some rows,v2,v3,some .none,v5,v6,v7,v8,v9] (retK Q) (G p h kept w rest D):=
 enter ⟨rfl,enter (q .norm _ c)⟩
theorem then_app {e1:All P a} (c:thenX (exec a) (exec b) w K):exec (a.app b) w fun r w=>K (r.behind []) w:=
 exec_app e1 (exec_mono a _ _ _ (fun r w c=>by induction r using Res.casesOn <;> exact c) c)
theorem do_sw {t1 t2:Option Nm} (H1:All (DoC scr m) a) (H2:All (DoC scr m) b) (l1:a.len≤1000) (l2:b.len≤1000):DoC scr (m+10) (.sw n t1 a t2 b):=by
 intro f p h kept w rest D K Q hf c q
 obtain ⟨g,rfl,hg⟩:=fuel hf
 refine enter (enter (c_valT c (fun u w c=>?_) fun v w c=>⟨rfl,rfl,rfl,q _ _ c⟩))
 induction t1 using Option.casesOn <;> induction t2 using Option.casesOn
 ·exact ⟨rfl,rfl,rfl,rfl,cap0,rfl,cap1,rfl,sw_01 H1 H2 (ge hg) l1 l2 (then_app (e1:=H1) c) q⟩
 ·refine ⟨rfl,rfl,c_valT c (fun o w c=>?_) fun v w c=>⟨rfl,q _ _ c⟩⟩
  cases e:Nat.beq o u <;> rw [e] at c
  ·exact if_f e ⟨rfl,rfl,cap0,rfl,rfl,sw_01 H1 H2 (ge hg) l1 l2 (then_app (e1:=H1) c) q⟩
  ·exact if_t e ⟨rfl,rfl,cap0,rfl,rfl,sw_1 H2 (ge hg) l2 c q⟩
 ·refine ⟨rfl,c_valT c (fun o w c=>?_) fun v w c=>⟨rfl,rfl,q _ _ c⟩⟩
  cases e:Nat.beq o u <;> rw [e] at c
  ·exact if_f e ⟨rfl,rfl,rfl,rfl,cap0,rfl,sw_1 H2 (ge hg) l2 c q⟩
  ·exact if_t e ⟨rfl,rfl,rfl,rfl,cap0,rfl,sw_01 H1 H2 (ge hg) l1 l2 (then_app (e1:=H1) c) q⟩
 ·refine ⟨rfl,c_valT c (fun o w c=>?_) fun v w c=>⟨rfl,rfl,q _ _ c⟩⟩
  cases e:Nat.beq o u <;> rw [e] at c
  ·refine if_f e ⟨rfl,c_valT c (fun o w c=>?_) fun v w c=>⟨rfl,q _ _ c⟩⟩
   cases e:Nat.beq o u <;> rw [e] at c
   ·exact if_f e ⟨rfl,rfl,rfl,rfl,sw_no (v9:=none) c q⟩
   ·exact if_t e ⟨rfl,rfl,rfl,rfl,sw_1 H2 (ge hg) l2 c q⟩
  ·exact if_t e ⟨rfl,rfl,rfl,rfl,rfl,sw_01 H1 H2 (ge hg) l1 l2 (then_app (e1:=H1) c) q⟩
noncomputable def DoL (scr:Nat→Option (List NV)) (h:Nat) (t:Tr):Bool→Prop
 | false=>DoC scr (10 * h+10) t
 | true=>All (DoC scr (10 * h+10)) t
theorem DoC.mono {m':Nat} (h:DoC scr m t) (q:m≤m'):DoC scr m' t:=fun f p h' kept w rest D K Q hf=>h f p h' kept w rest D K Q (Nat.le_trans q hf)
theorem All.monoD {m':Nat} (h:All (DoC scr m) t) (q:m≤m'):All (DoC scr m') t:=by
 induction h with
 | nil=>exact .nil
 | cons a _ ih=>exact .cons (a.mono q) ih
theorem DoL.mono {h h':Nat} {s:Bool} (a:DoL scr h t s) (q:h≤h'):DoL scr h' t s:=by
 have:10 * h+10≤10 * h'+10:=by lia
 induction s using Bool.casesOn
 ·exact DoC.mono a this
 ·exact All.monoD a this
theorem wdo:∀ (t:Tr) (s:Bool),t.ok s=true→DoL scr t.h t s
 | .expr n,false,h=>do_expr (m:=0)
 | .var n,false,h=>do_var (m:=0)
 | .thr j,false,h=>do_thr (m:=0) (Nat.le_of_ble_eq_true h)
 | .brk l,false,h=>do_brk (m:=0)
 | .con l,false,h=>do_con (m:=0)
 | .ret o,false,h=>do_ret (m:=0)
 | .if1 n a,false,h=>do_if1 (wdo a false h)
 | .if2 n a b,false,h=>have h:=and2 h; do_if2 ((wdo a false h.1).mono (Nat.le_max_left _ _)) ((wdo b false h.2).mono (Nat.le_max_right _ _))
 | .wh w n b,false,h=>do_wh (wdo b false h)
 | .dw w b n,false,h=>do_dw (wdo b false h)
 | .fr w i n z b,false,h=>do_fr (wdo b false h)
 | .fi w v n b,false,h=>do_fi (wdo b false h)
 | .try b hc c hl l,false,h=>have h:=and2 h; have h1:=and2 h.1; do_try ((wdo b true h1.1).mono (Nat.le_max_left _ _)) ((wdo c true h1.2).mono (Nat.le_trans (Nat.le_max_left _ _) (Nat.le_max_right _ _))) ((wdo l true h.2).mono (Nat.le_trans (Nat.le_max_right _ _) (Nat.le_max_right _ _)))
 | .sw n t1 a t2 b,false,h=>have h':=and2 h; have h:=and2 h'.1; have h2:=and2 h'.2; do_sw ((wdo a true h.1).mono (Nat.le_max_left _ _)) ((wdo b true h.2).mono (Nat.le_max_right _ _)) (Nat.le_of_ble_eq_true h2.1) (Nat.le_of_ble_eq_true h2.2)
 | .blk w b,false,h=>do_blk (wdo b true h)
 | .nil,true,h=>.nil
 | .cons a r,true,h=>have h:=and2 h; .cons ((wdo a false h.1).mono (h':=max a.h r.h) (Nat.le_max_left _ _)) ((wdo r true h.2).mono (Nat.le_max_right _ _))
end
end
section
inductive StR (D:Nat→Option Ob):List SV→List NV→Prop where
 | nil:StR D [] []
 | s {v:Nat} {st:List SV} {vs:List NV}:StR D st vs→StR D (.s v :: st) (vs++[.str v])
 | i {n:Int} {st:List SV} {vs:List NV}:StR D st vs→StR D (.i n :: st) (vs++[.int n])
 | nn {st:List SV} {vs:List NV}:StR D st vs→StR D (.nn :: st) (vs++[.none])
 | k {l:List Nat} {a:Nat} {st:List SV} {vs:List NV}:StR D st vs→D a=some (.L (l.map .str))→NV.dl a ∉ vs→StR D (.k l :: st) (vs++[.dl a])
theorem StR.len {D:Nat→Option Ob} {st:List SV} {vs:List NV} (h:StR D st vs):vs.length=st.length:=by
 induction h <;> simp [*]
theorem StR.to {D D':Nat→Option Ob} {st:List SV} {vs:List NV} (h:StR D st vs) (e:∀ a,NV.dl a∈vs→D' a=D a):StR D' st vs:=by
 induction h with
 | nil=>exact .nil
 | s _ ih=>exact .s (ih fun a ha=>e a (List.mem_append_left _ ha))
 | i _ ih=>exact .i (ih fun a ha=>e a (List.mem_append_left _ ha))
 | nn _ ih=>exact .nn (ih fun a ha=>e a (List.mem_append_left _ ha))
 | k _ d nm ih=>exact .k (ih fun a ha=>e a (List.mem_append_left _ ha)) ((e _ (List.mem_append_right _ (.head _))).trans d) nm
theorem StR.some {D:Nat→Option Ob} {st:List SV} {vs:List NV} (h:StR D st vs) {a:Nat} (ha:NV.dl a∈vs):D a≠none:=by
 induction h with
 | nil=>cases ha
 | k _ d nm ih=>
  rcases List.mem_append.mp ha with z | z
  ·exact ih z
  ·cases List.mem_singleton.mp z; rw [d]; exact fun z=>nomatch z
 | _ _ ih=>
  rcases List.mem_append.mp ha with z | z
  ·exact ih z
  ·cases List.mem_singleton.mp z
noncomputable def PInsA (F:Un) (cs:List CV) (i:Ins) (v:NV):Prop:=match i.tgt with
 | some l=>v=.int (F.pl l)
 | none=>InsA cs i v
structure UnR (F:Un) (cs:List CV) (cv hv:List NV):Prop where
 code:∀ (j:Nat) (i:Ins),F.code[j]?=some i→∃ v,cv[j]?=some (.tup [.int i.op,v])∧PInsA F cs i v
 len:cv.length=F.code.length
 hs:hv=F.hs.map fun h=>.tup [.int (F.pl h.start),.int (F.pl h.stop),.int (F.pl h.goal),.int h.dep,.bool h.fin]
noncomputable def unN (cs:List CV) (cv hv:List NV) (us li:NV) (lc:Int):NV:=.fi 145 [2,3,4,5,6,7,8,9,10,11,12,13,14,15,16] [.str 57,.fl [],.fl cv,.fl (cs.map CV.av),us,.fl hv,li,.int lc,.int 0,.fl [],.bool false,.bool false,.none,.none,.fl []]
section
variable {scr:Nat→Option (List NV)} {p:P12} {h w t:W} {kept:List (Nat × Nat)} {rest:List Ob} {D:Nat→Option Ob} {k m:Nat} {Q:Po} {n:Nm} {Y F:Nat→W→Prop} {v:NV} {K:Kr}
theorem c_getH (c:h.get n Y F) (qY:∀ v h,Y v h→Q (.tup [.str v,.none]) (G p h kept t rest D)) (qF:∀ v h,F v h→Q (.tup [.none,.str v]) (G p h kept t rest D)):callN (txt scr) (k+1) 911 [.dct 15,.str n.s] Q (G p h kept t rest D):=by
 obtain ⟨sn,lf,x⟩:=h
 unfold W.get at c
 obtain ⟨c0,c⟩:=c
 have c1:=ev_len c0
 cases n
 case x=>exact enter ⟨c1,qY _ _ c⟩
 case e=>
  cases lf with
  | nil=>exact enter ⟨c1,qF _ _ c.2⟩
  | cons v lf=>exact enter ⟨c1,op_of (fl3 (ls:=v :: lf)) ⟨rfl,op_of (cat_e c.1) (qF _ _ c.2)⟩⟩
 all_goals
  cases lf with
  | nil=>exact enter ⟨c1,qY _ _ c⟩
  | cons v lf=>exact enter ⟨c1,op_of (fl3 (ls:=v :: lf)) ⟨rfl,qY _ _ c⟩⟩
noncomputable def Ins.nm:Ins→Nat
 | .undef=>70 | .const _=>80 | .pop=>94 | .dup=>81 | .getloc _=>76 | .setloc _=>78 | .getglob _=>75 | .setglob _=>79 | .seq=>83
 | .jmp _=>72 | .jf _=>85 | .jt _=>71 | .ret=>86 | .thr=>87 | .forin=>82 | .nextin _=>73 | .gosub _=>74 | .retsub=>88
theorem c_opname {i:Ins} {σ:NH} (q:Q (.str i.nm) σ):callN (txt scr) (k+1) 156 [.int i.op] Q σ:=by cases i <;> exact enter q
theorem idx_last {K:NV→Prop} {x:NV} {l:List NV} (q:K x):idxK K (l++[x]) (-1):=by
 show (match Nat.ble 1 (l++[x]).length with
  | true=>nthK K (l++[x]) ((l++[x]).length - 1)
  | false=>False)
 have e:(l++[x]).length=l.length+1:=List.length_append
 rw [e,Nat.ble_eq_true_of_le (Nat.le_add_left 1 l.length)]
 exact nth_of List.getElem?_concat_length q
theorem look_kept {j:Nat} {v:Nat}:∀ {kp:List (Nat × Nat)},lookN j kp=some v→look (j:Int) (kp.map fun x=>((x.1:Int),NV.str x.2))=some (.str v)
 | (k',v') :: r,e=>by
  unfold lookN at e
  show (match decide ((k':Int)=j) with
   | true=>some (NV.str v')
   | false=>look (j:Int) (r.map _))=_
  rw [beq_dec]
  cases h:Nat.beq k' j <;> rw [h] at e
  ·exact look_kept e
  ·cases e; rfl
theorem put_kept {j:Nat} {v:Nat}:∀ {kp:List (Nat × Nat)},put (j:Int) (.str v) (kp.map fun x=>((x.1:Int),NV.str x.2))=(putN j v kp).map fun x=>((x.1:Int),NV.str x.2)
 | []=>rfl
 | (k',v') :: r=>by
  unfold putN
  show (match decide ((k':Int)=j) with
   | true=>((k':Int),NV.str v) :: r.map _
   | false=>((k':Int),NV.str v') :: put (j:Int) (.str v) (r.map _))=_
  rw [beq_dec]
  cases h:Nat.beq k' j
  ·show _ :: put (j:Int) (.str v) _=_; rw [put_kept]; rfl
  ·rfl
noncomputable abbrev GM (p:P12) (h:W) (kept:List (Nat × Nat)) (t:W) (vs:List NV) (D:Nat→Option Ob):NH:=G p h kept t [.L vs] D
theorem StR.top {D:Nat→Option Ob} {v:Nat} {st:List SV} {vs:List NV} (h:StR D (.s v :: st) vs):∃ us,vs=us++[.str v]∧StR D st us:=by cases h; exact ⟨_,rfl,‹_›⟩
noncomputable def plainI:Ins→Bool
 | .jmp _ | .jf _ | .jt _ | .ret | .thr | .nextin _ | .gosub _ | .retsub=>false
 | _=>true
theorem set_last {l:List NV} {x y:NV}:((l++[x])++[y])=l++[x,y]:=by rw [List.append_assoc]; rfl
theorem StR.popS {C:List NV→Prop} {A:Nat→List SV→Prop} {D:Nat→Option Ob} {st:List SV} {vs:List NV} (hS:StR D st vs) (c:tK (fun x st=>x.sK fun v=>A v st) st) (k:∀ v st us,StR D st us→StR D (.s v :: st) (us++[.str v])→A v st→C (us++[.str v])):C vs:=by
 rcases st with _ | ⟨_ | v | _ | _,st⟩
 ·exact c.elim
 ·exact c.elim
 ·obtain ⟨us,rfl,h⟩:=hS.top
  exact k v st us h hS c
 ·exact c.elim
 ·exact c.elim
theorem StR.tail {C:List NV→Prop} {A:List SV→Prop} {D:Nat→Option Ob} {st:List SV} {vs:List NV} (hS:StR D st vs) (c:tK (fun _ st=>A st) st) (k:∀ x st us,StR D st us→A st→C (us++[x])):C vs:=by
 rcases hS with _ | h | h | h | ⟨h,_,_⟩
 ·exact c.elim
 all_goals exact k _ _ _ h c
noncomputable def PlC (scr:Nat→Option (List NV)) (k:Nat) (i:Ins) (cs:List CV) (cv hv:List NV) (us li:NV) (lc:Int) (Q:Po) (p:P12) (w t:W) (kept:List (Nat × Nat)) (D:Nat→Option Ob) (a:NV) (vs:List NV):Prop:=
 vs.length < cap→callN (txt scr) (k+2) 991 [.dct 15,.str i.nm,a,.lst 19,unN cs cv hv us li lc] Q (GM p w kept t vs D)
theorem ap_cap {us:List NV} {x:NV} (h:(us++[x]).length < cap):us.length < cap:=by
 rw [List.length_append] at h; exact Nat.lt_of_succ_lt h
section
variable {st:List SV} {vs:List NV} {cs:List CV} {cv hv:List NV} {us li:NV} {lc:Int} {F:Un} {N:MS→Prop} {V:Nat→List SV→W→Prop} {O:Nat→W→Prop} {a:NV} {j:Nat}
theorem p_getloc (hS:StR D st vs) (c:istep F ⟨m,st,w,kept⟩ (.getloc j) N V O) (qN:∀ m' vs' D',N m'→m'.pc=m+1→StR D' m'.st vs'→Q .none (GM p m'.w m'.kept t vs' D')) (qV:∀ f st w vs,V f st w→StR D st vs→Q (.str f) (GM p w kept t vs D)):PlC scr k (.getloc j) cs cv hv us li lc Q p w t kept D (.int j) vs:=fun hv'=>by
 have c:(match Nat.beq j 9 with
  | true=>w.get .x (fun v w=>N ⟨m+1,.s v :: st,w,kept⟩) fun f w=>V f (.nn :: st) w
  | false=>(match lookN j kept with
   | some v=>N ⟨m+1,.s v :: st,w,kept⟩
   | none=>False)):=c
 have e9:PD.beq (.int j) (.int 9)=Nat.beq j 9:=beq_dec (y:=9)
 rcases e:Nat.beq j 9 with _ | _ <;> rw [e] at c e9
 ·rcases e2:lookN j kept with _ | v <;> rw [e2] at c
  ·exact c.elim
  ·exact enter (if_f e9 (op_of (look_kept e2) ⟨hv',qN _ _ _ c rfl (.s hS)⟩))
 ·exact enter (if_t e9 (c_getH (n:=.x) c (fun v w c=>⟨hv',qN _ _ _ c rfl (.s hS)⟩) fun v w c=>⟨hv',qV _ _ _ _ c (.nn hS)⟩))
theorem p_setloc (hS:StR D st vs) (c:istep F ⟨m,st,w,kept⟩ (.setloc j) N V O) (qN:∀ m' vs' D',N m'→m'.pc=m+1→StR D' m'.st vs'→Q .none (GM p m'.w m'.kept t vs' D')):PlC scr k (.setloc j) cs cv hv us li lc Q p w t kept D (.int j) vs:=hS.popS c fun v st us hS' hS c hv'=>by
 have e9:PD.beq (.int j) (.int 9)=Nat.beq j 9:=beq_dec (y:=9)
 rcases e:Nat.beq j 9 with _ | _ <;> rw [e] at c e9
 ·have q:=qN _ _ D c.2 rfl hS
  have hk:(kept.map fun x=>((x.1:Int),NV.str x.2)).length < cap:=by rw [List.length_map]; exact lt_cap c.1
  unfold GM G at q
  rw [← put_kept] at q
  exact enter (if_f e9 (idx_last ⟨hk,q⟩))
 ·exact enter (if_t e9 (idx_last (qN _ _ D c rfl hS)))
theorem p_seq (hS:StR D st vs) (c:istep F ⟨m,st,w,kept⟩ .seq N V O) (qN:∀ m' vs' D',N m'→m'.pc=m+1→StR D' m'.st vs'→Q .none (GM p m'.w m'.kept t vs' D')):PlC scr k .seq cs cv hv us li lc Q p w t kept D .none vs:=
 hS.popS c fun v st us hS' hS c=>hS'.popS (C:=fun us=>PlC _ _ _ _ _ _ _ _ _ _ _ _ _ _ _ _ (us++[_])) c fun u st us hS2 _ c hv'=>by
  have hv2:us.length < cap:=ap_cap (ap_cap hv')
  refine enter (last_snoc (last_snoc ?_))
  rcases e:Nat.beq u v with _ | _ <;> rw [e] at c
  ·exact if_f e ⟨hv2,qN _ _ _ c rfl (.s hS2)⟩
  ·exact if_t e ⟨hv2,qN _ _ _ c rfl (.s hS2)⟩
theorem p_forin (hS:StR D st vs) (c:istep F ⟨m,st,w,kept⟩ .forin N V O) (qN:∀ m' vs' D',N m'→m'.pc=m+1→StR D' m'.st vs'→Q .none (GM p m'.w m'.kept t vs' D')):PlC scr k .forin cs cv hv us li lc Q p w t kept D .none vs:=hS.popS c fun v st us hS2 hS c hv'=>by
 have hv2:us.length < cap:=ap_cap hv'
 have fin:∀ b,D b=none→Q .none (GM p w kept t (us++[.dl b]) (dset D b (some (.L ((keysL 0 v).map .str))))):=fun b hb=>by
  have hn:NV.dl b ∉ us:=fun z=>hS2.some z hb
  exact qN _ _ _ c.2 rfl (.k (hS2.to fun a ha=>if_neg fun (z:a=b)=>hn (z▸ha)) (if_pos rfl) hn)
 have c0:=c.1
 rcases v with _ | _ | _ | v
 ·exact enter (last_snoc ⟨rfl,by decide,by decide,trivial,fun b hb=>⟨hv2,fin b hb⟩⟩)
 ·exact enter (last_snoc ⟨rfl,by decide,by decide,trivial,rfl,cap0,trivial,fun b hb=>⟨hv2,fin b hb⟩⟩)
 ·exact enter (last_snoc ⟨rfl,by decide,by decide,trivial,rfl,cap0,trivial,rfl,cap1,trivial,fun b hb=>⟨hv2,fin b hb⟩⟩)
 ·exact absurd c0 (Nat.not_le_of_lt (Nat.le_add_left 3 v))
set_option tactic.hygienic true in
theorem c_plain0 {i:Ins} (hi:plainI i=true) (c:istep F ⟨m,st,w,kept⟩ i N V O) (hS:StR D st vs) (ha:InsA cs i a)
  (qN:∀ m' vs' D',N m'→m'.pc=m+1→StR D' m'.st vs'→Q .none (GM p m'.w m'.kept t vs' D')) (qV:∀ f st w vs,V f st w→StR D st vs→Q (.str f) (GM p w kept t vs D)) :
  PlC scr k i cs cv hv us li lc Q p w t kept D a vs:=by
 induction i using Ins.casesOn <;> first | exact absurd hi Bool.false_ne_true | skip
 case undef=>obtain rfl:a=.none:=ha; exact fun hv'=>enter ⟨hv',qN _ _ _ c rfl (.s hS)⟩
 case const j=>exact ha.elim fun x ha=>ha.1▸fun hv'=>enter (nth_map ha.2 ⟨Nat.ble_eq_true_of_le c.1,hv',qN _ _ _ c.2 rfl (.s hS)⟩)
 case pop=>obtain rfl:a=.none:=ha; exact hS.tail c fun x st us hS c hv'=>enter (last_snoc (qN _ _ _ c rfl hS))
 case dup=>obtain rfl:a=.none:=ha; exact hS.popS c fun v st us hS' hS c hv'=>enter (idx_last ⟨hv',qN _ _ _ c rfl (.s hS)⟩)
 case getloc j=>obtain rfl:a=.int j:=ha; exact p_getloc hS c qN qV
 case setloc j=>obtain rfl:a=.int j:=ha; exact p_setloc hS c qN
 case getglob n=>exact ha.elim fun j ha=>ha.1▸fun hv'=>enter (nth_map ha.2 (c_getH c (fun v w c=>⟨hv',qN _ _ _ c rfl (.s hS)⟩) fun v w c=>⟨hv',qV _ _ _ _ c (.nn hS)⟩))
 case setglob x=>exact ha.elim fun j ha=>ha.1▸hS.popS c fun v st us hS' hS c hv'=>enter (nth_map ha.2 (idx_last ⟨(set_inv c).1,qN _ _ D (set_inv c).2 rfl hS⟩))
 case seq=>obtain rfl:a=.none:=ha; exact p_seq hS c qN
 case forin=>obtain rfl:a=.none:=ha; exact p_forin hS c qN
theorem c_plain {i:Ins} (hi:plainI i=true) (hv':vs.length < cap) (c:istep F ⟨m,st,w,kept⟩ i N V O) (hS:StR D st vs) (ha:InsA cs i a)
  (qN:∀ m' vs' D',N m'→m'.pc=m+1→StR D' m'.st vs'→Q .none (GM p m'.w m'.kept t vs' D')) (qV:∀ f st w vs,V f st w→StR D st vs→Q (.str f) (GM p w kept t vs D)) :
  callN (txt scr) (k+2) 991 [.dct 15,.str i.nm,a,.lst 19,unN cs cv hv us li lc] Q (GM p w kept t vs D):=c_plain0 hi c hS ha qN qV hv'
end
end
end
section
section
variable {scr:Nat→Option (List NV)} {p:P12} {h w t:W} {kept:List (Nat × Nat)} {rest:List Ob} {D:Nat→Option Ob} {k m l:Nat} {Q:Po} {n:Nm} {v:NV} {K:Kr} {F:Un} {st:List SV} {vs:List NV}
noncomputable def JmC (scr:Nat→Option (List NV)) (k:Nat) (i:Ins) (l:Nat) (m:Nat) (Q:Po) (p:P12) (w t:W) (kept:List (Nat × Nat)) (D:Nat→Option Ob) (vs:List NV):Prop:=
 vs.length+2≤cap→callN (txt scr) (k+1) 986 [.str i.nm,.int l,.lst 19,.int ((m+1:Nat):Int)] Q (GM p w kept t vs D)
theorem StR.popK {C:List NV→Prop} {A:List Nat→List SV→Prop} (hS:StR D st vs) (c:tK (fun x st=>x.kK fun v=>A v st) st) (k:∀ {v:List Nat} {a:Nat} {st:List SV} {us:List NV},StR D st us→D a=Option.some (.L (v.map .str))→NV.dl a ∉ us→A v st→C (us++[.dl a])):C vs:=by
 rcases hS with _ | h | h | h | ⟨h,e,n⟩
 ·exact c.elim
 ·exact c.elim
 ·exact c.elim
 ·exact c.elim
 ·exact k h e n c
theorem j_next {N:MS→Prop} {V:Nat→List SV→W→Prop} {O:Nat→W→Prop} (hS:StR D st vs) (c:istep F ⟨m,st,w,kept⟩ (.nextin l) N V O) (q:∀ m' vs' D',N m'→StR D' m'.st vs'→Q (.int m'.pc) (GM p m'.w m'.kept t vs' D')):JmC scr k (.nextin l) (F.pl l) m Q p w t kept D vs:=
 hS.popK c fun {ls a st us} hS2 hD hn c hv'=>by
  have e1:(match D a with
   | some (.L l)=>(pds (pd (GM p w kept t (us++[.dl a]) D) 3) l).map PD.fl
   | _=>none)=some (.fl (ls.map .str)):=by rw [hD]; exact fl3
  rcases ls with _ | ⟨y,ls⟩
  ·exact enter (idx_last (op_of e1 (q _ _ _ c (.k hS2 hD hn))))
  ·have c1:(us++[NV.dl a]).length < cap:=Nat.lt_of_succ_lt hv'
   refine enter (idx_last (op_of e1 (idx_last (op_of hD ⟨rfl,op_of hD ⟨c1,?_⟩⟩))))
   exact q _ _ (dset D a (some (.L (ls.map .str)))) c (.s (.k (hS2.to fun b hb=>if_neg fun (z:b=a)=>hn (z▸hb)) (if_pos rfl) hn))
theorem jmp_kind {i:Ins} (e:i.tgt=some l):i=.jmp l∨i=.gosub l∨i=.nextin l∨i=.jf l∨i=.jt l:=by
 induction i using Ins.casesOn <;> first | exact (Option.some_ne_none _ e.symm).elim | exact Option.some.inj e▸.inl rfl | exact Option.some.inj e▸.inr (.inl rfl) | exact Option.some.inj e▸.inr (.inr (.inl rfl)) | exact Option.some.inj e▸.inr (.inr (.inr (.inl rfl))) | exact Option.some.inj e▸.inr (.inr (.inr (.inr rfl)))
theorem c_jmp0 {i:Ins} {N:MS→Prop} {V:Nat→List SV→W→Prop} {O:Nat→W→Prop} (e:i.tgt=some l) (c:istep F ⟨m,st,w,kept⟩ i N V O) (hS:StR D st vs)
  (q:∀ m' vs' D',N m'→StR D' m'.st vs'→Q (.int m'.pc) (GM p m'.w m'.kept t vs' D')):JmC scr k i (F.pl l) m Q p w t kept D vs:=by
 rcases jmp_kind e with rfl | rfl | rfl | rfl | rfl
 ·exact fun hv'=>enter (q _ _ _ c hS)
 ·exact fun hv'=>by
   have q:=q _ _ D c (.i (.s hS))
   rw [set_last] at q
   exact enter ⟨hv',q⟩
 ·exact j_next hS c q
 ·exact hS.popS c fun v st us hS2 hS c hv'=>by
   refine enter (last_snoc ?_)
   rcases v with _ | v
   ·exact q _ _ _ c hS2
   ·exact q _ _ _ c hS2
 ·exact hS.popS c fun v st us hS2 hS c hv'=>by
   refine enter (last_snoc ?_)
   rcases v with _ | v
   ·exact q _ _ _ c hS2
   ·exact q _ _ _ c hS2
theorem c_jmp {i:Ins} {N:MS→Prop} {V:Nat→List SV→W→Prop} {O:Nat→W→Prop} (e:i.tgt=some l) (hv':vs.length+2≤cap) (c:istep F ⟨m,st,w,kept⟩ i N V O) (hS:StR D st vs)
  (q:∀ m' vs' D',N m'→StR D' m'.st vs'→Q (.int m'.pc) (GM p m'.w m'.kept t vs' D')):callN (txt scr) (k+1) 986 [.str i.nm,.int (F.pl l),.lst 19,.int ((m+1:Nat):Int)] Q (GM p w kept t vs D):=c_jmp0 e c hS q hv'
theorem le_dec {x y:Nat}:decide ((x:Int)≤y)=Nat.ble x y:=by
 cases e:Nat.ble x y with
 | true=>exact decide_eq_true (Int.ofNat_le.mpr (Nat.le_of_ble_eq_true e))
 | false=>exact decide_eq_false fun h=>by rw [Nat.ble_eq_true_of_le (Int.ofNat_le.mp h)] at e; exact nomatch e
theorem lt_dec {x y:Nat}:decide ((x:Int) < y)=Nat.blt x y:=le_dec (x:=x+1)
theorem StR.pop {x:SV} (h:StR D (x :: st) vs):∃ us y,vs=us++[y]∧StR D st us:=by cases h <;> exact ⟨_,_,rfl,‹_›⟩
noncomputable def catS (fin:Bool) (f:Nat) (st:List SV):List SV:=match fin with
 | true=>.i (-1) :: .s f :: st
 | false=>.s f :: st
noncomputable def catB:S:=match b979 with
 | .sq (.fo _ _ _ r) _=>r
 | _=>.sk
noncomputable def popB:S:=match catB with
 | .ie _ r _=>r
 | _=>.sk
noncomputable def popW:E × S:=match popB with
 | .sq (.wh t b) _=>(t,b)
 | _=>(.e0,.sk)
noncomputable def cF (u:NV) (pc f:Nat) (s1 s2 s3 y7 y8:Option NV):Fr:=[some u,some (.int pc),some (.lst 19),some (.str f),s1,s2,s3,y7,y8]
theorem pop_wh {d:Int} {f pc:Nat} {u:NV} {y8 s1 s2 s3:Option NV} {RR:PoS} (hd:0≤d) (q:∀ st' vs',StR D st' vs'→vs'.length+2≤cap→st'=st.drop (st.length - d.toNat)→RR .nxt (cF u pc f s1 s2 s3 (some (.int d)) y8) (GM p w kept t vs' D)):∀ j {st' vs'},StR D st' vs'→st'.length < j→vs'.length+2≤cap→st'.drop (st'.length - d.toNat)=st.drop (st.length - d.toNat) →
  whlW (fun fr Q σ=>wE (txt scr) (callN (txt scr) k) popW.1 fr Q σ) (fun fr Q σ=>wS (txt scr) (callN (txt scr) k) popW.2 fr Q σ) RR j (cF u pc f s1 s2 s3 (some (.int d)) y8) (GM p w kept t vs' D):=by
 intro j
 induction j with
 | zero=>exact fun {_ _} _ h=>absurd h (Nat.not_lt_zero _)
 | succ j ih=>
  intro st' vs' hS hj hl e
  have hn:=hS.len
  rcases hc:decide (d < (vs'.length:Int)) with _ | _
  ·refine if_f hc (q st' vs' hS hl ?_)
   have hlt:=of_decide_eq_false hc
   rw [← e,show st'.length - d.toNat=0 by lia]; rfl
  ·refine if_t hc ?_
   have hlt:=of_decide_eq_true hc
   rcases st' with _ | ⟨x,st'⟩
   ·rw [hn] at hlt; exact absurd hlt (Int.not_lt.mpr hd)
   ·obtain ⟨us,y,rfl,hS2⟩:=hS.pop
    rw [List.length_append] at hl hlt
    refine last_snoc (ih hS2 (Nat.lt_of_succ_lt_succ hj) (Nat.le_trans (Nat.le_succ _) hl) ?_)
    rw [← e,show (x :: st').length - d.toNat=(st'.length - d.toNat)+1 by have h1:=hS2.len; have h2:((us.length+1:Nat):Int)=us.length+1:=rfl; have hlt:d < ((us.length+1:Nat):Int):=hlt; show st'.length+1 - d.toNat=_; lia]; rfl
theorem pop_to {d:Int} {f pc:Nat} {u:NV} {fin:Bool} {s1 s2:Option NV} {s3:NV} (hd:0≤d) (hS:StR D st vs) (hl:vs.length+2≤cap) {R:PoS}
  (q:∀ vs',StR D (catS fin f (st.drop (st.length - d.toNat))) vs'→∀ fr,R (.ret s3) fr (GM p w kept t vs' D)) :
  wS (txt scr) (callN (txt scr) k) popB (cF u pc f s1 s2 (some s3) (some (.int d)) (some (.bool fin))) R (GM p w kept t vs D):=by
 refine ⟨st.length+1,pop_wh (st:=st) hd (fun st' vs' hS hl e=>?_) _ hS (Nat.lt_succ_self _) hl rfl⟩
 rw [← e] at q
 rcases fin with _ | _
 ·exact ⟨Nat.le_trans (Nat.le_succ _) hl,q _ (.s hS) _⟩
 ·have q:=q _ (.i (.s hS))
  rw [set_last] at q
  exact ⟨hl,q _⟩
noncomputable def hpV (F:Un) (h:Hd):NV:=.tup [.int (F.pl h.start),.int (F.pl h.stop),.int (F.pl h.goal),.int h.dep,.bool h.fin]
noncomputable def catP:Pt:=match b979 with
 | .sq (.fo p _ _ _) _=>p
 | _=>.nil
theorem c_catch {f pc:Nat} {cs:List CV} {cv:List NV} {us li:NV} {lc:Int} (hS:StR D st vs) (hl:vs.length+2≤cap)
  (c:match findH F.pl pc F.hs with
   | none=>Q (.int (-1)) (GM p w kept t vs D)
   | some h=>0≤h.dep∧∀ vs',StR D (F.catch h f st w kept).st vs'→Q (.int (F.pl h.goal)) (GM p w kept t vs' D)) :
  callN (txt scr) (k+1) 979 [unN cs cv (F.hs.map (hpV F)) us li lc,.int (pc:Nat),.lst 19,.str f] Q (GM p w kept t vs D):=by
 have key:∀ {RR:PoS} {p1:Pt} {chk:NH→Prop},(∀ v fr σ,Q v σ→RR (.ret v) fr σ)→(∀ fr,Q (.int (-1)) (GM p w kept t vs D)→RR .nxt fr (GM p w kept t vs D))→p1=catP→chk (GM p w kept t vs D)→∀ r:List Hd,(match findH F.pl pc r with
   | none=>Q (.int (-1)) (GM p w kept t vs D)
   | some h=>0≤h.dep∧∀ vs',StR D (F.catch h f st w kept).st vs'→Q (.int (F.pl h.goal)) (GM p w kept t vs' D))→∀ s1 s2 s3 y7 y8,
   forW p1 chk (fun fr Q σ=>wS (txt scr) (callN (txt scr) k) catB fr Q σ) RR (r.map (hpV F)) (cF (unN cs cv (F.hs.map (hpV F)) us li lc) pc f s1 s2 s3 y7 y8) (GM p w kept t vs D):=fun {RR p1 chk} q1 q2 ep hc r=>by
  subst ep
  induction r with
  | nil=>exact fun c s1 s2 s3 y7 y8=>⟨hc,q2 _ c⟩
  | cons h r ih=>
   intro c s1 s2 s3 y7 y8
   have c:(match (match Nat.ble (F.pl h.start) pc&&Nat.blt pc (F.pl h.stop) with
    | true=>some h
    | false=>findH F.pl pc r) with
    | none=>Q (.int (-1)) (GM p w kept t vs D)
    | some h=>0≤h.dep∧∀ vs',StR D (F.catch h f st w kept).st vs'→Q (.int (F.pl h.goal)) (GM p w kept t vs' D)):=c
   refine ⟨hc,?_⟩
   rcases e1:Nat.ble (F.pl h.start) pc with _ | _ <;> rw [e1] at c
   ·exact if_f (le_dec.trans e1) (if_f (le_dec.trans e1) (ih c _ _ _ _ _))
   ·refine if_t (le_dec.trans e1) ?_
    rcases e2:Nat.blt pc (F.pl h.stop) with _ | _ <;> rw [e2] at c
    ·exact if_f (lt_dec.trans e2) (ih c _ _ _ _ _)
    ·exact if_t (lt_dec.trans e2) (pop_to c.1 hS hl fun vs' hs fr=>q1 _ _ _ (c.2 vs' hs))
 exact enter (key (fun v fr σ q=>q) (fun fr q=>q) rfl (by exact rfl) F.hs c _ _ _ _ _)
end
end
section
theorem beq_ne {a b:Nat} (h:a≠b):Nat.beq a b=false:=by
 cases e:Nat.beq a b with
 | false=>rfl
 | true=>exact absurd (Nat.eq_of_beq_eq_true e) h
noncomputable def turnB:S:=match S.drop 1 b998 with
 | .sq (.fo _ _ _ r) _=>r
 | _=>.sk
section
variable {scr:Nat→Option (List NV)} {p:P12} {h w t:W} {kept:List (Nat × Nat)} {rest:List Ob} {D:Nat→Option Ob} {k m l:Nat} {Q:Po} {n:Nm} {v:NV} {K:Kr} {F:Un} {st:List SV} {vs:List NV}
 {cs:List CV} {cv:List NV} {us li:NV} {lc:Int}
theorem bm {b:Bool} {A B A' B':Prop} (h1:A→A') (h2:B→B'):(match b with
  | true=>A
  | false=>B)→match b with
  | true=>A'
  | false=>B':=by
 cases b
 ·exact h2
 ·exact h1
theorem om {o:Option Nat} {A A':Nat→Prop} (h1:∀ v,A v→A' v):(match o with
  | some v=>A v
  | none=>False)→match o with
  | some v=>A' v
  | none=>False:=by
 cases o
 ·exact id
 ·exact h1 _
structure Nxt (m m':MS):Prop where
 st:m'.st.length≤m.st.length+2
 w:m'.w.left.length≤m.w.left.length
 kp:m'.kept.length≤m.kept.length+1
theorem get_le {n:Nm} {Y F:Nat→W→Prop} (c:w.get n Y F):w.get n (fun v w'=>Y v w'∧w'.left.length≤w.left.length∧(n≠.x→v≠0→w'.left.length+1≤w.left.length)) fun f w'=>F f w'∧w'.left.length≤w.left.length:=by
 unfold W.get at c ⊢
 obtain ⟨sn,lf,x⟩:=w
 cases n
 case x=>exact ⟨c.1,c.2,Nat.le_refl _,fun h=>absurd rfl h⟩
 case e=>cases lf with
  | nil=>exact ⟨c.1,c.2.1,c.2.2,Nat.le_refl _⟩
  | cons y lf=>exact ⟨c.1,c.2.1,c.2.2,Nat.le_succ _⟩
 all_goals
  cases lf with
  | nil=>exact ⟨c.1,c.2,Nat.le_refl _,fun _ h=>absurd rfl h⟩
  | cons y lf=>exact ⟨c.1,c.2,Nat.le_succ _,fun _ _=>Nat.le_refl _⟩
theorem set_le {x y:Nat} {K:W→Prop} (c:w.setK x y K):w.setK x y fun w'=>K w'∧w'.left.length=w.left.length:=by
 unfold W.setK at c ⊢
 exact ⟨c.1,c.2,rfl⟩
theorem put_len {k v:Nat}:∀ {l:List (Nat × Nat)},(putN k v l).length≤l.length+1
 | []=>Nat.le_refl _
 | (k',v') :: r=>by
  show (match Nat.beq k' k with
   | true=>(k',v) :: r
   | false=>(k',v') :: putN k v r).length≤_
  cases Nat.beq k' k
  ·exact Nat.succ_le_succ put_len
  ·exact Nat.le_succ _
theorem tm {l:List SV} {A A':SV→List SV→Prop} (h:∀ x st,l.length=st.length+1→A x st→A' x st) (c:tK A l):tK A' l:=by
 rcases l with _ | ⟨x,st⟩
 ·exact c
 ·exact h x st rfl c
theorem sm {x:SV} {A A':Nat→Prop} (h:∀ v,A v→A' v) (c:x.sK A):x.sK A':=by
 rcases x with _ | v | _ | _
 ·exact c
 ·exact h v c
 ·exact c
 ·exact c
theorem im {x:SV} {A A':Int→Prop} (h:∀ v,A v→A' v) (c:x.iK A):x.iK A':=by
 rcases x with _ | _ | v | _
 ·exact c
 ·exact c
 ·exact h v c
 ·exact c
theorem km {x:SV} {A A':List Nat→Prop} (h:∀ v,A v→A' v) (c:x.kK A):x.kK A':=by
 rcases x with _ | _ | _ | v
 ·exact c
 ·exact c
 ·exact c
 ·exact h v c
theorem nzm {v:Nat} {A B A' B':Prop} (h1:A→A') (h2:B→B') (c:nz v A B):nz v A' B':=by
 rcases v with _ | _
 ·exact h2 c
 ·exact h1 c
theorem Nxt.g {m:MS} {p' d k:Nat} {st':List SV} {w':W} (ew:w'.left.length≤m.w.left.length) (e:m.st.length=k) (h:st'.length+d=k+2):Nxt m ⟨p',st',w',m.kept⟩:=⟨by rw [e,← h]; exact Nat.le_add_right _ _,ew,Nat.le_succ _⟩
theorem Nxt.f {m:MS} {d k:Nat} {st':List SV} {w':W} (ew:w'.left.length≤m.w.left.length) (e:m.st.length=k) (h:st'.length+d=k+2):Nxt m ⟨0,st',w',[]⟩:=⟨by rw [e,← h]; exact Nat.le_add_right _ _,ew,Nat.zero_le _⟩
set_option tactic.hygienic true in
theorem istep_mono {i:Ins} {m:MS} {N N':MS→Prop} {V V':Nat→List SV→W→Prop} {O O':Nat→W→Prop} (hN:∀ m',N m'→Nxt m m'→N' m') (hV:∀ v st w,V v st w→Nxt m ⟨0,st,w,[]⟩→V' v st w) (hO:∀ v w,O v w→O' v w) (c:istep F m i N V O):istep F m i N' V' O':=by
 have r:=Nat.le_refl m.w.left.length
 have gv:∀ n,m.w.get n (fun v w=>N ⟨m.pc+1,.s v :: m.st,w,m.kept⟩) (fun f w=>V f (.nn :: m.st) w)→m.w.get n (fun v w=>N' ⟨m.pc+1,.s v :: m.st,w,m.kept⟩) (fun f w=>V' f (.nn :: m.st) w):=fun n c=>
  get_mono (fun v w c=>hN _ c.1 (.g (d:=1) c.2.1 rfl rfl)) (fun v w c=>hV _ _ _ c.1 (.f (d:=1) c.2 rfl rfl)) (get_le c)
 induction i using Ins.casesOn
 case undef=>exact hN _ c (.g (d:=1) r rfl rfl)
 case const=>exact ⟨c.1,hN _ c.2 (.g (d:=1) r rfl rfl)⟩
 case jmp=>exact hN _ c (.g (d:=2) r rfl rfl)
 case gosub=>exact hN _ c (.g (d:=0) r rfl rfl)
 case getglob n=>exact gv n c
 case getloc j=>exact bm (gv .x) (om fun v (c:N _)=>hN _ c (.g (d:=1) r rfl rfl)) c
 case pop=>exact tm (fun x st e c=>hN _ c (.g (d:=3) r e rfl)) c
 case dup=>exact tm (fun x st e=>sm fun v c=>hN _ c (.g (d:=1) r e rfl)) c
 case setloc j=>exact tm (fun x st e=>sm fun v=>bm (fun c=>hN _ c (.g (d:=2) r e rfl)) (fun c=>⟨c.1,hN _ c.2 ⟨by rw [e]; exact Nat.le_add_right _ _,r,put_len⟩⟩)) c
 case setglob=>exact tm (fun x st e=>sm fun v c=>set_mono (fun w c=>hN _ c.1 (.g (d:=2) (Nat.le_of_eq c.2) e rfl)) (set_le c)) c
 case jf=>exact tm (fun x st e=>sm fun v=>nzm (fun c=>hN _ c (.g (d:=3) r e rfl)) fun c=>hN _ c (.g (d:=3) r e rfl)) c
 case jt=>exact tm (fun x st e=>sm fun v=>nzm (fun c=>hN _ c (.g (d:=3) r e rfl)) fun c=>hN _ c (.g (d:=3) r e rfl)) c
 case ret=>exact tm (fun x st e=>sm fun v=>hO _ _) c
 case thr=>exact tm (fun x st e=>sm fun v c=>hV _ _ _ c (.f (d:=3) r e rfl)) c
 case forin=>exact tm (fun x st e=>sm fun v c=>⟨c.1,hN _ c.2 (.g (d:=2) r e rfl)⟩) c
 case nextin=>exact tm (fun x st e=>km fun l c=>by
   rcases l with _ | ⟨y,l⟩
   ·exact hN _ c (.g (d:=2) r e rfl)
   ·exact hN _ c (.g (d:=1) r e rfl)) c
 case seq=>exact tm (fun x st e=>sm fun a=>tm fun x st2 e2=>sm fun b c=>hN _ c (.g (d:=3) (k:=st2.length+2) r (e.trans (congrArg (·+1) e2)) rfl)) c
 case retsub=>exact tm (fun x st e=>im fun p=>tm fun x st2 e2=>sm fun v c=>by
   rcases p with p | p
   ·exact hN _ c (.g (d:=4) (k:=st2.length+2) r (e.trans (congrArg (·+1) e2)) rfl)
   ·exact hV _ _ _ c (.f (d:=4) (k:=st2.length+2) r (e.trans (congrArg (·+1) e2)) rfl)) c
theorem nm_tgt {i:Ins}:PD.mem (.str i.nm) [.str 72,.str 85,.str 71,.str 74,.str 73]=i.tgt.isSome:=by cases i <;> rfl
theorem nm_plain {i:Ins} (h:plainI i=true):Nat.beq i.nm 86=false∧Nat.beq i.nm 87=false∧Nat.beq i.nm 88=false:=by cases i <;> first | exact ⟨rfl,rfl,rfl⟩ | cases h
theorem catch_len {h:Hd} {f:Nat}:(F.catch h f st w kept).st.length≤st.length+2:=by
 have e:(st.drop (st.length - h.dep.toNat)).length≤st.length:=by rw [List.length_drop]; exact Nat.sub_le _ _
 unfold Un.catch
 cases h.fin
 ·exact Nat.succ_le_succ (Nat.le_succ_of_le e)
 ·exact Nat.succ_le_succ (Nat.succ_le_succ e)
noncomputable def mF (u:NV) (y3 y4 y5 y6 y7 y8:Option NV):Fr:=[some (.dct 15),some u,some (.lst 19),y3,y4,y5,y6,y7,y8]
theorem run_fault {f pc:Nat} {y3 y4 y7 y8:Option NV} {R:PoS} (hS:StR D st vs) (hl:vs.length+2≤cap)
  (c:match findH F.pl pc F.hs with
   | none=>∀ fr,R (.ret (.tup [.str 48,.str f])) fr (GM p w kept t vs D)
   | some h=>0≤h.dep∧∀ vs',StR D (F.catch h f st w kept).st vs'→R .nxt (mF (unN cs cv (F.hs.map (hpV F)) us li lc) (some (.int (F.pl h.goal))) y4 (some (.int pc)) (some (.str f)) y7 y8) (GM p w kept t vs' D)) :
  wS (txt scr) (callN (txt scr) (k+1)) (S.drop 5 turnB) (mF (unN cs cv (F.hs.map (hpV F)) us li lc) y3 y4 (some (.int pc)) (some (.str f)) y7 y8) R (GM p w kept t vs D):=by
 refine c_catch hS hl ?_
 rcases e:findH F.pl pc F.hs with _ | h <;> rw [e] at c
 ·exact c _
 ·exact ⟨c.1,fun vs' h=>c.2 vs' h⟩
theorem end_kind {i:Ins} (e:i.tgt=none) (hp:plainI i=false):i=.ret∨i=.thr∨i=.retsub:=by
 induction i using Ins.casesOn <;> first | exact absurd hp.symm Bool.false_ne_true | exact (Option.some_ne_none _ e).elim | exact .inl rfl | exact .inr (.inl rfl) | exact .inr (.inr rfl)
theorem StR.popI {C:List NV→Prop} {A:Int→List SV→Prop} (hS:StR D st vs) (c:tK (fun x st=>x.iK fun v=>A v st) st) (k:∀ v st us,StR D st us→A v st→C (us++[.int v])):C vs:=by
 rcases hS with _ | h | h | h | ⟨h,_,_⟩
 ·exact c.elim
 ·exact c.elim
 ·exact k _ _ _ h c
 ·exact c.elim
 ·exact c.elim
theorem c_end {i:Ins} {u:NV} {y4 y8:Option NV} {R:PoS} {N:MS→Prop} {V:Nat→List SV→W→Prop} {O:Nat→W→Prop} (e:i.tgt=none) (hp:plainI i=false) (hS:StR D st vs) (c:istep F ⟨m,st,w,kept⟩ i N V O)
  (qN:∀ m' vs',N m'→StR D m'.st vs'→R .nxt (mF u (some (.int m'.pc)) y4 (some (.int m)) (some .none) (some (.str i.nm)) y8) (GM p m'.w m'.kept t vs' D))
  (qV:∀ f st w vs y3,V f st w→StR D st vs→wS (txt scr) (callN (txt scr) (k+1)) (S.drop 5 turnB) (mF u (some (.int y3)) y4 (some (.int m)) (some (.str f)) (some (.str i.nm)) y8) R (GM p w kept t vs D))
  (qO:∀ v w fr vs,O v w→R (.ret (.tup [.str 45,.str v])) fr (GM p w kept t vs D)) :
  wS (txt scr) (callN (txt scr) (k+1)) (S.drop 4 turnB) (mF u (some (.int ((m+1:Nat):Int))) y4 (some (.int m)) (some .none) (some (.str i.nm)) y8) R (GM p w kept t vs D):=by
 rcases end_kind e hp with rfl | rfl | rfl
 ·exact hS.popS (C:=fun vs=>wS _ _ _ _ _ (GM p w kept t vs D)) c fun v st us hS _ c=>last_snoc (qO _ _ _ _ c)
 ·exact hS.popS (C:=fun vs=>wS _ _ _ _ _ (GM p w kept t vs D)) c fun v st us hS _ c=>last_snoc (qV _ _ _ _ _ c hS)
 ·refine hS.popI (C:=fun vs=>wS _ _ _ _ _ (GM p w kept t vs D)) c fun d st us hS c=>hS.popS (C:=fun vs=>wS _ _ _ _ _ (GM p w kept t (vs++[_]) D)) c fun v st us hS _ c=>?_
  rcases d with d | d
  ·exact last_snoc (last_snoc (qN _ _ c hS))
  ·refine last_snoc (last_snoc (if_t (decide_eq_true (Int.negSucc_lt_zero d)) ?_))
   have z:=qV _ _ _ _ (.negSucc d) c hS
   show wE _ _ _ _ _ (GM p w kept t (by assumption) D)
   show setv _ _ _ _
   show wS _ _ _ _ _ _
   exact z
noncomputable def Flt (F:Un) (K:Kr) (n:Nat) (m:MS) (f:Nat) (st:List SV) (w:W):Prop:=match findH F.pl m.pc F.hs with
 | none=>K (.thr f) w
 | some h=>0≤h.dep∧F.run K n (F.catch h f st w m.kept)
theorem run_el {C:Prop} {n:Nat} {m:MS} (c:F.run K (n+1) m) (h0:m.pc=F.code.length→m.st=[]→K .norm m.w→C) (h1:∀ i,F.code[m.pc]?=some i→istep F m i (F.run K n) (Flt F K n m) (fun v w=>K (.ret v) w)→C):C:=by
 have c:(match F.code[m.pc]? with
  | none=>m.pc=F.code.length∧m.st=[]∧K .norm m.w
  | some i=>istep F m i (F.run K n) (Flt F K n m) fun v w=>K (.ret v) w):=c
 rcases hc:F.code[m.pc]? with _ | i <;> rw [hc] at c
 ·exact h0 c.1 c.2.1 c.2.2
 ·exact h1 i hc c
section
variable {R:PoS} {K':Fr→NH→Prop} {m:MS} {n:Nat} {y3 y4 y5 y6 y7 y8:Option NV} {f:Nat}
theorem turn_flt (hq:∀ r w kept vs D fr,K r w→R (.ret (resV r)) fr (GM p w kept t vs D)) (hK:∀ m' vs' D' y4 y5 y6 y7 y8,F.run K n m'→StR D' m'.st vs'→m'.st.length≤m.st.length+4→K' (mF (unN cs cv (F.hs.map (hpV F)) us li lc) (some (.int m'.pc)) y4 y5 y6 y7 y8) (GM p m'.w m'.kept t vs' D'))
  (hl:m.st.length+4≤cap) (c:Flt F K n m f st w∧st.length≤m.st.length+2) (h:StR D st vs):wS (txt scr) (callN (txt scr) (k+2)) (S.drop 5 turnB) (mF (unN cs cv (F.hs.map (hpV F)) us li lc) y3 y4 (some (.int m.pc)) (some (.str f)) y7 y8) (cR R K') (GM p w m.kept t vs D):=by
 refine run_fault h (Nat.le_trans (Nat.add_le_add_right (h.len▸c.2) 2) hl) ?_
 have c1:=c.1
 unfold Flt at c1
 rcases e:findH F.pl m.pc F.hs with _ | h' <;> rw [e] at c1
 ·exact fun fr=>hq _ _ _ _ _ _ c1
 ·exact ⟨c1.1,fun vs' h2=>hK _ _ _ _ _ _ _ _ c1.2 h2 (Nat.le_trans catch_len (Nat.add_le_add_right c.2 2))⟩
theorem turn (U:UnR F cs cv (F.hs.map (hpV F))) (hq:∀ r w kept vs D fr,K r w→R (.ret (resV r)) fr (GM p w kept t vs D)) (hK:∀ m' vs' D' y4 y5 y6 y7 y8,F.run K n m'→StR D' m'.st vs'→m'.st.length≤m.st.length+4→K' (mF (unN cs cv (F.hs.map (hpV F)) us li lc) (some (.int m'.pc)) y4 y5 y6 y7 y8) (GM p m'.w m'.kept t vs' D'))
  (c:F.run K (n+1) m) (hS:StR D m.st vs) (hl:m.st.length+4≤cap):wS (txt scr) (callN (txt scr) (k+2)) turnB (mF (unN cs cv (F.hs.map (hpV F)) us li lc) (some (.int m.pc)) y4 y5 y6 y7 y8) (cR R K') (GM p m.w m.kept t vs D):=by
 refine run_el c (fun e1 e2 c=>?_) fun i hc c=>?_
 ·rw [e2] at hS
  obtain rfl:=List.eq_nil_of_length_eq_zero hS.len
  exact if_t (beq_dec.trans (U.len▸e1▸Nat.beq_refl _)) (hq _ _ _ _ _ _ c)
 ·obtain ⟨a,ha,hi⟩:=U.code _ _ hc
  refine if_f (beq_dec.trans (U.len▸beq_ne (Nat.ne_of_lt (List.getElem?_eq_some_iff.mp hc).1))) (nth_of ha (c_opname (nth_of ha ?_)))
  have c:=istep_mono (N':=fun m'=>F.run K n m'∧m'.st.length≤m.st.length+4) (fun m' c h=>⟨c,Nat.le_succ_of_le (Nat.le_succ_of_le h.st)⟩) (V':=fun v st w=>Flt F K n m v st w∧st.length≤m.st.length+2) (fun v st w c h=>⟨c,h.st⟩) (fun _ _ c=>c) c
  have hv:=hS.len
  unfold PInsA at hi
  rcases e:i.tgt with _ | l <;> rw [e] at hi
  ·rcases hp:plainI i with _ | _
   ·exact c_end e hp hS c (fun m' vs' c h=>hK m' vs' D _ _ _ _ _ c.1 h c.2) (fun f st w vs y c h=>turn_flt hq hK hl c h) fun v w fr vs c=>hq _ _ _ _ _ _ c
   ·have hn:=nm_plain hp
    exact if_f (nm_tgt.trans (by rw [e]; rfl)) (if_f hn.1 (if_f hn.2.1 (if_f hn.2.2 (c_plain hp (hv▸Nat.lt_of_lt_of_le (Nat.lt_add_of_pos_right (by decide)) hl) c hS hi (fun m' vs' D' c e h=>by have z:=hK m' vs' D' y4 (some (.int m.pc)) (some .none) (some (.str i.nm)) (some a) c.1 h c.2; rw [e] at z; exact z) fun f st w vs c h=>turn_flt hq hK hl c h))))
  ·rw [show a=.int (F.pl l) from hi]
   exact if_t (nm_tgt.trans (by rw [e]; rfl)) (c_jmp e (hv▸Nat.le_trans (Nat.add_le_add_left (by decide) _) hl) c hS fun m' vs' D' c h=>hK m' vs' D' _ _ _ _ _ c.1 h c.2)
end
theorem turns {R:PoS} (U:UnR F cs cv (F.hs.map (hpV F))) (hq:∀ r w kept vs D fr,K r w→R (.ret (resV r)) fr (GM p w kept t vs D)):∀ n j {m:MS} {vs:List NV} {D:Nat→Option Ob} {y4 y5 y6 y7 y8:Option NV},F.run K n m→StR D m.st vs→m.st.length+4 * n≤16000 →
  forW (.loc 4) (fun _=>True) (fun fr Q σ=>wS (txt scr) (callN (txt scr) (k+2)) turnB fr Q σ) R (ups j n) (mF (unN cs cv (F.hs.map (hpV F)) us li lc) (some (.int m.pc)) y4 y5 y6 y7 y8) (GM p m.w m.kept t vs D):=by
 intro n
 induction n with
 | zero=>exact fun j {_ _ _ _ _ _ _ _} c=>c.elim
 | succ n ih=>
  exact fun j {m vs D _ _ _ _ _} c hS hl=>⟨trivial,turn (K':=fun fr σ=>forW _ _ _ R (ups (j+1) n) fr σ) U hq (fun m' vs' D' y4 y5 y6 y7 y8 c h e=>ih (j+1) c h (by lia)) c hS (Nat.le_trans (Nat.le_trans (Nat.add_le_add_left (Nat.le_mul_of_pos_right 4 (Nat.succ_pos n)) _) hl) (by decide))⟩
theorem turns' {R:PoS} {p1:Pt} {chk:NH→Prop} {bd:Fr→PoS→NH→Prop} (U:UnR F cs cv (F.hs.map (hpV F))) (hq:∀ r w kept vs D fr,K r w→R (.ret (resV r)) fr (GM p w kept t vs D)) (n j:Nat) (m:MS) (vs:List NV) (D:Nat→Option Ob) (y:Option NV × Option NV × Option NV × Option NV × Option NV) (c:F.run K n m) (hS:StR D m.st vs) (hl:m.st.length+4 * n≤16000) (e1:p1=.loc 4) (e2:chk=fun _=>True) (e3:bd=fun fr Q σ=>wS (txt scr) (callN (txt scr) (k+2)) turnB fr Q σ) :
  forW p1 chk bd R (ups j n) (mF (unN cs cv (F.hs.map (hpV F)) us li lc) (some (.int m.pc)) y.1 y.2.1 y.2.2.1 y.2.2.2.1 y.2.2.2.2) (GM p m.w m.kept t vs D):=by
 subst e1 e2 e3
 exact turns U hq n j c hS hl
theorem c_run (U:UnR F cs cv (F.hs.map (hpV F))) (c:F.run K 4000 ⟨0,[],w,[]⟩) (q:∀ r w kept vs D,K r w→Q (resV r) (GM p w kept t vs D)) :
  callN (txt scr) (k+3) 998 [.dct 15,unN cs cv (F.hs.map (hpV F)) us li lc] Q (G p w [] t [] D):=
 enter ⟨by decide,by decide,(turns' (K:=K) U (fun r w kept vs D fr c=>q r w kept vs D c) 4000 0 ⟨0,[],w,[]⟩ [] D (none,none,none,none,none) c .nil (show 0+4 * 4000≤16000 by decide) rfl rfl rfl)⟩
end
end
section
noncomputable def pOf (B:Bs) (w:Wit) (s:CS) (ctl:List Ctl):P12:=⟨B.x0,B.x1,.I 834 [22,23,4,24,9,25] [viewN,viewN,.ins 3,.lst 11,.int s.locals,.none],
 .I 413 [19,20,21] [.ins 4,depV s.depth,.lst 10],.I 307 [2,3,12,4,8,17,5,6,18,7,9,10,11,13,14,15,16] [.str 57,.fl [],.bool false,.lst 5,.lst 6,.int w.ln,.lst 7,.fl [],.lst 8,.lst 9,.int 0,.int 0,.fl [],.bool false,.none,.none,.fl []],
 .L w.co,.L w.li,.L (w.cs.map CV.av),.L (s.labels.map plV),.L (s.hs.map hdV),.L (s.labels.map dpV),.L (ctR ctl)⟩
noncomputable def CS.has (s:CS) (l:Nat):Prop:=∃ p,(s.labels[l]?).bind (·.pos)=some p
noncomputable def plI (s:CS) (x:Ins × NV):NV:=match x.1.tgt with
 | some l=>.int (s.spot l)
 | none=>x.2
noncomputable def inV (x:Ins × NV):NV:=.tup [.int x.1.op,x.2]
noncomputable def inP (s:CS) (x:Ins × NV):NV:=.tup [.int x.1.op,plI s x]
section
variable {scr:Nat→Option (List NV)} {B:Bs} {wi:Wit} {s:CS} {ctl:List Ctl} {h t:W} {kept:List (Nat × Nat)} {rest:List Ob} {D:Nat→Option Ob} {k l:Nat} {Q:Po} {i:Ins} {v:NV}
theorem CodeR.split {cs:List CV} {is:List Ins} {vs:List NV} (h:CodeR cs is vs):∃ L:List (Ins × NV),is=L.map (·.1)∧vs=L.map inV∧∀ x∈L,InsA cs x.1 x.2:=by
 induction h with
 | nil=>exact ⟨[],rfl,rfl,fun _ h=>nomatch h⟩
 | snoc _ a ih=>
  obtain ⟨L,e1,e2,h⟩:=ih
  exact ⟨L++[(_,_)],by rw [List.map_append,e1]; rfl,by rw [List.map_append,e2]; rfl,fun x hx=>(List.mem_append.mp hx).elim (h x) fun hx=>by cases List.mem_singleton.mp hx; exact a⟩
theorem c_kind {σ:NH} (q:∀ a,Nat.beq a 20=i.tgt.isSome→Q (.str a) σ):callN (txt scr) (k+1) 163 [.int i.op] Q σ:=by cases i <;> exact enter (q _ rfl)
theorem c_spot (hl:s.has l) (q:Q (.int (s.spot l)) (G (pOf B wi s ctl) h kept t rest D)):callN (txt scr) (k+1) 283 [.ins 4,.int l,v] Q (G (pOf B wi s ctl) h kept t rest D):=by
 obtain ⟨p,e⟩:=hl
 unfold CS.spot at q
 rw [e] at q
 cases e2:s.labels[l]? with
 | none=>rw [e2] at e; cases e
 | some b=>
  rw [e2] at e
  have e3:plV b=.int p:=by unfold plV; rw [show b.pos=some p from e]
  have e4:(s.labels.map plV)[l]?=some (.int p):=by rw [List.getElem?_map,e2]; exact congrArg some e3
  exact enter (nth_of e4 (nth_of e4 q))
theorem dset_k {P:NH→Prop} {R:List Ob} {a:Nat} {u v:Option Ob} (q:P ⟨R,dset D a v⟩):P ⟨R,dset (dset D a u) a v⟩:=by rw [dset_set]; exact q
theorem dset_b {P:NH→Prop} {R:List Ob} {a:Nat} {u:Option Ob} (h:D a=none) (q:P ⟨R,D⟩):P ⟨R,dset (dset D a u) a none⟩:=by rw [dset_back h]; exact q
noncomputable def lpB (b:S):S:=match S.drop 1 b with
 | .sq (.fo _ _ _ r) _=>r
 | _=>.sk
noncomputable def lpP (b:S):Pt:=match S.drop 1 b with
 | .sq (.fo p _ _ _) _=>p
 | _=>.nil
theorem c_code {L:List (Ins × NV)} (e:wi.co=L.map inV) (hl:L.length < cap) (ha:∀ x∈L,∀ l,x.1.tgt=some l→x.2=.int l∧s.has l) (q:Q (.fl (L.map (inP s))) (G (pOf B wi s ctl) h kept t [] D)) :
  callN (txt scr) (k+2) 290 [.ins 4] Q (G (pOf B wi s ctl) h kept t [] D):=by
 obtain ⟨cs,co,li,ln⟩:=wi
 cases e
 refine enter fun a hfa=>?_
 have key:∀ {RR:PoS} {p1:Pt} {chk:NH→Prop} {bd:Fr→PoS→NH→Prop},(∀ y2 y3 y4,RR .nxt [some (.ins 4),some (.dl a),y2,y3,y4] (G (pOf B ⟨cs,L.map inV,li,ln⟩ s ctl) h kept t [] (dset D a (some (.L (L.map (inP s))))))  )→p1=lpP b290→(∀ D,chk (G (pOf B ⟨cs,L.map inV,li,ln⟩ s ctl) h kept t [] D))→bd=(fun fr Q σ=>wS (txt scr) (callN (txt scr) (k+1)) (lpB b290) fr Q σ)→∀ (r d:List (Ins × NV)),d++r=L→∀ y2 y3 y4,
   forW p1 chk bd RR (zipI d.length (r.map inV)) [some (.ins 4),some (.dl a),y2,y3,y4] (G (pOf B ⟨cs,L.map inV,li,ln⟩ s ctl) h kept t [] (dset D a (some (.L (d.map (inP s)))))):=fun {RR p1 chk bd} q1 e1 hc e2 r=>by
  subst e1 e2
  induction r with
  | nil=>exact fun d e y2 y3 y4=>⟨hc _,by rw [← List.append_nil d,e]; exact q1 _ _ _⟩
  | cons z r ih=>
   intro d e y2 y3 y4
   have hz:=ha z (e▸List.mem_append_right _ (.head _))
   have hd:(d.map (inP s)).length < cap:=by rw [List.length_map]; exact Nat.lt_of_le_of_lt (by rw [← e,List.length_append]; exact Nat.le_add_right _ _) hl
   have q:=ih (d++[z]) (by rw [List.append_assoc]; exact e) (some (.int d.length)) (some (.int z.1.op)) (some z.2)
   rw [show List.map (inP s) (d++[z])=d.map (inP s)++[.tup [.int z.1.op,plI s z]] from List.map_append,List.length_append] at q
   refine ⟨hc _,op_of dset_same (c_kind fun b ea=>?_)⟩
   show ifT _ _ (.bool (Nat.beq b 20))
   unfold plI at q
   rcases et:z.1.tgt with _ | l <;> rw [et] at q ea
   ·exact if_f ea (op_of dset_same ⟨hd,dset_k (P:=fun σ=>forW _ _ _ RR _ _ σ) q⟩)
   ·rw [(hz l et).1] at q ⊢
    exact if_t ea (c_spot (hz l et).2 (op_of dset_same ⟨hd,dset_k (P:=fun σ=>forW _ _ _ RR _ _ σ) q⟩))
 exact key (fun _ _ _=>op_of dset_same (dset_b (P:=Q _) hfa q)) rfl (fun _=>by exact rfl) rfl L [] rfl none none none
noncomputable def CS.okH (s:CS) (h:Hd):Bool:=Nat.blt (s.spot h.start) (s.spot h.stop)
theorem c_hands (hl:s.hs.length < cap) (ha:∀ x∈s.hs,s.has x.start∧s.has x.stop∧s.has x.goal) (q:Q (.fl (s.unit.hs.map (hpV s.unit))) (G (pOf B wi s ctl) h kept t [] D)) :
  callN (txt scr) (k+2) 297 [.ins 4] Q (G (pOf B wi s ctl) h kept t [] D):=by
 refine enter fun a hfa=>?_
 have key:∀ {RR:PoS} {p1:Pt} {chk:NH→Prop} {bd:Fr→PoS→NH→Prop},(∀ y2 y3 y4 y5 y6 y7 y8,RR .nxt [some (.ins 4),some (.dl a),y2,y3,y4,y5,y6,y7,y8] (G (pOf B wi s ctl) h kept t [] (dset D a (some (.L (s.unit.hs.map (hpV s.unit)))))))→p1=lpP b297→(∀ D,chk (G (pOf B wi s ctl) h kept t [] D))→bd=(fun fr Q σ=>wS (txt scr) (callN (txt scr) (k+1)) (lpB b297) fr Q σ)→∀ r d:List Hd,d++r=s.hs→∀ y2 y3 y4 y5 y6 y7 y8,
   forW p1 chk bd RR (r.map hdV) [some (.ins 4),some (.dl a),y2,y3,y4,y5,y6,y7,y8] (G (pOf B wi s ctl) h kept t [] (dset D a (some (.L ((d.filter s.okH).map (hpV s.unit)))))):=fun {RR p1 chk bd} q1 e1 hc e2 r=>by
  subst e1 e2
  induction r with
  | nil=>exact fun d e y2 y3 y4 y5 y6 y7 y8=>⟨hc _,by rw [← List.append_nil d,e]; exact q1 _ _ _ _ _ _ _⟩
  | cons z r ih=>
   intro d e y2 y3 y4 y5 y6 y7 y8
   have hz:=ha z (e▸List.mem_append_right _ (.head _))
   have hd:((d.filter s.okH).map (hpV s.unit)).length < cap:=by rw [List.length_map]; exact Nat.lt_of_le_of_lt (Nat.le_trans (List.length_filter_le _ _) (by rw [← e,List.length_append]; exact Nat.le_add_right _ _)) hl
   have q:=ih (d++[z]) (by rw [List.append_assoc]; exact e) (some (.int z.start)) (some (.int z.stop)) (some (.int z.goal)) (some (.int z.dep)) (some (.bool z.fin)) (some (.int (s.spot z.start))) (some (.int (s.spot z.stop)))
   rw [List.filter_append] at q
   refine ⟨hc _,c_spot hz.1 (c_spot hz.2.1 ?_)⟩
   rcases e:s.okH z with _ | _
   ·rw [List.filter_cons_of_neg (by rw [e]; exact Bool.false_ne_true),List.filter_nil,List.append_nil] at q
    exact if_f (lt_dec.trans e) q
   ·rw [List.filter_cons_of_pos e,List.filter_nil,List.map_append] at q
    exact if_t (lt_dec.trans e) (op_of dset_same (c_spot hz.2.2 (op_of dset_same ⟨hd,dset_k (P:=fun σ=>forW _ _ _ RR _ _ σ) q⟩)))
 exact key (fun _ _ _ _ _ _ _=>op_of dset_same (dset_b (P:=Q _) hfa q)) rfl (fun _=>by exact rfl) rfl s.hs [] rfl none none none none none none none
theorem UnR_of {L:List (Ins × NV)} (e:s.code=L.map (·.1)) (hi:∀ x∈L,InsA wi.cs x.1 x.2):UnR s.unit wi.cs (L.map (inP s)) (s.unit.hs.map (hpV s.unit)) where
 code:=fun j i hj=>by
  rw [show s.unit.code=L.map (·.1) from e,List.getElem?_map] at hj
  cases e2:L[j]? with
  | none=>rw [e2] at hj; cases hj
  | some x=>
   rw [e2] at hj
   cases hj
   refine ⟨plI s x,by rw [List.getElem?_map,e2]; rfl,?_⟩
   have h:=hi x (List.mem_of_getElem? e2)
   unfold PInsA plI
   cases x.1.tgt with
   | none=>exact h
   | some l=>rfl
 len:=by rw [show s.unit.code=L.map (·.1) from e,List.length_map,List.length_map]
 hs:=rfl
theorem tgt_arg {cs:List CV} (h:InsA cs i v) (e:i.tgt=some l):v=.int l:=by cases i <;> cases e <;> exact h
theorem regK_at {K:Ob→Prop} {o:Ob} {post:List Ob} (h:K o):∀ {pre:List Ob},regK (pre++o :: post) pre.length K
 | []=>h
 | _ :: pre=>regK_at h (pre:=pre)
theorem set_at {o x:Ob} {post:List Ob}:∀ {pre:List Ob},(pre++o :: post).set pre.length x=pre++x :: post
 | []=>rfl
 | y :: pre=>congrArg (y :: ·) (set_at (pre:=pre))
theorem fput_new {f:Nat} {v:NV}:∀ {ks:List Nat} {l:List NV} {K:List Nat→List NV→Prop},isIn f ks=false→Nat.beq ks.length l.length=true→K (ks++[f]) (l++[v])→fput f v K ks l
 | [],[],_,_,_,q=>q
 | k :: ks,u :: l,K,h,e,q=>by
  have h:(match Nat.beq f k with
   | true=>true
   | false=>isIn f ks)=false:=h
  unfold fput
  cases e2:Nat.beq k f
  ·refine fput_new ?_ e q
   cases e3:Nat.beq f k <;> rw [e3] at h
   ·exact h
   ·cases h
  ·rw [Nat.eq_of_beq_eq_true e2,Nat.beq_refl] at h; cases h
noncomputable def upd (f:Nat) (v:NV):List Nat→List NV→List NV
 | k :: ks,u :: l=>match Nat.beq k f with
  | true=>v :: l
  | false=>u :: upd f v ks l
 | _,l=>l
theorem fput_old {f:Nat} {v:NV}:∀ {ks:List Nat} {l:List NV} {K:List Nat→List NV→Prop},isIn f ks=true→Nat.beq ks.length l.length=true→K ks (upd f v ks l)→fput f v K ks l
 | k :: ks,u :: l,K,h,e,q=>by
  have h:(match Nat.beq f k with
   | true=>true
   | false=>isIn f ks)=true:=h
  unfold upd at q
  unfold fput
  cases e2:Nat.beq k f <;> rw [e2] at q
  ·refine fput_old ?_ e q
   cases e3:Nat.beq f k <;> rw [e3] at h
   ·exact h
   ·rw [Nat.eq_of_beq_eq_true e3,Nat.beq_refl] at e2; cases e2
  ·exact q
section
variable {T:Tx} {C:Cal} {pre post post':List Ob} {c f:Nat} {ks:List Nat} {l:List NV} {o e:E} {fr:Fr} {R:PoS} {r:S}
theorem sa_one (v:NV) (he:∀ Q:Po,Q v ⟨pre++.I c ks l :: post',D⟩→wE T C e fr Q ⟨pre++.I c ks l :: post,D⟩) (ho:∀ (Q:Po) σ,Q (.ins pre.length) σ→wE T C o fr Q σ) (ok:fOk c f=true)
  (hk:isIn f ks=false) (hn:Nat.beq ks.length l.length=true) (q:R .nxt fr ⟨pre++.I c (ks++[f]) (l++[v]) :: post',D⟩):wS T C (.sa o f e) fr R ⟨pre++.I c ks l :: post,D⟩:=by
 refine he _ (ho _ _ (regK_at ?_))
 show bK _ (fOk c f)
 rw [ok]
 refine fput_new hk hn ?_
 show R .nxt fr ⟨(pre++_ :: post').set pre.length _,D⟩
 rw [set_at]; exact q
theorem sa_step (v:NV) (he:∀ Q:Po,Q v ⟨pre++.I c ks l :: post',D⟩→wE T C e fr Q ⟨pre++.I c ks l :: post,D⟩) (ho:∀ (Q:Po) σ,Q (.ins pre.length) σ→wE T C o fr Q σ) (ok:fOk c f=true)
  (hk:isIn f ks=false) (hn:Nat.beq ks.length l.length=true) (q:wS T C r fr R ⟨pre++.I c (ks++[f]) (l++[v]) :: post',D⟩):wS T C (.sq (.sa o f e) r) fr R ⟨pre++.I c ks l :: post,D⟩:=
 sa_one v he ho ok hk hn q
section
variable {R0:List Ob} {x:Nat}
theorem sd_old (v:NV) (he:∀ Q:Po,Q v ⟨R0,dset D x (some (.I c ks l))⟩→wE T C e fr Q ⟨R0,dset D x (some (.I c ks l))⟩) (ho:∀ (Q:Po) σ,Q (.di x) σ→wE T C o fr Q σ) (ok:fOk c f=true)
  (hk:isIn f ks=true) (hn:Nat.beq ks.length l.length=true) (q:wS T C r fr R ⟨R0,dset D x (some (.I c ks (upd f v ks l)))⟩):wS T C (.sq (.sa o f e) r) fr R ⟨R0,dset D x (some (.I c ks l))⟩:=by
 refine he _ (ho _ _ (op_of dset_same ?_))
 show bK _ (fOk c f)
 rw [ok]
 refine fput_old hk hn ?_
 show wS T C r fr R ⟨R0,dset (dset D x _) x _⟩
 rw [dset_set]; exact q
theorem sd_A {K:NH→Prop} {v:NV} (ok:fOk c f=true) (hk:isIn f ks=false) (hn:Nat.beq ks.length l.length=true) (q:K ⟨R0,dset D x (some (.I c (ks++[f]) (l++[v])))⟩):setA ⟨R0,dset D x (some (.I c ks l))⟩ f v K (.di x):=by
 refine op_of dset_same ?_
 show bK _ (fOk c f)
 rw [ok]
 refine fput_new hk hn ?_
 show K ⟨R0,dset (dset D x _) x _⟩
 rw [dset_set]; exact q
theorem sd_step (v:NV) (he:∀ Q:Po,Q v ⟨R0,dset D x (some (.I c ks l))⟩→wE T C e fr Q ⟨R0,dset D x (some (.I c ks l))⟩) (ho:∀ (Q:Po) σ,Q (.di x) σ→wE T C o fr Q σ) (ok:fOk c f=true)
  (hk:isIn f ks=false) (hn:Nat.beq ks.length l.length=true) (q:wS T C r fr R ⟨R0,dset D x (some (.I c (ks++[f]) (l++[v])))⟩):wS T C (.sq (.sa o f e) r) fr R ⟨R0,dset D x (some (.I c ks l))⟩:=
 he _ (ho _ _ (sd_A ok hk hn q))
theorem sd_one (v:NV) (he:∀ Q:Po,Q v ⟨R0,dset D x (some (.I c ks l))⟩→wE T C e fr Q ⟨R0,dset D x (some (.I c ks l))⟩) (ho:∀ (Q:Po) σ,Q (.di x) σ→wE T C o fr Q σ) (ok:fOk c f=true)
  (hk:isIn f ks=false) (hn:Nat.beq ks.length l.length=true) (q:R .nxt fr ⟨R0,dset D x (some (.I c (ks++[f]) (l++[v])))⟩):wS T C (.sa o f e) fr R ⟨R0,dset D x (some (.I c ks l))⟩:=
 he _ (ho _ _ (sd_A ok hk hn q))
end
theorem upd_len {v:NV}:∀ {ks:List Nat} {l:List NV},(upd f v ks l).length=l.length
 | [],_=>rfl
 | _ :: _,[]=>rfl
 | k :: ks,u :: l=>by
  unfold upd
  cases Nat.beq k f
  ·exact congrArg (·+1) upd_len
  ·rfl
noncomputable def seqS (o:E):List (Nat × E × NV)→S→S
 | [],r=>r
 | a :: as,r=>.sq (.sa o a.1 a.2.1) (seqS o as r)
noncomputable def updL (ks:List Nat):List (Nat × E × NV)→List NV→List NV
 | [],l=>l
 | a :: as,l=>updL ks as (upd a.1 a.2.2 ks l)
noncomputable def okL (c:Nat) (ks:List Nat):List (Nat × E × NV)→Bool
 | []=>true
 | a :: as=>fOk c a.1&&(isIn a.1 ks&&okL c ks as)
theorem sd_list {R0:List Ob} {x:Nat} (ho:∀ (Q:Po) σ,Q (.di x) σ→wE T C o fr Q σ):∀ (as:List (Nat × E × NV)) (l:List NV),as.foldr (fun a P=>(∀ D (Q:Po),Q a.2.2 ⟨R0,D⟩→wE T C a.2.1 fr Q ⟨R0,D⟩)∧P) True→okL c ks as=true→ks.length=l.length →
  wS T C r fr R ⟨R0,dset D x (some (.I c ks (updL ks as l)))⟩→wS T C (seqS o as r) fr R ⟨R0,dset D x (some (.I c ks l))⟩
 | [],_,_,_,_,q=>q
 | a :: as,l,he,ok,hn,q=>by
  have ok:=Bool.and_eq_true_iff.mp ok
  have ok2:=Bool.and_eq_true_iff.mp ok.2
  exact sd_old a.2.2 (he.1 _) ho ok.1 ok2.1 (hn▸Nat.beq_refl _) (sd_list ho as _ he.2 ok2.2 (hn.trans upd_len.symm) q)
end
section
variable {R0:List Ob} {x:Nat}
theorem c_142 {a b:NV} (q:Q .none ⟨R0,dset D x (some (.I 145 [2,3,4,5,6,7,8,9,10,11,12,13,14,15,16] [a,b,.fl [],.fl [],.fl [],.fl [],.fl [],.int 0,.int 0,.fl [],.bool false,.bool false,.none,.none,.fl []]))⟩) :
  callN (txt scr) (k+1) 142 [.di x,a,b] Q ⟨R0,dset D x (some (.I 145 [] []))⟩:=by
 refine enter ?_
 refine sd_step a (fun _ h=>h) (fun _ _ h=>h) rfl rfl rfl ?_
 refine sd_step b (fun _ h=>h) (fun _ _ h=>h) rfl rfl rfl ?_
 refine sd_step (.fl []) (fun _ h=>h) (fun _ _ h=>h) rfl rfl rfl ?_
 refine sd_step (.fl []) (fun _ h=>h) (fun _ _ h=>h) rfl rfl rfl ?_
 refine sd_step (.fl []) (fun _ h=>h) (fun _ _ h=>h) rfl rfl rfl ?_
 refine sd_step (.fl []) (fun _ h=>h) (fun _ _ h=>h) rfl rfl rfl ?_
 refine sd_step (.fl []) (fun _ h=>h) (fun _ _ h=>h) rfl rfl rfl ?_
 refine sd_step (.int 0) (fun _ h=>h) (fun _ _ h=>h) rfl rfl rfl ?_
 refine sd_step (.int 0) (fun _ h=>h) (fun _ _ h=>h) rfl rfl rfl ?_
 refine sd_step (.fl []) (fun _ h=>h) (fun _ _ h=>h) rfl rfl rfl ?_
 refine sd_step (.bool false) (fun _ h=>h) (fun _ _ h=>h) rfl rfl rfl ?_
 refine sd_step (.bool false) (fun _ h=>h) (fun _ _ h=>h) rfl rfl rfl ?_
 refine sd_step .none (fun _ h=>h) (fun _ _ h=>h) rfl rfl rfl ?_
 refine sd_step .none (fun _ h=>h) (fun _ _ h=>h) rfl rfl rfl ?_
 exact sd_one (.fl []) (fun _ h=>h) (fun _ _ h=>h) rfl rfl rfl q
theorem c_304 {cs li cv hv:List NV} {ln:Int} (h4:∀ K,K (.I 307 [2,3,12,4,8,17,5,6,18,7,9,10,11,13,14,15,16] [.str 57,.fl [],.bool false,.lst 5,.lst 6,.int ln,.lst 7,.fl [],.lst 8,.lst 9,.int 0,.int 0,.fl [],.bool false,.none,.none,.fl []])→regK R0 4 K)
  (h6:∀ K,K (.L li)→regK R0 6 K) (h7:∀ K,K (.L cs)→regK R0 7 K)
  (hc:∀ (Q:Po) D,Q (.fl cv) ⟨R0,D⟩→callN (txt scr) (k+2) 290 [.ins 4] Q ⟨R0,D⟩) (hh:∀ (Q:Po) D,Q (.fl hv) ⟨R0,D⟩→callN (txt scr) (k+2) 297 [.ins 4] Q ⟨R0,D⟩)
  (q:Q (.fi 145 [2,3,4,5,6,7,8,9,10,11,12,13,14,15,16] [.str 57,.fl [],.fl cv,.fl cs,.fl [],.fl hv,.fl li,.int 0,.int 0,.fl [],.bool false,.bool false,.none,.none,.fl []]) ⟨R0,D⟩) :
  callN (txt scr) (k+3) 304 [.ins 4] Q ⟨R0,D⟩:=by
 refine enter (h4 _ (h4 _ fun x hx=>c_142 (k:=k+1) (a:=.str 57) (b:=.fl []) ?_))
 refine sd_old (.fl cv) ?_ (fun _ _ h=>h) rfl rfl rfl ?_
 ·exact fun Q h=>h4 _ (hc _ _ h)
 refine sd_old (.fl hv) ?_ (fun _ _ h=>h) rfl rfl rfl ?_
 ·exact fun Q h=>h4 _ (hh _ _ h)
 refine sd_list (T:=txt scr) (C:=callN (txt scr) (k+2)) (c:=145) (ks:=[2,3,4,5,6,7,8,9,10,11,12,13,14,15,16]) (fr:=[some (.ins 4),some (.di x)]) (D:=D) (R:=retK Q) (o:=.lo 1) (r:=.re (.fz 90 (.lo 1))) (fun _ _ h=>h) [(8,.bu (.list .f) (.ec (.ar (.lo 0) 8) .e0),.fl li),(5,.bu (.list .f) (.ec (.ar (.lo 0) 5) .e0),.fl cs),(6,.bu (.list .f) (.ec (.ar (.lo 0) 6) .e0),.fl []),(9,.ar (.lo 0) 9,.int 0),(10,.ar (.lo 0) 10,.int 0),(11,.ar (.lo 0) 11,.fl []),(12,.ar (.lo 0) 12,.bool false),(13,.ar (.lo 0) 13,.bool false),(14,.ar (.lo 0) 14,.none),(15,.ar (.lo 0) 15,.none),(16,.ar (.lo 0) 16,.fl [])] _
  ⟨fun _ _ h=>h4 _ (h6 _ h),fun _ _ h=>h4 _ (h7 _ h),fun _ _ h=>h4 _ h,fun _ _ h=>h4 _ h,fun _ _ h=>h4 _ h,fun _ _ h=>h4 _ h,fun _ _ h=>h4 _ h,fun _ _ h=>h4 _ h,fun _ _ h=>h4 _ h,fun _ _ h=>h4 _ h,fun _ _ h=>h4 _ h,trivial⟩ rfl rfl ?_
 exact op_of dset_same (dset_b (P:=Q _) hx q)
end
noncomputable def RG (B:Bs) (wi:Wit) (s:CS) (ctl:List Ctl) (h:W) (kept:List (Nat × Nat)) (t:W):List Ob:=(G (pOf B wi s ctl) h kept t [] fun _=>none).reg
theorem c_unit (I:Inv s wi) (hl:s.code.length < lim) (hl2:s.hs.length < lim) (ht:∀ i∈s.code,∀ l,i.tgt=some l→s.has l) (ha:∀ x∈s.hs,s.has x.start∧s.has x.stop∧s.has x.goal)
  (q:∀ cv,UnR s.unit wi.cs cv (s.unit.hs.map (hpV s.unit))→Q (unN wi.cs cv (s.unit.hs.map (hpV s.unit)) (.fl []) (.fl wi.li) 0) (G (pOf B wi s ctl) h kept t [] D)) :
  callN (txt scr) (k+3) 304 [.ins 4] Q (G (pOf B wi s ctl) h kept t [] D):=by
 obtain ⟨L,e1,e2,e3⟩:=I.code.split
 exact c_304 (R0:=RG B wi s ctl h kept t) (D:=D) (ln:=wi.ln) (fun _ h=>h) (fun _ h=>h) (fun _ h=>h) (fun Q D q=>c_code e2 (by rw [e1,List.length_map] at hl; exact lt_cap hl) (fun x hx l e=>⟨tgt_arg (e3 x hx) e,ht x.1 (e1▸List.mem_map_of_mem hx) l e⟩) q) (fun Q D q=>c_hands (lt_cap hl2) ha q) (q _ (UnR_of e1 e3))
end
end
section
section
variable {scr:Nat→Option (List NV)} {D:Nat→Option Ob} {pre post:List Ob} {c f k:Nat} {ks:List Nat} {l:List NV} {Q:Po} {a b e v:NV} {K:NH→Prop}
theorem set_new (ok:fOk c f=true) (hk:isIn f ks=false) (hn:Nat.beq ks.length l.length=true) (q:K ⟨pre++.I c (ks++[f]) (l++[v]) :: post,D⟩):setA ⟨pre++.I c ks l :: post,D⟩ f v K (.ins pre.length):=by
 refine regK_at ?_
 show bK _ (fOk c f)
 rw [ok]
 refine fput_new hk hn ?_
 show K ⟨(pre++_ :: post).set pre.length _,D⟩
 rw [set_at]; exact q
section
variable {R0:List Ob} {x y:Nat}
theorem c_850 (q:Q .none ⟨R0,dset D x (some (.I 853 [26,17,30,22] [a,b,e,.none]))⟩):callN (txt scr) (k+1) 850 [.di x,a,b,e] Q ⟨R0,dset D x (some (.I 853 [] []))⟩:=by
 refine enter ?_
 refine sd_step a (fun _ h=>h) (fun _ _ h=>h) rfl rfl rfl ?_
 refine sd_step b (fun _ h=>h) (fun _ _ h=>h) rfl rfl rfl ?_
 refine sd_step e (fun _ h=>h) (fun _ _ h=>h) rfl rfl rfl ?_
 exact sd_one .none (fun _ h=>h) (fun _ _ h=>h) rfl rfl rfl q
theorem dset_ne {u:Option Ob} (h:y≠x):dset D y u x=D x:=if_neg (Ne.symm h)
theorem dset_comm {u w:Option Ob} (h:y≠x):dset (dset D y u) x w=dset (dset D x w) y u:=funext fun z=>by
 show (if z=x then w else if z=y then u else D z)=if z=y then u else if z=x then w else D z
 by_cases h1:z=x
 ·rw [if_pos h1,if_neg fun h2=>h (h2.symm.trans h1),if_pos h1]
 ·rw [if_neg h1,if_neg h1]
theorem dset_two {X Y:Option Ob} (h:y≠x) (hx:D x=none) (hy:D y=none):dset (dset (dset (dset D x X) y Y) x none) y none=D:=by
 rw [dset_comm h,dset_set,dset_set]
 exact funext fun z=>by
  show (if z=y then none else if z=x then none else D z)=D z
  by_cases h1:z=y
  ·rw [if_pos h1,h1,hy]
  ·by_cases h2:z=x
   ·rw [if_neg h1,if_pos h2,h2,hx]
   ·rw [if_neg h1,if_neg h2]
theorem sd_out {u:Option Ob} {K:NH→Prop} (h:y≠x) (ok:fOk c f=true) (hk:isIn f ks=false) (hn:Nat.beq ks.length l.length=true) (q:K ⟨R0,dset (dset D x (some (.I c (ks++[f]) (l++[v])))) y u⟩):setA ⟨R0,dset (dset D x (some (.I c ks l))) y u⟩ f v K (.di x):=by
 refine op_of ((dset_ne h).trans dset_same) ?_
 show bK _ (fOk c f)
 rw [ok]
 refine fput_new hk hn ?_
 show K ⟨R0,dset (dset (dset D x _) y u) x _⟩
 rw [dset_comm h,dset_set]; exact q
theorem c_view (q:Q viewN ⟨R0,D⟩):callN (txt scr) (k+2) 904 [.int 9] Q ⟨R0,D⟩:=by
 refine enter fun x hx=>c_850 (k:=k) (a:=.str 65) (b:=.int 0) (e:=.fl []) ?_
 refine sd_A (f:=3) (v:=.fl []) rfl rfl rfl ?_
 refine sd_A (f:=12) (v:=.bool false) rfl rfl rfl ?_
 refine sd_A (f:=9) (v:=.int 10) rfl rfl rfl ?_
 refine sd_A (f:=31) (v:=.str 64) rfl rfl rfl ?_
 refine sd_A (f:=32) (v:=.lam 0) rfl rfl rfl ?_
 refine sd_A (f:=33) (v:=.lam 1) rfl rfl rfl ?_
 refine fun y hy=>c_850 (k:=k) (a:=.str 63) (b:=.int 0) (e:=.fl []) ?_
 have hne:y≠x:=fun e=>by
  have hy:dset D x (some _) y=none:=hy
  rw [e,dset_same] at hy; cases hy
 have hy0:D y=none:=(dset_ne (Ne.symm hne)).symm.trans hy
 refine sd_out (f:=34) (v:=.di y) hne rfl rfl rfl ?_
 refine op_of ((dset_ne hne).trans dset_same) ?_
 refine sd_A (f:=35) (v:=.tup [.str 62,.int 9]) rfl rfl rfl ?_
 refine op_of ((dset_ne hne).trans dset_same) (op_of dset_same ?_)
 show Q viewN ⟨R0,dset (dset (dset (dset D x _) y _) x none) y none⟩
 exact (dset_two hne hx hy0).symm▸q
end
theorem push_at {X Y:Ob}:(pre++X :: post)++[Y]=pre++X :: (post++[Y]):=List.append_assoc _ _ _
section
variable {T:Tx} {C:Cal} {o:E} {fr:Fr} {R:PoS} {r:S}
theorem sl_step (n:Nat) (hp:post.length+1=n) (ho:∀ (Q:Po) σ,Q (.ins pre.length) σ→wE T C o fr Q σ) (ok:fOk c f=true) (hk:isIn f ks=false) (hn:Nat.beq ks.length l.length=true)
  (q:wS T C r fr R ⟨pre++.I c (ks++[f]) (l++[.lst (pre.length+n)]) :: (post++[.L []]),D⟩):wS T C (.sq (.sa o f (.ls .r .e0)) r) fr R ⟨pre++.I c ks l :: post,D⟩:=by
 subst hp
 refine sa_step (.lst (pre.length+(post.length+1))) (fun Q h=>?_) ho ok hk hn q
 show Q (.lst (pre++.I c ks l :: post).length) ⟨(pre++.I c ks l :: post)++[.L []],D⟩
 rw [push_at,List.length_append]; exact h
end
theorem c_205 (q:Q .none ⟨pre++[.I 307 [2,3,12,4,8,17,5,6,18,7,9,10,11,13,14,15,16] [a,b,e,.lst (pre.length+1),.lst (pre.length+2),.int 0,.lst (pre.length+3),.fl [],.lst (pre.length+4),.lst (pre.length+5),.int 0,.int 0,.fl [],.bool false,.none,.none,.fl []],.L [],.L [],.L [],.L [],.L []],D⟩) :
  callN (txt scr) (k+1) 205 [.ins pre.length,a,b,e] Q ⟨pre++[.I 307 [] []],D⟩:=by
 refine enter ?_
 refine sa_step a (fun _ h=>h) (fun _ _ h=>h) rfl rfl rfl ?_
 refine sa_step b (fun _ h=>h) (fun _ _ h=>h) rfl rfl rfl ?_
 refine sa_step e (fun _ h=>h) (fun _ _ h=>h) rfl rfl rfl ?_
 refine sl_step 1 rfl (fun _ _ h=>h)  rfl rfl rfl ?_
 refine sl_step 2 rfl (fun _ _ h=>h)  rfl rfl rfl ?_
 refine sa_step (.int 0) (fun _ h=>h) (fun _ _ h=>h) rfl rfl rfl ?_
 refine sl_step 3 rfl (fun _ _ h=>h)  rfl rfl rfl ?_
 refine sa_step (.fl []) (fun _ h=>h) (fun _ _ h=>h) rfl rfl rfl ?_
 show wS (txt scr) (callN (txt scr) k) (S.drop 8 b205) [some (.ins pre.length),some a,some b,some e] (retK Q) ⟨pre++.I 307 [2,3,12,4,8,17,5,6] [a,b,e,.lst (pre.length+1),.lst (pre.length+2),.int 0,.lst (pre.length+3),.fl []] :: [.L [],.L [],.L []],D⟩
 refine sl_step 4 rfl (fun _ _ h=>h)  rfl rfl rfl ?_
 refine sl_step 5 rfl (fun _ _ h=>h)  rfl rfl rfl ?_
 refine sa_step (.int 0) (fun _ h=>h) (fun _ _ h=>h) rfl rfl rfl ?_
 refine sa_step (.int 0) (fun _ h=>h) (fun _ _ h=>h) rfl rfl rfl ?_
 refine sa_step (.fl []) (fun _ h=>h) (fun _ _ h=>h) rfl rfl rfl ?_
 refine sa_step (.bool false) (fun _ h=>h) (fun _ _ h=>h) rfl rfl rfl ?_
 refine sa_step .none (fun _ h=>h) (fun _ _ h=>h) rfl rfl rfl ?_
 refine sa_step .none (fun _ h=>h) (fun _ _ h=>h) rfl rfl rfl ?_
 exact sa_one (.fl []) (fun _ h=>h) (fun _ _ h=>h) rfl rfl rfl q
theorem set_deep (ok:fOk c f=true) (hk:isIn f ks=false) (hn:Nat.beq ks.length l.length=true) (q:K ⟨pre++.I c (ks++[f]) (l++[v]) :: post,D⟩):setA ⟨pre++[.I c ks l]++post,D⟩ f v K (.ins pre.length):=by
 rw [List.append_assoc]
 exact set_new ok hk hn q
noncomputable def unitR (n:Nat) (a b e:NV):List Ob:=[.I 307 [2,3,12,4,8,17,5,6,18,7,9,10,11,13,14,15,16] [a,b,e,.lst (n+1),.lst (n+2),.int 0,.lst (n+3),.fl [],.lst (n+4),.lst (n+5),.int 0,.int 0,.fl [],.bool false,.none,.none,.fl []],.L [],.L [],.L [],.L [],.L []]
theorem c_332 (q:Q .none ⟨pre++.I 413 [19,20,21] [.ins (pre++[Ob.I 413 [] []]).length,.int 0,.lst (pre.length+7)] :: (unitR (pre++[Ob.I 413 [] []]).length a b e++[.L []]),D⟩) :
  callN (txt scr) (k+2) 332 [.ins pre.length,a,b,e] Q ⟨pre++[.I 413 [] []],D⟩:=by
 refine enter (c_205 (pre:=pre++[_]) ?_)
 refine set_deep (f:=19) (v:=.ins (pre++[Ob.I 413 [] []]).length) rfl rfl rfl ?_
 refine sa_step (.int 0) (fun _ h=>h) (fun _ _ h=>h) rfl rfl rfl ?_
 refine sa_one (.lst (pre.length+7)) (fun Q h=>?_) (fun _ _ h=>h) rfl rfl rfl q
 show Q (.lst (pre++_ :: unitR _ a b e).length) ⟨(pre++_ :: unitR _ a b e)++[.L []],D⟩
 rw [push_at,List.length_append]; exact h
noncomputable def mkR (pre:List Ob):List Ob:=
 let p3:=pre++[Ob.I 834 [22,23] [viewN,viewN]]
 .I 413 [19,20,21] [.ins (p3++[Ob.I 413 [] []]).length,.int 0,.lst (p3.length+7)] :: (unitR (p3++[Ob.I 413 [] []]).length (.str 57) (.fl []) (.bool false)++[.L []])
theorem c_433 (q:Q .none ⟨pre++.I 834 [22,23,4,24,9,25] [viewN,viewN,.ins (pre++[Ob.I 834 [22,23] [viewN,viewN]]).length,.lst (pre.length+9),.int 10,.none] :: (mkR pre++[.L []]),D⟩) :
  callN (txt scr) (k+3) 433 [.ins pre.length,viewN,.str 57] Q ⟨pre++[.I 834 [] []],D⟩:=by
 refine enter ?_
 refine sa_step viewN (fun _ h=>h) (fun _ _ h=>h) rfl rfl rfl ?_
 refine sa_step viewN (fun _ h=>h) (fun _ _ h=>h) rfl rfl rfl ?_
 refine c_332 (pre:=pre++[Ob.I 834 [22,23] [viewN,viewN]]) ?_
 refine set_deep (f:=4) (v:=.ins (pre++[Ob.I 834 [22,23] [viewN,viewN]]).length) rfl rfl rfl ?_
 show wS (txt scr) (callN (txt scr) (k+2)) (S.drop 3 b433) [some (.ins pre.length),some viewN,some (.str 57)] (retK Q) ⟨pre++.I 834 [22,23,4] [viewN,viewN,.ins (pre++[Ob.I 834 [22,23] [viewN,viewN]]).length] :: mkR pre,D⟩
 refine sa_step (.lst (pre.length+9)) (fun Q h=>?_) (fun _ _ h=>h) rfl rfl rfl ?_ (post':=mkR pre++[.L []])
 ·show Q (.lst (pre++_ :: mkR pre).length) ⟨(pre++_ :: mkR pre)++[.L []],D⟩
  rw [push_at,List.length_append]; exact h
 refine sa_step (.int 10) (fun _ h=>h) (fun _ _ h=>h) rfl rfl rfl ?_
 exact sa_one .none (fun _ h=>h) (fun _ _ h=>h) rfl rfl rfl q
theorem c_maker {B:Bs} (q:Q (.ins 2) (HS B ⟨[],[],[],0⟩ CS.init [])) :
  newK (txt scr) (callN (txt scr) (k+3)) 834 [viewN,.str 57] Q ⟨[B.x0,B.x1],B.D⟩:=
 c_433 (pre:=[B.x0,B.x1]) q
end
end
section
noncomputable abbrev GB (ds:List Int) (x:Int) (D:Nat→Option Ob):NH:=⟨[.L (ds.map .int),.L [.lst 0,.int x]],D⟩
noncomputable def okX (x:Int):Prop:=0≤x∧x < 2147483647
noncomputable def Dn (D:Nat→Option Ob) (Q:Po) (v:NV):Prop:=∀ ds x,okX x→Q v (GB ds x D)
section
variable {scr:Nat→Option (List NV)} {D:Nat→Option Ob} {pre:List Ob} {k n:Nat} {Q:Po} {ds:List Int} {x:Int} {kd:Nat} {l:List NV}
theorem c_nw (q:Q (nd kd l) ⟨pre,D⟩):newK (txt scr) (callN (txt scr) (k+1)) 853 [.str kd,.int 1,.fl l] (fun v σ=>frz 90 v Q σ) ⟨pre,D⟩:=
 fun x hx=>enter (op_of dset_same (op_of dset_same (op_of dset_same (op_of dset_same (op_of dset_same (q_d5 hx q))))))
theorem c_take (hn:0 < n) (hx:okX x) (q:∀ r,r < n→Dn D Q (.int (r:Nat))):callN (txt scr) (k+1) 864 [.lst 1,.int (n:Nat)] Q (GB ds x D):=by
 have hN:(0:Int) < n:=Int.natCast_pos.mpr hn
 have fin:∀ (i:Int) ds x,okX x→Q (.int (i % n)) (GB ds x D):=fun i ds x hx=>by
  have h1:=Int.emod_nonneg i (Int.ne_of_gt hN)
  have h2:=Int.emod_lt_of_pos i hN
  obtain ⟨r,hr⟩:=Int.eq_ofNat_of_zero_le h1
  rw [hr] at h2 ⊢
  exact q r (Int.ofNat_lt.mp h2) ds x hx
 cases ds with
 | cons d ds=>exact enter (if_t (decide_eq_true (Int.natCast_pos.mpr (Nat.succ_pos _))) ⟨rfl,hN,fin _ ds x hx⟩)
 | nil=>
  have h1:x.natAbs < 2 ^ 40:=by obtain ⟨y,rfl⟩:=Int.eq_ofNat_of_zero_le hx.1; exact Nat.lt_trans (Int.ofNat_lt.mp hx.2) (by decide)
  have h2:okX ((x * 48271+17) % 2147483647):=⟨Int.emod_nonneg _ (by decide),Int.emod_lt_of_pos _ (by decide)⟩
  exact enter ⟨h1,by decide,by decide,Nat.lt_succ_self 1,by decide,by decide,hN,fin _ [] _ h2⟩
theorem c_name {c:Bool} (hx:okX x) (q:∀ m,NX c m→Dn D Q (nmT m)):callN (txt scr) (k+2) 871 [.lst 1,.bool c] Q (GB ds x D):=by
 cases c
 ·refine enter (c_take (n:=3) (by decide) hx fun r hr ds x hx=>?_)
  match r,hr with
  | 0,_=>exact c_nw (q .t trivial ds x hx)
  | 1,_=>exact c_nw (q .u trivial ds x hx)
  | 2,_=>exact c_nw (q .e trivial ds x hx)
 ·refine enter (c_take (n:=4) (by decide) hx fun r hr ds x hx=>?_)
  match r,hr with
  | 0,_=>exact c_nw (q .t trivial ds x hx)
  | 1,_=>exact c_nw (q .u trivial ds x hx)
  | 2,_=>exact c_nw (q .e trivial ds x hx)
  | 3,_=>exact c_nw (q .x rfl ds x hx)
theorem nx {n:Nm} (h:NX false n):n≠.x:=fun e=>by rw [e] at h; cases h
theorem no {n:Nm} (h:NX false n):NO (some n):=by cases n <;> first | trivial | cases h
noncomputable abbrev wv (lo la:List NV) (cx:Bool):NV:=.tup [.fl lo,.fl la,.bool cx]
structure In (d:Nat) (z:Int) (lo la:List Nat) (lv lw:List NV):Prop where
 z:z=d
 el:lv=lo.map .str
 ea:lw=la.map .str
 h1:lo.length+d≤3
 h2:la.length+d≤3
noncomputable def LineC (scr:Nat→Option (List NV)) (m d:Nat):Prop:=∀ f D ds x z lo la lv lw cx Q,m≤f→okX x→In d z lo la lv lw→(∀ t,Wf t false d lo la cx→Dn D Q (layT t))→callN (txt scr) f 883 [.lst 1,.int z,wv lv lw cx] Q (GB ds x D)
theorem c_lines {m d f:Nat} {z:Int} {lo la:List Nat} {lv lw:List NV} {cx:Bool} (H:LineC scr m d) (hf:m+2≤f) (hx:okX x) (I:In d z lo la lv lw) (q:∀ t,Ln t→Wf t true d lo la cx→Dn D Q (.fl (layP t))) :
  callN (txt scr) f 876 [.lst 1,.int z,wv lv lw cx] Q (GB ds x D):=by
 obtain ⟨k,rfl⟩:∃ k,f=k+2:=⟨f - 2,by lia⟩
 have hk:m≤k+1:=by lia
 refine enter (c_take (n:=2) (by decide) hx fun r hr ds x hx=>?_)
 match r,hr with
 | 0,_=>exact ⟨by decide,by decide,trivial,H (k+1) D ds x _ lo la _ _ cx _ hk hx I fun t ht ds x hx=>⟨cap0,trivial,q (.cons t .nil) ⟨Nat.le_refl _,Nat.le_succ _⟩ ⟨ht,trivial⟩ ds x hx⟩⟩
 | 1,_=>exact ⟨by decide,by decide,trivial,H (k+1) D ds x _ lo la _ _ cx _ hk hx I fun t ht ds x hx=>⟨cap0,trivial,H (k+1) D ds x _ lo la _ _ cx _ hk hx I fun u hu ds x hx=>⟨cap1,trivial,q (.cons t (.cons u .nil)) ⟨Nat.le_succ _,Nat.le_refl _⟩ ⟨ht,hu,trivial⟩ ds x hx⟩⟩⟩
theorem In.down {d:Nat} {z:Int} {lo la:List Nat} {lv lw:List NV} (I:In (d+1) z lo la lv lw):In d (z - 1) lo la lv lw:=⟨by rw [I.z]; lia,I.el,I.ea,Nat.le_of_succ_le I.h1,Nat.le_of_succ_le I.h2⟩
theorem In.loop {d w:Nat} {z:Int} {lo la:List Nat} {lv lw:List NV} (I:In (d+1) z lo la lv lw):In d (z - 1) (lo++[w]) (la++[w]) (lv++[.str w]) (lw++[.str w]) where
 z:=I.down.z
 el:=by rw [I.el,List.map_append]; rfl
 ea:=by rw [I.ea,List.map_append]; rfl
 h1:=by have:=I.h1; rw [List.length_append]; show lo.length+1+d≤3; lia
 h2:=by have:=I.h2; rw [List.length_append]; show la.length+1+d≤3; lia
theorem In.lab {d w:Nat} {z:Int} {lo la:List Nat} {lv lw:List NV} (I:In (d+1) z lo la lv lw):In d (z - 1) lo (la++[w]) lv (lw++[.str w]):=⟨I.down.z,I.el,I.loop.ea,I.down.h1,(I.loop (w:=w)).h2⟩
theorem cat_L {v:Nat} (h:Nat.ble v 2=true):cat 5 v=some (v+13):=by
 show (match Nat.ble v 2 with
  | true=>some (v+13)
  | false=>none)=_
 rw [h]
theorem cat_B {v:Nat} (h:Nat.ble v 2=true):cat 6 v=some (v+16):=by
 show (match Nat.ble v 2 with
  | true=>some (v+16)
  | false=>none)=_
 rw [h]
theorem In.cap {d:Nat} {z:Int} {lo la:List Nat} {lv lw:List NV} (I:In (d+1) z lo la lv lw):Nat.ble lw.length 2=true∧lv.length+1≤cap∧lw.length+1≤cap:=by
 have h1:=I.h1
 have h2:=I.h2
 have h3:3≤Mine.cap:=by decide
 rw [I.el,I.ea,List.length_map,List.length_map]
 exact ⟨Nat.ble_eq_true_of_le (by lia),by lia,by lia⟩
theorem lt_s {P:Nat→Prop} {n:Nat} (h0:P 0) (h:∀ r,r < n→P (r+1)):∀ r,r < n+1→P r:=fun r hr=>by
 rcases r with _ | r
 ·exact h0
 ·exact h r (Nat.lt_of_succ_lt_succ hr)
theorem lt_0 {P:Nat→Prop}:∀ r,r < 0→P r:=fun r hr=>absurd hr (Nat.not_lt_zero r)
theorem lt2 {P:Nat→Prop} (a:P 0) (b:P 1):∀ r,r < 2→P r:=lt_s a (lt_s b lt_0)
theorem lt3 {P:Nat→Prop} (a:P 0) (b:P 1) (c:P 2):∀ r,r < 3→P r:=lt_s a (lt_s b (lt_s c lt_0))
theorem lt14 {P:Nat→Prop} (a:P 0) (b:P 1) (c:P 2) (d:P 3) (e:P 4) (f:P 5) (g:P 6) (h:P 7) (i:P 8) (j:P 9) (k:P 10) (l:P 11) (m:P 12) (n:P 13):∀ r,r < 14→P r:=
 lt_s a (lt_s b (lt_s c (lt_s d (lt_s e (lt_s f (lt_s g (lt_s h (lt_s i (lt_s j (lt_s k (lt_s l (lt_s m (lt_s n lt_0)))))))))))))
theorem c_loop {m d f form:Nat} {z:Int} {lo la:List Nat} {lv lw:List NV} {cx:Bool} (H:LineC scr m d) (hf:m+3≤f) (h4:form=4∨form=5∨form=6) (hx:okX x) (I:In (d+1) z lo la lv lw) (q:∀ t,Wf t false (d+1) lo la cx→Dn D Q (layT t)) :
  callN (txt scr) f 890 [.lst 1,.int z,wv lv lw cx,.int (form:Nat)] Q (GB ds x D):=by
 obtain ⟨k,rfl⟩:∃ k,f=k+3:=⟨f - 3,by lia⟩
 have hk:m≤k+2:=by lia
 refine enter ⟨I.cap.1,op_of (cat_L I.cap.1) ⟨I.cap.2.1,I.cap.2.2,H (k+2) D ds x _ _ _ _ _ cx _ hk hx I.loop fun t ht ds x hx=>c_name (k:=k) (c:=false) hx fun n hn ds x hx=>?_⟩⟩
 rcases h4 with rfl | rfl | rfl
 ·exact c_nw (c_nw (q (.wh _ n t) ⟨nx hn,ht⟩ ds x hx))
 ·exact c_take (n:=2) (by decide) hx (lt2 (fun ds x hx=>c_nw (c_nw (q (.dw _ t n) ⟨nx hn,ht⟩ ds x hx)))
   fun ds x hx=>c_name (k:=k) (c:=false) hx fun i hi ds x hx=>c_take (n:=2) (by decide) hx (lt2 (fun ds x hx=>c_name (k:=k) (c:=false) hx fun s hs ds x hx=>c_nw (c_nw (q (.fr _ none n s t) ⟨trivial,nx hn,nx hs,ht⟩ ds x hx)))
    fun ds x hx=>c_name (k:=k) (c:=false) hx fun s hs ds x hx=>c_nw (c_nw (q (.fr _ (some i) n s t) ⟨no hi,nx hn,nx hs,ht⟩ ds x hx))))
 ·exact c_nw (c_nw (c_take (n:=2) (by decide) hx (lt2 (fun ds x hx=>c_nw (c_nw (q (.fi _ false n t) ⟨nx hn,ht⟩ ds x hx))) fun ds x hx=>c_nw (c_nw (q (.fi _ true n t) ⟨nx hn,ht⟩ ds x hx)))))
theorem q_d2 {a:Nat} {u0 u1:Option Ob} {v:NV} {R:List Ob} (h:D a=none) (q:Q v ⟨R,D⟩):Q v ⟨R,dset (dset (dset D a u0) a u1) a none⟩:=by
 rw [dset_set,dset_back h]; exact q
theorem c_try {m d f:Nat} {z:Int} {lo la:List Nat} {lv lw:List NV} {cx:Bool} (H:LineC scr m d) (hf:m+5≤f) (hx:okX x) (I:In (d+1) z lo la lv lw) (q:∀ t,Wf t false (d+1) lo la cx→Dn D Q (layT t)) :
  callN (txt scr) f 897 [.lst 1,.int z,wv lv lw cx] Q (GB ds x D):=by
 obtain ⟨k,rfl⟩:∃ k,f=k+3:=⟨f - 3,by lia⟩
 have hk:m+2≤k+2:=by lia
 refine enter (c_take (n:=3) (by decide) hx (lt3 (fun ds x hx=>?_) (fun ds x hx=>?_) fun ds x hx=>?_))
 ·exact c_lines H hk hx I.down fun b lb wb ds x hx=>c_lines H hk hx I.down fun c lc wc ds x hx=>fun y hy=>c_850 (c_view (k:=k) (op_of dset_same (op_of dset_same (q_d2 hy (q (.try b true c false .nil) ⟨rfl,⟨lb,wb⟩,⟨lc,wc⟩,rfl⟩ ds x hx)))))
 ·exact c_lines H hk hx I.down fun b lb wb ds x hx=>c_lines H hk hx I.down fun l ll wl ds x hx=>fun y hy=>c_850 (c_view (k:=k) (op_of dset_same (op_of dset_same (q_d2 hy (q (.try b false .nil true l) ⟨rfl,⟨lb,wb⟩,rfl,ll,wl⟩ ds x hx)))))
 ·exact c_lines H hk hx I.down fun b lb wb ds x hx=>c_lines H hk hx I.down fun c lc wc ds x hx=>c_lines H hk hx I.down fun l ll wl ds x hx=>fun y hy=>c_850 (c_view (k:=k) (op_of dset_same (op_of dset_same (q_d2 hy (q (.try b true c true l) ⟨rfl,⟨lb,wb⟩,⟨lc,wc⟩,ll,wl⟩ ds x hx)))))
theorem c_line0:LineC scr 5 0:=by
 intro f D ds x z lo la lv lw cx Q hf hx I q
 obtain ⟨k,rfl⟩:∃ k,f=k+3:=⟨f - 3,by lia⟩
 obtain ⟨rfl,-,-,-,-⟩:=I
 exact enter (c_name (k:=k) (c:=cx) hx fun n hn ds x hx=>c_nw (q (.expr n) hn ds x hx))
theorem c_blk {m d:Nat} {z:Int} {lo la:List Nat} {lv lw:List NV} {cx:Bool} {r6 r7 r8 r9 r10 r11 r12 r13:Option NV} (H:LineC scr m d) (hk:m+2≤k+1) (hx:okX x) (I:In (d+1) z lo la lv lw) (q:∀ t,Wf t false (d+1) lo la cx→Dn D Q (layT t)) :
  wS (txt scr) (callN (txt scr) (k+1)) (S.drop 11 b883) [some (.lst 1),some (.int z),some (wv lv lw cx),some (.fl lv),some (.fl lw),some (.bool cx),r6,r7,r8,r9,r10,r11,r12,r13] (retK Q) (GB ds x D):=
 ⟨I.cap.1,op_of (cat_B I.cap.1) ⟨I.cap.2.2,c_lines H hk hx I.lab fun b lb wb ds x hx=>c_nw (c_nw (q (.blk _ b) ⟨lb,wb⟩ ds x hx))⟩⟩
theorem idx_end {K:NV→Prop} {w:Nat} {r:List Nat} (h:∀ b∈w :: r,K (.str b)):idxK K ((w :: r).map .str) (-1):=by
 have e:((w :: r).map NV.str).length - 1 < (w :: r).length:=by rw [List.length_map]; exact Nat.lt_succ_self _
 show nthK K ((w :: r).map .str) (((w :: r).map NV.str).length - 1)
 exact nth_map (List.getElem?_eq_getElem e) (h _ (List.getElem_mem e))
theorem q_d4 {a:Nat} {u1 u2 u3:Option Ob} {v:NV} {R:List Ob} (h:D a=none) (q:Q v ⟨R,D⟩):Q v ⟨R,dset (dset (dset (dset D a u1) a u2) a u3) a none⟩:=by
 rw [dset_set,dset_set,dset_back h]; exact q
theorem c_lineS {m d:Nat} (H:LineC scr m d):LineC scr (m+10) (d+1):=by
 intro f D ds x z lo la lv lw cx Q hf hx I q
 obtain ⟨k,rfl⟩:∃ k,f=k+7:=⟨f - 7,by lia⟩
 have hz:decide ((0:Int) < z)=true:=decide_eq_true (by rw [I.z]; exact Int.natCast_pos.mpr (Nat.succ_pos _))
 have hk:m+2≤k+6:=by lia
 have hk5:m+5≤k+6:=by lia
 have hk0:m≤k+6:=by lia
 have hk3:m+3≤k+6:=Nat.le_trans (Nat.add_le_add_left (by decide) m) hk5
 refine enter (if_t hz (c_take (n:=14) (by decide) hx (lt14 (fun ds x hx=>?_) (fun ds x hx=>?_) (fun ds x hx=>?_) (fun ds x hx=>?_) (fun ds x hx=>?_) (fun ds x hx=>?_) (fun ds x hx=>?_) (fun ds x hx=>?_) (fun ds x hx=>?_) (fun ds x hx=>?_) (fun ds x hx=>?_) (fun ds x hx=>?_) (fun ds x hx=>?_) fun ds x hx=>?_)))
 ·exact c_name (c:=cx) hx fun n hn ds x hx=>c_nw (q (.expr n) hn ds x hx)
 ·exact c_name (c:=cx) hx fun n hn ds x hx=>c_nw (q (.expr n) hn ds x hx)
 ·exact c_name (c:=cx) hx fun n hn ds x hx=>c_nw (q (.var n) hn ds x hx)
 ·exact H (k+6) D ds x _ lo la _ _ cx _ hk0 hx I.down fun b hb ds x hx=>c_take (n:=2) (by decide) hx (lt2 (fun ds x hx=>c_name (c:=false) hx fun n hn ds x hx=>H (k+6) D ds x _ lo la _ _ cx _ hk0 hx I.down fun a ha ds x hx=>c_nw (q (.if1 n a) ⟨nx hn,ha⟩ ds x hx))
   fun ds x hx=>c_name (c:=false) hx fun n hn ds x hx=>H (k+6) D ds x _ lo la _ _ cx _ hk0 hx I.down fun a ha ds x hx=>c_nw (q (.if2 n a b) ⟨nx hn,ha,hb⟩ ds x hx))
 ·exact c_loop (form:=4) H hk3 (.inl rfl) hx I q
 ·exact c_loop (form:=5) H hk3 (.inr (.inl rfl)) hx I q
 ·exact c_loop (form:=6) H hk3 (.inr (.inr rfl)) hx I q
 ·exact c_try H hk5 hx I q
 ·exact c_try H hk5 hx I q
 ·exact c_try H hk5 hx I q
 ·refine fun a ha=>c_take (n:=3) (by decide) hx (lt3 (fun ds x hx=>?_) (fun ds x hx=>?_) fun ds x hx=>?_)
  ·exact ⟨by decide,by decide,trivial,op_of dset_same (c_lines H hk hx I.down fun b1 l1 w1 ds x hx=>op_of dset_same ⟨cap0,trivial,c_name (c:=false) hx fun n2 h2 ds x hx=>op_of dset_same (c_lines H hk hx I.down fun b2 l2 w2 ds x hx=>op_of dset_same ⟨cap1,trivial,c_name (c:=false) hx fun n hn ds x hx=>op_of dset_same (c_nw (q_d4 ha (q (.sw n none b1 (some n2) b2) ⟨nx hn,trivial,no h2,(fun h=>nomatch h.2),⟨l1,w1⟩,l2,w2⟩ ds x hx)))⟩)⟩)⟩
  ·exact ⟨by decide,by decide,trivial,c_name (c:=false) hx fun n1 h1 ds x hx=>op_of dset_same (c_lines H hk hx I.down fun b1 l1 w1 ds x hx=>op_of dset_same ⟨cap0,trivial,op_of dset_same (c_lines H hk hx I.down fun b2 l2 w2 ds x hx=>op_of dset_same ⟨cap1,trivial,c_name (c:=false) hx fun n hn ds x hx=>op_of dset_same (c_nw (q_d4 ha (q (.sw n (some n1) b1 none b2) ⟨nx hn,no h1,trivial,(fun h=>nomatch h.1),⟨l1,w1⟩,l2,w2⟩ ds x hx)))⟩)⟩)⟩
  ·exact ⟨by decide,by decide,trivial,c_name (c:=false) hx fun n1 h1 ds x hx=>op_of dset_same (c_lines H hk hx I.down fun b1 l1 w1 ds x hx=>op_of dset_same ⟨cap0,trivial,c_name (c:=false) hx fun n2 h2 ds x hx=>op_of dset_same (c_lines H hk hx I.down fun b2 l2 w2 ds x hx=>op_of dset_same ⟨cap1,trivial,c_name (c:=false) hx fun n hn ds x hx=>op_of dset_same (c_nw (q_d4 ha (q (.sw n (some n1) b1 (some n2) b2) ⟨nx hn,no h1,no h2,(fun h=>nomatch h.1),⟨l1,w1⟩,l2,w2⟩ ds x hx)))⟩)⟩)⟩
 ·obtain rfl:=I.el
  obtain rfl:=I.ea
  rcases lo with _ | ⟨w,lo⟩
  ·exact c_blk H hk hx I q
  ·refine op_of (fl3 (ls:=w :: lo)) (c_take (n:=2) (by decide) hx (lt2 (fun ds x hx=>?_) fun ds x hx=>?_))
   ·refine idx_end ?_
    exact fun b hb=>c_take (n:=3) (by decide) hx (lt3 (fun ds x hx=>c_nw (q (.brk none) (List.cons_ne_nil _ _) ds x hx)) (fun ds x hx=>c_nw (q (.brk (some w)) (.inr (.head _)) ds x hx)) fun ds x hx=>c_nw (q (.brk (some b)) (.inr hb) ds x hx))
   ·refine idx_end ?_
    exact fun b hb=>c_take (n:=3) (by decide) hx (lt3 (fun ds x hx=>c_nw (q (.con none) (List.cons_ne_nil _ _) ds x hx)) (fun ds x hx=>c_nw (q (.con (some w)) (.head _) ds x hx)) fun ds x hx=>c_nw (q (.con (some b)) hb ds x hx))
 ·exact c_take (n:=2) (by decide) hx (lt2 (fun ds x hx=>c_name (c:=cx) hx fun n hn ds x hx=>c_take (n:=2) (by decide) hx (lt2 (fun ds x hx=>c_nw (q (.ret none) trivial ds x hx)) fun ds x hx=>c_nw (q (.ret (some n)) hn ds x hx)))
   fun ds x hx=>c_take (n:=3) (by decide) hx fun r hr ds x hx=>c_nw (c_nw (q (.thr r) (Nat.le_of_lt_succ hr) ds x hx)))
 ·obtain rfl:=I.el
  obtain rfl:=I.ea
  rcases la with _ | ⟨w,la⟩
  ·exact c_blk H hk hx I q
  ·refine op_of (fl3 (ls:=w :: la)) (c_take (n:=((w :: la).map NV.str).length) (Nat.succ_pos _) hx fun r hr ds x hx=>?_)
   have hr:r < (w :: la).length:=by rw [List.length_map] at hr; exact hr
   exact nth_map (List.getElem?_eq_getElem hr) (c_nw (q (.brk (some _)) (.inl (List.getElem_mem hr)) ds x hx))
end
end
section
theorem and_t {a b:Bool} (h1:a=true) (h2:b=true):(a&&b)=true:=by rw [h1,h2]; rfl
theorem ln_ok {t:Tr} (h:Ln t):Nat.ble t.len 1000=true:=Nat.ble_eq_true_of_le (Nat.le_trans h.2 (by decide))
noncomputable def OkH (t:Tr) (s:Bool) (d:Nat):Prop:=t.ok s=true∧t.h≤d
theorem okh1 {b:Tr} {t:Tr} {d:Nat} {s:Bool} (e:t.ok false=b.ok s) (e2:t.h=b.h+1) (h:OkH b s d):OkH t false (d+1):=⟨e.trans h.1,e2▸Nat.succ_le_succ h.2⟩
set_option tactic.hygienic true in
theorem wf_ok (t:Tr):∀ s d lo la cx,Wf t s d lo la cx→OkH t s d:=by
 induction t with
 | nil=>intro s d lo la cx h; cases s; exact h.elim; exact ⟨rfl,Nat.zero_le _⟩
 | cons a r ha hr=>
  intro s d lo la cx h
  cases s
  ·exact h.elim
  ·have h1:=ha _ _ _ _ _ h.1
   have h2:=hr _ _ _ _ _ h.2
   exact ⟨and_t h1.1 h2.1,Nat.max_le.mpr ⟨h1.2,h2.2⟩⟩
 | expr n=>intro s d lo la cx h; cases s; exact ⟨rfl,Nat.zero_le _⟩; exact h.elim
 | var n=>intro s d lo la cx h; cases s; exact ⟨rfl,Nat.zero_le _⟩; exact h.elim
 | brk n=>intro s d lo la cx h; cases s; exact ⟨rfl,Nat.zero_le _⟩; cases n <;> exact h.elim
 | con n=>intro s d lo la cx h; cases s; exact ⟨rfl,Nat.zero_le _⟩; cases n <;> exact h.elim
 | ret n=>intro s d lo la cx h; cases s; exact ⟨rfl,Nat.zero_le _⟩; exact h.elim
 | thr n=>
  intro s d lo la cx h
  cases s
  ·cases d
   ·exact h.elim
   ·exact ⟨Nat.ble_eq_true_of_le h,Nat.zero_le _⟩
  ·exact h.elim
 | if1 n a ha=>
  intro s d lo la cx h
  cases s <;> cases d
  case false.succ=>exact okh1 (b:=a) rfl rfl (ha _ _ _ _ _ h.2)
  all_goals exact h.elim
 | if2 n a b ha hb=>
  intro s d lo la cx h
  cases s <;> cases d
  case false.succ=>
   have h1:=ha _ _ _ _ _ h.2.1
   have h2:=hb _ _ _ _ _ h.2.2
   exact ⟨and_t h1.1 h2.1,Nat.succ_le_succ (Nat.max_le.mpr ⟨h1.2,h2.2⟩)⟩
  all_goals exact h.elim
 | wh w n b hb=>
  intro s d lo la cx h
  induction s using Bool.casesOn <;> cases d
  case false.succ=>exact okh1 (b:=b) rfl rfl (hb _ _ _ _ _ h.2)
  all_goals exact h.elim
 | dw w b n hb=>
  intro s d lo la cx h
  induction s using Bool.casesOn <;> induction d using Nat.casesOn
  case false.succ=>exact okh1 (b:=b) rfl rfl (hb _ _ _ _ _ h.2)
  all_goals exact h.elim
 | fr w i n z b hb=>
  intro s d lo la cx h
  induction s using Bool.casesOn <;> induction d using Nat.casesOn
  case false.succ=>exact okh1 (b:=b) rfl rfl (hb _ _ _ _ _ h.2.2.2)
  all_goals exact h.elim
 | fi w v n b hb=>
  intro s d lo la cx h
  induction s using Bool.casesOn <;> induction d using Nat.casesOn
  case false.succ=>exact okh1 (b:=b) rfl rfl (hb _ _ _ _ _ h.2)
  all_goals exact h.elim
 | blk w b hb=>
  intro s d lo la cx h
  induction s using Bool.casesOn <;> induction d using Nat.casesOn
  case false.succ=>exact okh1 (b:=b) rfl rfl (hb _ _ _ _ _ h.2)
  all_goals exact h.elim
 | sw n t1 a t2 b ha hb=>
  intro s d lo la cx h
  induction s using Bool.casesOn <;> induction d using Nat.casesOn
  case false.succ=>
   obtain ⟨_,_,_,_,⟨la,h1⟩,lb,h2⟩:=h
   have h1:=ha _ _ _ _ _ h1
   have h2:=hb _ _ _ _ _ h2
   exact ⟨and_t (and_t h1.1 h2.1) (and_t (ln_ok la) (ln_ok lb)),Nat.succ_le_succ (Nat.max_le.mpr ⟨h1.2,h2.2⟩)⟩
  all_goals exact h.elim
 | «try» b hc c hl l hb hc' hl'=>
  intro s d lo la cx h
  induction s using Bool.casesOn <;> induction d using Nat.casesOn
  case false.succ d=>
   obtain ⟨_,⟨_,h1⟩,h2,h3⟩:=h
   have h1:=hb _ _ _ _ _ h1
   have g2:OkH c true d:=by cases hc; exact h2▸⟨rfl,Nat.zero_le _⟩; exact hc' _ _ _ _ _ h2.2
   have g3:OkH l true d:=by cases hl; exact h3▸⟨rfl,Nat.zero_le _⟩; exact hl' _ _ _ _ _ h3.2
   exact ⟨and_t (and_t h1.1 g2.1) g3.1,Nat.succ_le_succ (Nat.max_le.mpr ⟨h1.2,Nat.max_le.mpr ⟨g2.2,g3.2⟩⟩)⟩
  all_goals exact h.elim
noncomputable def scrOf (ns:List Int) (g:Nat):Option (List NV):=match Nat.beq g 1004 with
 | true=>some (ns.map .int)
 | false=>none
noncomputable def GoodC (ts:Tr) (s:CS):Prop:=s.code.length < lim∧s.hs.length < lim∧(∀ i∈s.code,∀ l,i.tgt=some l→s.has l)∧(∀ x∈s.hs,s.has x.start∧s.has x.stop∧s.has x.goal) ∧
 ∀ ds:List Nat,ds.length≤12→(∀ x∈ds,x≤2)→∃ r w,exec ts ⟨[],ds,70⟩ (fun r' w'=>r'=r∧w'=w)∧s.unit.run (fun r' w'=>r'=r∧w'=w) 4000 ⟨0,[],⟨[],ds,70⟩,[]⟩
section
variable {scr:Nat→Option (List NV)} {D:Nat→Option Ob} {pre:List Ob} {k n:Nat} {Q:Po} {ds:List Int} {x:Int}
theorem gen3:LineC scr 35 3:=c_lineS (c_lineS (c_lineS c_line0))
theorem seed {ns:List Int} {chk:NH→Prop} {v3 v4 v5 v6 v7 v8:Option NV} {R:PoS} (hc:chk ⟨[],D⟩) (q:∀ m y,okX m→R .nxt [some (.gl 1004),some (.int m),y,v3,v4,v5,v6,v7,v8] ⟨[],D⟩) :
  forW (.loc 2) chk (fun fr Q σ=>wS (txt scr) (callN (txt scr) k) (.st 1 (.bn .mod (.bn .add (.bn .mul (.lo 1) (.li (.int 31))) (.lo 2)) (.li (.int 2147483647)))) fr Q σ) R (ns.map .int) [some (.gl 1004),some (.int 13),none,v3,v4,v5,v6,v7,v8] ⟨[],D⟩:=by
 refine for_inv (fun xs fr σ=>∃ r m y,xs=r.map .int∧okX m∧fr=[some (.gl 1004),some (.int m),y,v3,v4,v5,v6,v7,v8]∧σ=⟨[],D⟩) ?_ ?_ _ _ _ ⟨ns,13,none,rfl,⟨by decide,by decide⟩,rfl,rfl⟩
 ·rintro _ _ _ _ K ⟨r,m,y,e,hm,rfl,rfl⟩ hK
  induction r using List.casesOn with
  | nil=>cases e
  | cons x r=>
   cases e
   have h1:m.natAbs < 2 ^ 40:=by obtain ⟨y,rfl⟩:=Int.eq_ofNat_of_zero_le hm.1; exact Nat.lt_trans (Int.ofNat_lt.mp hm.2) (by decide)
   exact ⟨hc,h1,by decide,by decide,hK _ _ ⟨r,_,_,rfl,⟨Int.emod_nonneg _ (by decide),Int.emod_lt_of_pos _ (by decide)⟩,rfl,rfl⟩⟩
 ·rintro _ _ ⟨r,m,y,e,hm,rfl,rfl⟩
  induction r using List.casesOn with
  | nil=>exact ⟨hc,q _ _ hm⟩
  | cons _ _=>cases e
end
end
section
section
variable {scr:Nat→Option (List NV)} {B:Bs} {D:Nat→Option Ob} {pre:List Ob} {k n:Nat} {Q:Po} {ds:List Int} {x:Int} {ts:Tr}
theorem ups_len:∀ {n i:Nat},(ups i n).length=n
 | 0,_=>rfl
 | n+1,_=>congrArg (·+1) (ups_len (n:=n))
noncomputable abbrev fr9 (v1 v2 v3 v4 v5 v6 v7 v8 v9:Option NV):Fr:=[some (.gl 1004),v1,v2,v3,v4,v5,v6,v7,v8,v9]
theorem digs {v1 v2 v4 v5 v6 v7 v8:Option NV} {chk:NH→Prop} {R:Fr→List NV→NH→Prop} (hx:okX x) (hc:∀ σ,chk σ) (q:∀ (l:List Nat) fr ds x,l.length≤12→(∀ y∈l,y≤2)→okX x→R fr (l.map .str) (GB ds x D)) :
  loopC (.loc 9) chk (fun fr K σ=>wE (txt scr) (callN (txt scr) (k+1)) .e0 fr (fun v σ=>cndK (fun b=>K b σ) v) σ)
   (fun fr Q σ=>wE (txt scr) (callN (txt scr) (k+1)) (.bu .str (.ec (.ca (.gb 124 (.fn 864)) (.ec (.lo 3) (.ec (.li (.int 3)) .e0))) .e0)) fr Q σ) R (ups 0 12) (fr9 v1 v2 (some (.lst 1)) v4 v5 v6 v7 v8 none) [] (GB ds x D):=by
 refine comp_inv (fun xs acc fr σ=>∃ (l:List Nat) (ds:List Int) (x:Int) (y:Option NV),xs.length+l.length=12∧(∀ y∈l,y≤2)∧okX x∧acc=l.map .str∧fr=fr9 v1 v2 (some (.lst 1)) v4 v5 v6 v7 v8 y∧σ=GB ds x D) ?_ ?_ _ _ _ _ ⟨[],ds,x,none,ups_len,(fun _ h=>nomatch h),hx,rfl,rfl,rfl⟩
 ·rintro v xs _ _ _ K ⟨l,ds,x,y,hn,hl,hx,rfl,rfl,rfl⟩ hK
  have hn:xs.length+1+l.length=12:=hn
  refine ⟨hc _,c_take (k:=k) (n:=3) (by decide) hx fun r hr ds x hx=>⟨Nat.ble_eq_true_of_le (Nat.le_of_lt_succ hr),?_,?_⟩⟩
  ·rw [List.length_map]; exact Nat.lt_of_le_of_lt (show l.length≤12 by lia) (by decide)
  ·refine hK _ _ _ ⟨l++[r],ds,x,some v,by rw [List.length_append]; show xs.length+(l.length+1)=12; lia,?_,hx,by rw [List.map_append]; rfl,rfl,rfl⟩
   intro y hy
   rcases List.mem_append.mp hy with hy | hy
   ·exact hl y hy
   ·cases List.mem_singleton.mp hy; exact Nat.le_of_lt_succ hr
 ·rintro _ _ _ ⟨l,ds,x,y,hn,hl,hx,rfl,rfl,rfl⟩
  exact ⟨hc _,q l _ ds x (by show l.length≤12; have:0+l.length=12:=hn; lia) hl hx⟩
noncomputable def evP:Ev→PD
 | .get n=>.tup [.str 68,.str n]
 | .set n v=>.tup [.str 69,.str n,.str v]
theorem pds_app {f:NV→Option PD} {v:NV} {d:PD} (e2:f v=some d):∀ {l:List NV} {r:List PD},pds f l=some r→pds f (l++[v])=some (r++[d])
 | [],r,e=>by obtain rfl:=Option.some.inj e; show optC (f v) (some [])=_; rw [e2]; rfl
 | a :: l,r,e=>by
  have e:optC (f a) (pds f l)=some r:=e
  show optC (f a) (pds f (l++[v]))=_
  cases ea:f a with
  | none=>rw [ea] at e; cases e
  | some a'=>
   cases el:pds f l with
   | none=>rw [ea,el] at e; cases e
   | some l'=>rw [ea,el] at e; obtain rfl:=Option.some.inj e; rw [pds_app e2 el]; rfl
theorem pds_ev {σ:NH}:∀ {l:List Ev},∃ r,pds (pd σ 3) (evL l)=some r
 | []=>⟨[],rfl⟩
 | e :: l=>by
  obtain ⟨r,h⟩:=pds_ev (σ:=σ) (l:=l)
  exact ⟨r++[evP e],pds_app (by cases e <;> rfl) h⟩
mutual
theorem beq_self:∀ d:PD,PD.beq d d=true
 | .none=>rfl
 | .int i=>decide_eq_true rfl
 | .str n=>Nat.beq_refl n
 | .tup l=>beqs_self l
 | .fl l=>beqs_self l
theorem beqs_self:∀ l:List PD,PD.beqs l l=true
 | []=>rfl
 | d :: l=>by
  show (match PD.beq d d with
   | true=>PD.beqs l l
   | false=>false)=true
  rw [beq_self d]; exact beqs_self l
end
set_option tactic.hygienic true in
theorem eq_of {σ:NH} {v u:NV} {d:PD} {K:Bool→Prop} (hv:∀ b,v≠.bool b) (e1:pd σ 4 v=some d) (e2:pd σ 4 u=some d) (h:K true):eqK σ v u K:=by
 have:opK (fun d=>opK (fun e=>K (PD.beq d e)) (pd σ 4 u)) (pd σ 4 v):=op_of e1 (op_of e2 ((beq_self d).symm▸h))
 induction v using NV.casesOn
 case bool b=>exact absurd rfl (hv b)
 all_goals exact this
theorem pd_res {σ:NH} {r:Res}:∃ d,pd σ 4 (resV r)=some d:=by
 induction r using Res.casesOn with
 | norm=>exact ⟨_,rfl⟩
 | brk l=>induction l using Option.casesOn <;> exact ⟨_,rfl⟩
 | con l=>induction l using Option.casesOn <;> exact ⟨_,rfl⟩
 | ret v=>exact ⟨_,rfl⟩
 | thr v=>exact ⟨_,rfl⟩
theorem res_nb {r:Res} (b:Bool):resV r≠.bool b:=by induction r using Res.casesOn <;> exact fun e=>nomatch e
theorem pd_lst {σ:NH} {a:Nat} {l:List NV} {r:List PD} (e:σ.reg[a]?=some (.L l)) (h:pds (pd σ 3) l=some r):pd σ 4 (.lst a)=some (.fl r):=by
 show (match σ.reg[a]? with
  | some (.L l)=>(pds (pd σ 3) l).map PD.fl
  | _=>none)=_
 rw [e]
 show (pds (pd σ 3) l).map PD.fl=_
 rw [h]; rfl
end
end
section
section
variable {scr:Nat→Option (List NV)} {B:Bs} {D:Nat→Option Ob} {pre:List Ob} {k n:Nat} {Q:Po} {ds:List Int} {x:Int} {ts:Tr} {l:List Nat} {s:CS} {w:Wit}
theorem ne_of {T:Tx} {σ:NH} {v u:NV} {d:PD} (hv:∀ b,v≠.bool b) (e1:pd σ 4 v=some d) (e2:pd σ 4 u=some d) (h:Q (.bool false) σ):wCmp T .ne v u Q σ:=eq_of (K:=fun b=>Q (.bool (!b)) σ) hv e1 e2 h
theorem cmp_of {T:Tx} {σ:NH} {v u:NV} {d:PD} (hv:∀ b,v≠.bool b) (e1:pd σ 4 v=some d) (e2:pd σ 4 u=some d) (h:Q (.bool true) σ):wCmp T .eq v u Q σ:=eq_of (K:=fun b=>Q (.bool b) σ) hv e1 e2 h
theorem seq_nxt {W:Fr→PoS→NH→Prop} {R:PoS} {fr:Fr} {σ:NH} (h:W fr R σ):seqP W R .nxt fr σ:=h
theorem law_tail {p:P12} {w:W} {kept:List (Nat × Nat)} {vs:List NV} {v1 v2 v3 v4 v5 v6:Option NV} (q:∀ σ,Q (.bool true) σ) :
  wS (txt scr) (callN (txt scr) k) (S.drop 10 b1003) [some (.gl 1004),v1,v2,v3,v4,v5,v6,some (.dct 15),some (.dct 18)] (retK Q) (G p w kept w [.L vs] D):=by
 obtain ⟨de,he⟩:=pds_ev (σ:=G p w kept w [.L vs] D) (l:=w.seen)
 have h2:wCmp (txt scr) .eq (.lst 13) (.lst 17) (fun v σ=>retK Q (.ret v) [some (.gl 1004),v1,v2,v3,v4,v5,v6,some (.dct 15),some (.dct 18)] σ) (G p w kept w [.L vs] D):=cmp_of (fun _ e=>nomatch e) (pd_lst (a:=13) rfl pds3) (pd_lst (a:=17) rfl pds3) (q _)
 have h1:wCmp (txt scr) .eq (.lst 12) (.lst 16) (fun v σ=>ifT (wE (txt scr) (callN (txt scr) k) (.cp .eq (.sb (.lo 7) (.li (.str 66))) (.sb (.lo 8) (.li (.str 66)))) [some (.gl 1004),v1,v2,v3,v4,v5,v6,some (.dct 15),some (.dct 18)] (fun v σ=>retK Q (.ret v) [some (.gl 1004),v1,v2,v3,v4,v5,v6,some (.dct 15),some (.dct 18)] σ) σ) (retK Q (.ret v) [some (.gl 1004),v1,v2,v3,v4,v5,v6,some (.dct 15),some (.dct 18)] σ) v) (G p w kept w [.L vs] D):=cmp_of (fun _ e=>nomatch e) (pd_lst (a:=12) rfl he) (pd_lst (a:=16) rfl he) h2
 exact h1
theorem law_end {v1 v2 v3:Option NV} {ds:List Nat} (H:All (DoC scr 50) ts) (h:GoodC ts s) (hl:ds.length≤12) (hd:∀ x∈ds,x≤2) (I:Inv s w) (q:∀ σ,Q (.bool true) σ) :
  wS (txt scr) (callN (txt scr) (k+60)) (S.drop 7 b1003) [some (.gl 1004),v1,v2,v3,some (.fl (layP ts)),some (.fl (ds.map .str)),some (.ins 2),none,none] (retK Q) (HS B w s []):=by
 obtain ⟨r,wd,ex,rn⟩:=h.2.2.2.2 ds hl hd
 show wS (txt scr) (callN (txt scr) (k+60)) (S.drop 9 b1003) [some (.gl 1004),v1,v2,v3,some (.fl (layP ts)),some (.fl (ds.map .str)),some (.ins 2),some (.dct 15),some (.dct 18)] (retK Q) (G (pOf B w s []) ⟨[],ds,70⟩ [] ⟨[],ds,70⟩ [] B.D)
 refine c_unit (k:=k+57) I h.1 h.2.1 h.2.2.1 h.2.2.2.1 fun cv U=>?_
 refine c_run (k:=k+57) U rn fun r1 w1 kept vs D e1=>?_
 refine c_all (f:=k+58) H (by lia) ex fun r2 w2 e2=>?_
 obtain ⟨rfl,rfl⟩:=e1
 obtain ⟨rfl,rfl⟩:=e2
 obtain ⟨d,hd⟩:=pd_res (σ:=G (pOf B w s []) w2 kept w2 [.L vs] D) (r:=r2)
 refine ne_of res_nb hd hd ?_
 exact if_f rfl (seq_nxt (law_tail q))
theorem law_sts {v1 v2 v3:Option NV} {ds:List Nat} (H:All (DoC scr 50) ts) (H2:All (StC scr 50) ts) (h:comp ts [] CS.init (GoodC ts)) (hl:ds.length≤12) (hd:∀ x∈ds,x≤2) (q:∀ σ,Q (.bool true) σ) :
  wS (txt scr) (callN (txt scr) (k+60)) (S.drop 6 b1003) [some (.gl 1004),v1,v2,v3,some (.fl (layP ts)),some (.fl (ds.map .str)),some (.ins 2),none,none] (retK Q) (HS B ⟨[],[],[],0⟩ CS.init []):=by
 have key:Nx B [] (GoodC ts) (fun _ σ=>seqP (fun fr Q σ=>wS (txt scr) (callN (txt scr) (k+60)) (S.drop 7 b1003) fr Q σ) (retK Q) .nxt [some (.gl 1004),v1,v2,v3,some (.fl (layP ts)),some (.fl (ds.map .str)),some (.ins 2),none,none] σ) .none:=fun s w I h=>seq_nxt (law_end H h hl hd I q)
 exact c_sts (f:=k+58) H2 (by lia) h (I:=⟨.nil,rfl,Nat.le_refl _⟩) (by decide) key
theorem law_comp {v1 v2 v3:Option NV} {ds:List Nat} {o0 o1:Ob} (H:All (DoC scr 50) ts) (H2:All (StC scr 50) ts) (h:comp ts [] CS.init (GoodC ts)) (hl:ds.length≤12) (hd:∀ x∈ds,x≤2) (q:∀ σ,Q (.bool true) σ) :
  wS (txt scr) (callN (txt scr) (k+60)) (S.drop 5 b1003) [some (.gl 1004),v1,v2,v3,some (.fl (layP ts)),some (.fl (ds.map .str)),none,none,none] (retK Q) ⟨[o0,o1],D⟩:=by
 have key:=c_maker (scr:=scr) (B:=⟨o0,o1,D⟩) (k:=k+57) (Q:=fun v σ=>wS (txt scr) (callN (txt scr) (k+60)) (S.drop 6 b1003) [some (.gl 1004),v1,v2,v3,some (.fl (layP ts)),some (.fl (ds.map .str)),some v,none,none] (retK Q) σ) (law_sts H H2 h hl hd q)
 exact c_view (k:=k+58) (R0:=[o0,o1]) key
theorem all_ok {d:Nat} (h:Wf ts true d [] [] false) (hd:d≤3):All (DoC scr 50) ts∧All (StC scr 50) ts:=by
 have h:=wf_ok ts _ _ _ _ _ h
 have h1:=wdo (scr:=scr) ts true h.1
 have h2:=wst (scr:=scr) ts true h.1
 have e:10 * ts.h+10≤50:=by have:=h.2; lia
 exact ⟨All.monoD h1 e,All.mono h2 e⟩
theorem main2 {ns:List Int} (plain:∀ ts,Ln ts→Wf ts true 3 [] [] false→comp ts [] CS.init (GoodC ts)):callN (txt (scrOf ns)) 61 1003 [.gl 1004] (fun v _=>v=.bool true) ⟨[],fun _=>none⟩:=by
 have e24:(ns.map NV.int).take 24=(ns.take 24).map .int:=by rw [List.map_take]
 refine enter ⟨by decide,?_⟩
 show wS (txt (scrOf ns)) (callN (txt (scrOf ns)) 60) (.sq (.fo (.loc 2) .over (.ec (.li (.fl ((ns.map NV.int).take 24))) .e0) (.st 1 (.bn .mod (.bn .add (.bn .mul (.lo 1) (.li (.int 31))) (.lo 2)) (.li (.int 2147483647))))) (S.drop 2 b1003)) [some (.gl 1004),some (.int 13),none,none,none,none,none,none,none] (retK (fun v _=>v=.bool true)) ⟨[],fun _=>none⟩
 rw [e24]
 refine seed rfl fun m y hm=>⟨by decide,?_⟩
 show wS (txt (scrOf ns)) (callN (txt (scrOf ns)) 60) (.sq (.st 3 (.ls .r (.ec (.bu (.list .r) (.ec (.li (.fl ((ns.map NV.int).take 24))) .e0)) (.ec (.lo 1) .e0)))) (S.drop 3 b1003)) [some (.gl 1004),some (.int m),y,none,none,none,none,none,none] (retK (fun v _=>v=.bool true)) ⟨[],fun _=>none⟩
 rw [e24]
 refine c_lines (f:=60) gen3 (by decide) hm (lo:=[]) (la:=[]) ⟨rfl,rfl,rfl,by decide,by decide⟩ fun ts ln wf ds x hx=>?_
 refine ⟨by decide,by decide,digs (k:=59) hx (fun _=>trivial) fun l fr ds x h1 h2 hx=>?_⟩
 exact law_comp (k:=0) (all_ok wf (by decide)).1 (all_ok wf (by decide)).2 (plain ts ln wf) h1 h2 fun _=>rfl
end
end
section
noncomputable def CS.dp (s:CS) (l:Nat) (d:Int):Prop:=∃ b,s.labels[l]?=some b∧b.dep=d
noncomputable def CS.hit (s:CS) (l:Nat):Prop:=∃ b,s.labels[l]?=some b∧b.reached=true
noncomputable def CS.pos (s:CS) (l p:Nat):Prop:=∃ b,s.labels[l]?=some b∧b.pos=some p
noncomputable def CS.free (s:CS) (l:Nat) (d:Int):Prop:=∃ b,s.labels[l]?=some b∧b.dep=d∧b.pos=none
structure Ext (F:Un) (s:CS):Prop where
 code:∃ c,F.code=s.code++c
 pl:∀ l p,s.pos l p→F.pl l=p
 hs:∃ r,∀ p,findH F.pl p F.hs=findH F.pl p (s.hs++r)
structure Lt (p:Prop) (b b':Lb):Prop where
 dep:b'.dep=b.dep
 hit:b.reached=true→b'.reached=true
 at':∀ q,b.pos=some q→b'.pos=some q
 keep:p→b'.pos=b.pos
structure R0 (L:List Nat) (s s':CS):Prop where
 code:∃ c,s'.code=s.code++c
 lab:∀ l b,s.labels[l]?=some b→∃ b',s'.labels[l]?=some b'∧Lt (l ∉ L) b b'
 hs:∃ r,s'.hs=s.hs++r
 loc:s.locals≤s'.locals
section
variable {L L2 J:List Nat} {s s' a b:CS} {l p:Nat} {d:Int} {F:Un} {ctl:List Ctl} {m n:Nat} {i:Ins}
theorem Lt.refl {q:Prop} {x:Lb}:Lt q x x:=⟨rfl,id,fun _=>id,fun _=>rfl⟩
theorem R0.refl:R0 L s s:=⟨⟨[],(List.append_nil _).symm⟩,fun _ b e=>⟨b,e,.refl⟩,⟨[],(List.append_nil _).symm⟩,Nat.le_refl _⟩
theorem app_trans {α:Type} {x y z:List α} (h:∃ c,y=x++c) (h2:∃ c,z=y++c):∃ c,z=x++c:=by
 obtain ⟨c,rfl⟩:=h
 obtain ⟨c2,rfl⟩:=h2
 exact ⟨c++c2,List.append_assoc _ _ _⟩
theorem R0.trans (x:R0 L s a) (y:R0 L2 a b):R0 (L++L2) s b:=by
 refine ⟨app_trans x.code y.code,fun l c e=>?_,app_trans x.hs y.hs,Nat.le_trans x.loc y.loc⟩
 obtain ⟨c1,e1,h1⟩:=x.lab l c e
 obtain ⟨c2,e2,h2⟩:=y.lab l c1 e1
 exact ⟨c2,e2,h2.dep.trans h1.dep,fun q=>h2.hit (h1.hit q),fun p q=>h2.at' p (h1.at' p q),fun q=>(h2.keep fun z=>q (List.mem_append_right _ z)).trans (h1.keep fun z=>q (List.mem_append_left _ z))⟩
theorem R0.dp (x:R0 L s s') (h:s.dp l d):s'.dp l d:=by
 obtain ⟨b,e,rfl⟩:=h
 obtain ⟨b',e',h⟩:=x.lab l b e
 exact ⟨b',e',h.dep⟩
theorem R0.hit (x:R0 L s s') (h:s.hit l):s'.hit l:=by
 obtain ⟨b,e,q⟩:=h
 obtain ⟨b',e',h⟩:=x.lab l b e
 exact ⟨b',e',h.hit q⟩
theorem R0.pos (x:R0 L s s') (h:s.pos l p):s'.pos l p:=by
 obtain ⟨b,e,q⟩:=h
 obtain ⟨b',e',h⟩:=x.lab l b e
 exact ⟨b',e',h.at' _ q⟩
theorem R0.free (x:R0 L s s') (h:s.free l d) (n:l ∉ L):s'.free l d:=by
 obtain ⟨b,e,rfl,q⟩:=h
 obtain ⟨b',e',h⟩:=x.lab l b e
 exact ⟨b',e',h.dep,(h.keep n).trans q⟩
theorem R0.drop (x:R0 (l :: L) s s') (h:s.labels[l]?=none):R0 L s s':=by
 refine ⟨x.code,fun k b e=>?_,x.hs,x.loc⟩
 obtain ⟨b',e',h'⟩:=x.lab k b e
 refine ⟨b',e',h'.dep,h'.hit,h'.at',fun n=>h'.keep fun q=>?_⟩
 rcases List.mem_cons.mp q with rfl | q
 ·rw [h] at e; cases e
 ·exact n q
theorem R0.un (x:R0 L s s') (h:s'.labels[l]?=none):s.labels[l]?=none:=by
 cases e:s.labels[l]? with
 | none=>rfl
 | some b=>obtain ⟨b',e',_⟩:=x.lab l b e; rw [h] at e'; cases e'
theorem R0.len (x:R0 L s s'):s.code.length≤s'.code.length:=by
 obtain ⟨c,e⟩:=x.code
 rw [e,List.length_append]; exact Nat.le_add_right _ _
theorem Ext.of (x:R0 L s s') (E:Ext F s'):Ext F s:=by
 refine ⟨app_trans x.code E.code,fun l p h=>E.pl l p (x.pos h),?_⟩
 obtain ⟨r,e⟩:=x.hs
 obtain ⟨r2,h⟩:=E.hs
 exact ⟨r++r2,fun p=>by rw [h,e,List.append_assoc]⟩
theorem free_dp (h:s.free l d):s.dp l d:=by obtain ⟨b,e,q,_⟩:=h; exact ⟨b,e,q⟩
theorem pos_has (h:s.pos l p):s.has l:=by obtain ⟨b,e,q⟩:=h; exact ⟨p,by rw [e]; exact q⟩
theorem has_pos (h:s.has l):∃ p,s.pos l p:=by
 obtain ⟨p,h⟩:=h
 cases e:s.labels[l]? with
 | none=>rw [e] at h; cases h
 | some b=>rw [e] at h; exact ⟨p,b,e,h⟩
theorem R0.has (x:R0 L s s') (h:s.has l):s'.has l:=by obtain ⟨p,h⟩:=has_pos h; exact pos_has (x.pos h)
noncomputable def Ctl.w (c:Ctl):Int:=match c.kind with
 | .keys=>1
 | .fin=>2
 | _=>0
noncomputable def wt:List Ctl→Int
 | []=>0
 | c :: r=>wt r+c.w
noncomputable def Ctl.jumps (c:Ctl) (d:Int):List (Nat × Int):=match c.kind with
 | .loop=>[(c.behind,d),(c.again,d)]
 | .keys=>[(c.behind,d+1),(c.again,d+1)]
 | .guarded=>[(c.behind,d+2)]
 | .fin=>[]
 | _=>[(c.behind,d)]
noncomputable def jms:List Ctl→List (Nat × Int)
 | []=>[]
 | c :: r=>c.jumps (wt r)++jms r
noncomputable def LabOk (J:List Nat) (s:CS) (x:Nat × Int):Prop:=s.dp x.1 x.2∧x.1∈J
noncomputable def CS.size (s:CS):Nat:=s.code.length+s.labels.length+s.hs.length
structure Pre (J:List Nat) (ctl:List Ctl) (m:Nat) (s:CS):Prop where
 room:s.size+m≤lim
 plc:∀ i∈s.code,∀ l,i.tgt=some l→s.has l∨l∈J
 hok:∀ F,Ext F s→∀ p,s.code.length≤p→findH F.pl p s.hs=none
 hpl:∀ h∈s.hs,s.has h.start∧s.has h.stop∧s.has h.goal
 ctl:∀ x∈jms ctl,LabOk J s x
 loc:10≤s.locals
theorem LabOk.to {x:Nat × Int} (h:LabOk J s x) (y:R0 L s s') (q:∀ l∈J,l∈L2):LabOk L2 s' x:=⟨y.dp h.1,q _ h.2⟩
theorem Pre.to {k:Nat} {J':List Nat} (P:Pre J ctl (m+k) s) (x:R0 L s s') (hs:s'.hs=s.hs) (hz:s'.size≤s.size+k) (hJ:∀ l∈J,l∈J') (ht:∀ i∈s'.code,i∈s.code∨∀ l,i.tgt=some l→l∈J'):Pre J' ctl m s' where
 room:=by
  refine Nat.le_trans (Nat.add_le_add_right hz m) ?_
  have:=P.room
  rw [Nat.add_assoc,Nat.add_comm k m]; exact this
 plc i hi l e:=by
  rcases ht i hi with h | h
  ·rcases P.plc i h l e with h | h
   ·exact .inl (x.has h)
   ·exact .inr (hJ _ h)
  ·exact .inr (h l e)
 hok F E p h:=by rw [hs]; exact P.hok F (E.of x) p (Nat.le_trans x.len h)
 hpl h hm:=by rw [hs] at hm; exact ⟨x.has (P.hpl h hm).1,x.has (P.hpl h hm).2.1,x.has (P.hpl h hm).2.2⟩
 ctl y hy:=(P.ctl y hy).to x hJ
 loc:=Nat.le_trans P.loc x.loc
theorem Pre.fin {ctl':List Ctl} {J':List Nat} {k:Nat} (P:Pre J' ctl' m s') (P0:Pre J ctl k s) (x:R0 L s s') (hJ:∀ l∈J',s'.has l∨l∈J):Pre J ctl m s' where
 room:=P.room
 plc i hi k e:=by
  rcases P.plc i hi k e with q | q
  ·exact .inl q
  ·exact hJ _ q
 hok:=P.hok
 hpl:=P.hpl
 ctl y hy:=(P0.ctl y hy).to x fun _=>id
 loc:=P.loc
theorem Pre.more {c:Ctl} (P:Pre J ctl m s) (h:∀ x∈c.jumps (wt ctl),LabOk J s x):Pre J (c :: ctl) m s:=
 ⟨P.room,P.plc,P.hok,P.hpl,fun x hx=>(List.mem_append.mp hx).elim (h x) (P.ctl x),P.loc⟩
theorem Pre.le {k:Nat} (P:Pre J ctl m s) (h:k≤m):Pre J ctl k s:=⟨Nat.le_trans (Nat.add_le_add_left h _) P.room,P.plc,P.hok,P.hpl,P.ctl,P.loc⟩
end
end
section
noncomputable def CDep (d:Int) (s:CS):Prop:=∀ d',s.depth=some d'→d'=d
section
variable {L L2 J:List Nat} {s s' a b:CS} {l p:Nat} {d:Int} {F:Un} {ctl:List Ctl} {m n:Nat} {i:Ins} {K:Kc} {K2:Nat→Kc}
theorem lb_set {x y:Lb} {o:Option Int} (e:s.labels[l]?=some x) (h:Lt (l ∉ L) x y):R0 L s ⟨s.code,s.labels.set l y,o,s.hs,s.locals⟩:=by
 refine ⟨⟨[],(List.append_nil _).symm⟩,fun k b q=>?_,⟨[],(List.append_nil _).symm⟩,Nat.le_refl _⟩
 show ∃ b',(s.labels.set l y)[k]?=some b'∧_
 rw [List.getElem?_set]
 by_cases h2:l=k
 ·subst h2
  rw [if_pos rfl,if_pos (List.getElem?_eq_some_iff.mp e).1]
  rw [e] at q; obtain rfl:=Option.some.inj q
  exact ⟨y,rfl,h⟩
 ·exact (if_neg h2).symm▸⟨b,q,.refl⟩
theorem get_set {x y:Lb} {o:Option Int} (e:s.labels[l]?=some x):(CS.mk s.code (s.labels.set l y) o s.hs s.locals).labels[l]?=some y:=by
 show (s.labels.set l y)[l]?=_
 rw [List.getElem?_set,if_pos rfl,if_pos (List.getElem?_eq_some_iff.mp e).1]
theorem size_set {y:Lb} {o:Option Int}:(CS.mk s.code (s.labels.set l y) o s.hs s.locals).size≤s.size+0:=by
 show s.code.length+(s.labels.set l y).length+s.hs.length≤_
 rw [List.length_set]; exact Nat.le_refl _
structure Nw (J:List Nat) (ctl:List Ctl) (m:Nat) (d:Int) (s:CS) (l:Nat) (s':CS):Prop where
 P:Pre (l :: J) ctl m s'
 x:R0 [] s s'
 fr:s'.free l d
 un:s.labels[l]?=none
 nh:¬ s'.hit l
 code:s'.code=s.code
 dep:s'.depth=s.depth
 hs:s'.hs=s.hs
theorem Nw.ne (N:Nw J ctl m d s l s') {k:Nat} {e:Int} (h:s.free k e):k≠l:=by
 rintro rfl
 obtain ⟨b,e,_⟩:=h
 rw [N.un] at e; cases e
theorem r_new (P:Pre J ctl (m+1) s) (k:∀ l s',Nw J ctl m d s l s'→K2 l s'):s.newLabel d K2:=by
 unfold CS.newLabel
 have un:s.labels[s.labels.length]?=none:=List.getElem?_eq_none (Nat.le_refl _)
 have x:R0 [] s ⟨s.code,s.labels++[⟨d,false,none⟩],s.depth,s.hs,s.locals⟩:=by
  refine ⟨⟨[],(List.append_nil _).symm⟩,fun k b q=>⟨b,?_,.refl⟩,⟨[],(List.append_nil _).symm⟩,Nat.le_refl _⟩
  exact (List.getElem?_append_left (List.getElem?_eq_some_iff.mp q).1).trans q
 refine ⟨?_,k _ _ ⟨P.to x rfl ?_ (fun l h=>.tail _ h) (fun i h=>.inl h),x,⟨_,List.getElem?_concat_length,rfl,rfl⟩,un,?_,rfl,rfl,rfl⟩⟩
 ·refine Nat.lt_of_lt_of_le (Nat.lt_succ_of_le ?_) P.room
  exact Nat.le_trans (Nat.le_trans (Nat.le_add_left _ _) (Nat.le_add_right _ _)) (Nat.le_add_right _ m)
 ·show s.code.length+(s.labels++[_]).length+s.hs.length≤s.code.length+s.labels.length+s.hs.length+1
  rw [List.length_append]; exact Nat.le_of_eq (Nat.add_right_comm _ 1 _)
 ·rintro ⟨b,e,h⟩
  cases List.getElem?_concat_length.symm.trans e; cases h
structure Mt (J:List Nat) (ctl:List Ctl) (m:Nat) (s:CS) (l:Nat) (s':CS):Prop where
 P:Pre J ctl m s'
 x:R0 [] s s'
 hit:s'.hit l
 code:s'.code=s.code
 dep:s'.depth=s.depth
 hs:s'.hs=s.hs
theorem r_meet (P:Pre J ctl m s) (h:s.dp l d) (k:∀ s',Mt J ctl m s l s'→K s'):s.meet l d K:=by
 unfold CS.meet
 obtain ⟨x,e,h⟩:=h
 rw [e]
 have y:R0 [] s ⟨s.code,s.labels.set l ⟨x.dep,true,x.pos⟩,s.depth,s.hs,s.locals⟩:=lb_set e ⟨rfl,fun _=>rfl,fun _=>id,fun _=>rfl⟩
 exact ⟨h,k _ ⟨P.to (k:=0) y rfl size_set (fun _=>id) fun _ h=>.inl h,y,⟨_,get_set e,rfl⟩,rfl,rfl,rfl⟩⟩
structure Sd (J:List Nat) (ctl:List Ctl) (m:Nat) (l:Nat) (d:Int) (s s':CS):Prop where
 P:Pre J ctl m s'
 x:R0 [l] s s'
 at':s'.pos l s.code.length
 code:s'.code=s.code
 op:s.hit l∨s.depth=some d→s'.depth=some d
 cd:CDep d s'
 hs:s'.hs=s.hs
theorem r_place (P:Pre J ctl m s) (h:s.free l d) (k:∀ s',Pre J ctl m s'→R0 [l] s s'→s'.pos l s.code.length→s'.code=s.code→(s.hit l→s'.depth=some d)→(¬ s.hit l→s'.depth=none)→s'.hs=s.hs→K s'):s.place l K:=by
 unfold CS.place
 obtain ⟨⟨dp,r,p⟩,e,h,hp⟩:=h
 subst h; subst hp
 rw [e]
 have y:∀ o,R0 [l] s ⟨s.code,s.labels.set l ⟨dp,r,some s.code.length⟩,o,s.hs,s.locals⟩:=fun o=>lb_set e ⟨rfl,id,fun _ h=>(nomatch h),fun h=>absurd (.head _) h⟩
 refine ⟨rfl,k _ (P.to (k:=0) (y _) rfl size_set (fun _=>id) fun _ h=>.inl h) (y _) ⟨_,get_set e,rfl⟩ rfl (fun ⟨b,e2,q⟩=>?_) ?_ rfl⟩
 ·rw [e] at e2; obtain rfl:=Option.some.inj e2; subst q; rfl
 ·intro h
  induction r using Bool.casesOn
  ·rfl
  ·exact absurd ⟨_,e,rfl⟩ h
theorem cd_hit {A:Prop} (h1:A→s.depth=some d) (h2:¬A→s.depth=none):CDep d s:=fun x e=>by
 by_cases h:A
 ·rw [h1 h] at e; obtain rfl:=Option.some.inj e; rfl
 ·rw [h2 h] at e; cases e
theorem r_stand (P:Pre J ctl m s) (h:s.free l d) (cd:CDep d s) (k:∀ s',Sd J ctl m l d s s'→K s'):s.stand l K:=by
 unfold CS.stand
 cases e:s.depth with
 | none=>exact r_place P h fun s' P' x a c o o2 hs=>k s' ⟨P',x,a,c,fun q=>q.elim o fun q=>(nomatch (e.symm.trans q)),cd_hit o o2,hs⟩
 | some d'=>
  obtain rfl:=cd d' e
  exact r_meet P (free_dp h) fun s1 M=>r_place M.P (M.x.free h (List.not_mem_nil)) fun s' P' x a c o o2 hs=>k s' ⟨P',M.x.trans x,M.code▸a,c.trans M.code,fun _=>o M.hit,cd_hit o o2,hs.trans M.hs⟩
theorem r_enter (P:Pre J ctl m s) (h:s.free l d) (cd:s.depth=none) (k:∀ s',Sd J ctl m l d s s'→s'.depth=some d→K s'):s.enter l d K:=by
 unfold CS.enter
 exact r_meet P (free_dp h) fun s1 M=>r_stand M.P (M.x.free h (List.not_mem_nil)) (fun d' q=>nomatch (cd.symm.trans (M.dep.symm.trans q))) fun s' S=>k s' ⟨S.P,M.x.trans S.x,M.code▸S.at',S.code.trans M.code,fun _=>S.op (.inl M.hit),S.cd,S.hs.trans M.hs⟩ (S.op (.inl M.hit))
structure Mk (J:List Nat) (ctl:List Ctl) (m:Nat) (s:CS) (l:Nat) (s':CS):Prop where
 P:Pre J ctl m s'
 x:R0 [] s s'
 at':s'.pos l s.code.length
 code:s'.code=s.code
 dep:s'.depth=s.depth
 hs:s'.hs=s.hs
theorem r_mark (P:Pre J ctl (m+1) s) (k:∀ l s',Mk J ctl m s l s'→K2 l s'):s.mark K2:=by
 unfold CS.mark
 refine r_new P fun l s1 N=>?_
 unfold CS.stand
 have fin:∀ {s2 s'},R0 [] s1 s2→s2.code=s.code→s2.hs=s.hs→Pre (l :: J) ctl m s'→R0 [l] s2 s'→s'.pos l s2.code.length→s'.code=s2.code→s'.depth=s.depth→s'.hs=s2.hs→K2 l s':=fun {s2 s'} x0 c0 h0 P' x a c e h=>by
  have y:R0 [] s s':=((N.x.trans x0).trans x).drop N.un
  exact k l s' ⟨P'.fin P y fun j hj=>(List.mem_cons.mp hj).elim (fun e=>.inl (e▸pos_has a)) .inr,y,c0▸a,c.trans c0,e,h.trans h0⟩
 cases e:s.depth with
 | none=>
  exact (N.dep.trans e).symm▸r_place N.P N.fr fun s' P' x a c o o2 hs=>fin .refl N.code N.hs P' x a c ((o2 N.nh).trans e.symm) hs
 | some d=>
  rw [N.dep.trans e]
  have fr:s1.free l d:=by have:=N.fr; rw [e] at this; exact this
  exact r_meet N.P (free_dp fr) fun s2 M=>r_place M.P (M.x.free fr (List.not_mem_nil)) fun s' P' x a c o o2 hs=>fin M.x (M.code.trans N.code) (M.hs.trans N.hs) P' x a c ((o M.hit).trans e.symm) hs
end
end
section
noncomputable def depAt:Int→List Ins→Option Int
 | d,[]=>some d
 | d,i :: r=>match i.last with
  | true=>none
  | false=>depAt (d+i.eff) r
noncomputable def Fits (J:List Nat) (s:CS):Int→List Ins→Prop
 | _,[]=>True
 | d,i :: r=>(∀ l,i.tgt=some l→LabOk J s (l,d+i.tdep))∧(r=[]∨i.last=false)∧Fits J s (d+i.eff) r
noncomputable def Hits (s:CS) (is:List Ins):Prop:=∀ i∈is,∀ l,i.tgt=some l→s.hit l
structure Em (J:List Nat) (ctl:List Ctl) (m:Nat) (d:Int) (is:List Ins) (s s':CS):Prop where
 P:Pre J ctl m s'
 x:R0 [] s s'
 op:s.depth=some d→s'.code=s.code++is∧s'.depth=depAt d is∧Hits s' is
 cl:s.depth=none→s'.code=s.code∧s'.depth=none
 hs:s'.hs=s.hs
noncomputable abbrev Kp:=List (Nat × Nat)
section
variable {L L2 J:List Nat} {s s' a b:CS} {l p g g':Nat} {d:Int} {F:Un} {ctl:List Ctl} {m n:Nat} {i:Ins} {is:List Ins} {K:Kc} {K2:Nat→Kc} {C:Kr} {st:List SV} {w:W} {kp:Kp} {f v:Nat} {nm:Nm}
theorem Fits.to (y:R0 L s s'):∀ {is:List Ins} {d:Int},Fits J s d is→Fits J s' d is
 | [],_,_=>trivial
 | _ :: _,_,h=>⟨fun l e=>(h.1 l e).to y fun _=>id,h.2.1,Fits.to y h.2.2⟩
theorem r_emit (P:Pre J ctl (m+1) s) (hd:s.depth=some d) (ht:∀ l,i.tgt=some l→l∈J∧s.hit l) (k:∀ s',Pre J ctl m s'→R0 [] s s'→s'.code=s.code++[i]→s'.depth=depI i d→s'.hs=s.hs→K s'):s.emit i K:=by
 unfold CS.emit
 rw [hd]
 have y:R0 [] s ⟨s.code++[i],s.labels,depI i d,s.hs,s.locals⟩:=⟨⟨[i],rfl⟩,fun _ b e=>⟨b,e,.refl⟩,⟨[],(List.append_nil _).symm⟩,Nat.le_refl _⟩
 refine ⟨?_,k _ (P.to y rfl ?_ (fun _=>id) fun j hj=>(List.mem_append.mp hj).imp id fun h=>?_) y rfl rfl rfl⟩
 ·refine Nat.lt_of_lt_of_le (Nat.lt_succ_of_le ?_) P.room
  exact Nat.le_trans (Nat.le_trans (Nat.le_add_right _ _) (Nat.le_add_right _ _)) (Nat.le_add_right _ m)
 ·show (s.code++[i]).length+s.labels.length+s.hs.length≤s.code.length+s.labels.length+s.hs.length+1
  rw [List.length_append]; exact Nat.le_of_eq (by rw [Nat.add_right_comm s.code.length,Nat.add_right_comm _ [i].length]; rfl)
 ·cases List.mem_singleton.mp h; exact fun l e=>(ht l e).1
theorem r_one (P:Pre J ctl (m+1) s) (hd:s.depth=some d) (ht:∀ l,i.tgt=some l→LabOk J s (l,d+i.tdep)) (k:∀ s',Pre J ctl m s'→R0 [] s s'→s'.code=s.code++[i]→s'.depth=depI i d→Hits s' [i]→s'.hs=s.hs→K s'):s.one i K:=by
 unfold CS.one
 cases e:i.tgt with
 | none=>exact r_emit P hd (fun l h=>nomatch (e.symm.trans h)) fun s' P' x c e1=>k s' P' x c e1 fun j hj l h=>by cases List.mem_singleton.mp hj; rw [e] at h; exact nomatch h
 | some l=>
  show s.jump i l K
  unfold CS.jump
  rw [hd]
  refine r_meet P (ht l e).1 fun s1 M=>r_emit M.P (M.dep.trans hd) (fun l' h=>?_) fun s' P' x c e1 h=>k s' P' (M.x.trans x) (M.code▸c) e1 (fun j hj l' h=>?_) (h.trans M.hs)
  ·rw [e] at h; obtain rfl:=Option.some.inj h; exact ⟨(ht l e).2,M.hit⟩
  ·cases List.mem_singleton.mp hj; rw [e] at h; obtain rfl:=Option.some.inj h; exact x.hit M.hit
theorem one_closed (hd:s.depth=none) (k:K s):s.one i K:=by
 unfold CS.one
 rcases i.tgt with _ | l
 ·unfold CS.emit; rw [hd]; exact k
 ·show s.jump i l K; unfold CS.jump; rw [hd]; exact k
theorem emits_closed (hd:s.depth=none) (k:K s):∀ {is:List Ins},CS.emits is s K
 | []=>k
 | _ :: _=>one_closed hd (emits_closed hd k)
theorem r_emits:∀ (is:List Ins) {s:CS} {d:Int},Pre J ctl (m+is.length) s→CDep d s→Fits J s d is→(∀ s',Em J ctl m d is s s'→K s')→CS.emits is s K
 | [],s,d,P,cd,f,k=>k s ⟨P,.refl,fun h=>⟨(List.append_nil _).symm,h,fun _ h=>(nomatch h)⟩,fun h=>⟨rfl,h⟩,rfl⟩
 | i :: r,s,d,P,cd,f,k=>by
  cases e:s.depth with
  | none=>exact emits_closed e (k s ⟨P.le (Nat.le_add_right _ _),.refl,fun h=>(nomatch (e.symm.trans h)),fun h=>⟨rfl,h⟩,rfl⟩)
  | some d'=>
   cases cd d' e
   refine r_one (P:Pre J ctl ((m+r.length)+1) s) e f.1 fun s1 P1 x1 c1 e1 h1 z1=>?_
   rcases f.2.1 with q | q
   ·subst q
    refine k s1 ⟨P1,x1,fun _=>⟨c1,e1.trans ?_,h1⟩,fun h=>(nomatch (e.symm.trans h)),z1⟩
    show _=match i.last with
     | true=>none
     | false=>some (d+i.eff)
    rfl
   ·have e1:s1.depth=some (d+i.eff):=by rw [e1]; unfold depI; rw [q]
    refine r_emits r P1 (fun x h=>by rw [e1] at h; obtain rfl:=Option.some.inj h; rfl) (f.2.2.to x1) fun s2 E=>k s2 ⟨E.P,x1.trans E.x,fun _=>⟨?_,?_,fun j hj l h=>?_⟩,fun h=>(nomatch (e.symm.trans h)),E.hs.trans z1⟩
    ·rw [(E.op e1).1,c1,List.append_assoc]; rfl
    ·rw [(E.op e1).2.1]
     show _=match i.last with
      | true=>none
      | false=>depAt (d+i.eff) r
     rw [q]
    ·rcases List.mem_cons.mp hj with rfl | hj
     ·exact E.x.hit (h1 j (.head _) l h)
     ·exact (E.op e1).2.2 j hj l h
noncomputable def Rn (F:Un) (C:Kr) (g:Nat) (m:MS):Prop:=∀ n,g+160 * m.w.left.length≤n→n+m.kept.length≤lim→F.run C n m
noncomputable def ThrN (F:Un) (C:Kr) (n p f:Nat) (st:List SV) (w:W) (kp:Kp):Prop:=match findH F.pl p F.hs with
 | none=>C (.thr f) w
 | some h=>0≤h.dep∧F.run C n (F.catch h f st w kp)
noncomputable def Thr (F:Un) (C:Kr) (g p f:Nat) (st:List SV) (w:W) (kp:Kp):Prop:=match findH F.pl p F.hs with
 | none=>C (.thr f) w
 | some h=>0≤h.dep∧Rn F C g (F.catch h f st w kp)
theorem Rn.le {m:MS} (h:Rn F C g m) (q:g≤g'):Rn F C g' m:=fun n hn=>h n (Nat.le_trans (Nat.add_le_add_right q _) hn)
theorem Thr.le (h:Thr F C g p f st w kp) (q:g≤g'):Thr F C g' p f st w kp:=by
 unfold Thr at h ⊢
 cases e:findH F.pl p F.hs with
 | none=>rw [e] at h; exact h
 | some x=>rw [e] at h; exact ⟨h.1,h.2.le q⟩
theorem Thr.toN (h:Thr F C g p f st w kp) (q:g+160 * w.left.length≤n) (q2:n+kp.length≤lim):ThrN F C n p f st w kp:=by
 unfold Thr at h
 unfold ThrN
 cases e:findH F.pl p F.hs with
 | none=>rw [e] at h; exact h
 | some x=>rw [e] at h; exact ⟨h.1,h.2 n q q2⟩
theorem run_at (c:F.code[p]?=some i) (h:istep F ⟨p,st,w,kp⟩ i (F.run C n) (fun v st w=>ThrN F C n p v st w kp) fun v w=>C (.ret v) w):F.run C (n+1) ⟨p,st,w,kp⟩:=by
 show (match F.code[p]? with
  | none=>_
  | some i=>istep F ⟨p,st,w,kp⟩ i (F.run C n) (fun v st w=>ThrN F C n p v st w kp) fun v w=>C (.ret v) w)
 rw [c]; exact h
theorem Rn.step (c:F.code[p]?=some i) (h:istep F ⟨p,st,w,kp⟩ i (Rn F C g) (fun v st w=>Thr F C g p v st w kp) fun v w=>C (.ret v) w):Rn F C (g+1) ⟨p,st,w,kp⟩:=by
 intro n hn hk
 rcases n with _ | n
 ·lia
 ·refine run_at c (istep_mono (fun m' h x=>h n ?_ ?_) (fun v st w' h x=>h.toN ?_ ?_) (fun _ _=>id) h)
  ·have h1:m'.w.left.length≤w.left.length:=x.w
   lia
  ·have h1:m'.kept.length≤kp.length+1:=x.kp
   lia
  ·have h1:w'.left.length≤w.left.length:=x.w
   lia
  ·lia
theorem Rn.set (c:F.code[p]?=some (.setloc l)) (hl:Nat.beq l 9=false) (h:Rn F C g ⟨p+1,.s v :: st,w,putN l v kp⟩):Rn F C (g+1) ⟨p,.s v :: st,w,kp⟩:=by
 intro n hn hk
 rcases n with _ | n
 ·lia
 ·refine run_at c ?_
  show match Nat.beq l 9 with
   | true=>_
   | false=>kp.length < lim∧F.run C n ⟨p+1,.s v :: st,w,putN l v kp⟩
  rw [hl]
  have h1:(putN l v kp).length≤kp.length+1:=put_len
  exact ⟨by lia,h n (by show g+160 * w.left.length≤n; lia) (by show n+(putN l v kp).length≤lim; lia)⟩
noncomputable def Tn (F:Un) (C:Kr) (N:Nat) (m:MS):Prop:=∀ n,N≤n→n+m.kept.length≤lim→F.run C n m
theorem Rn.load' (c:F.code[p]?=some (Mine.load nm)) (h:w.get nm (fun v w'=>w'.left.length≤w.left.length→(nm≠.x→v≠0→w'.left.length+1≤w.left.length)→Tn F C (g+160 * w.left.length) ⟨p+1,.s v :: st,w',kp⟩) fun f w'=>Thr F C g p f (.nn :: st) w' kp):Rn F C (g+1) ⟨p,st,w,kp⟩:=by
 intro n hn hk
 induction n using Nat.casesOn with
 | zero=>lia
 | succ n=>
  have key:w.get nm (fun v w'=>F.run C n ⟨p+1,.s v :: st,w',kp⟩) fun f w'=>ThrN F C n p f (.nn :: st) w' kp:=by
   refine get_mono (fun v w' h=>h.1 h.2.1 h.2.2 n (by lia) (by show n+kp.length≤lim; lia)) (fun f w' h=>h.1.toN ?_ (by lia)) (get_le h)
   have:=h.2
   lia
  induction nm using Nm.casesOn <;> exact run_at c key
theorem Rn.load (c:F.code[p]?=some (Mine.load nm)) (h:w.get nm (fun v w'=>Rn F C g ⟨p+1,.s v :: st,w',kp⟩) fun f w'=>Thr F C g p f (.nn :: st) w' kp):Rn F C (g+1) ⟨p,st,w,kp⟩:=
 .load' c (get_mono (fun v w' h q _ n hn=>h n (Nat.le_trans (Nat.add_le_add_left (Nat.mul_le_mul_left 160 q) g) hn)) (fun _ _=>id) h)
theorem Rn.test (c:F.code[p]?=some (Mine.load nm)) (hx:nm≠.x) {A B:Nat→W→Prop} (h:w.get nm (fun v w'=>nz v (A v w') (B v w')) fun f w'=>Thr F C g p f (.nn :: st) w' kp)
  (hA:∀ v w',A (v+1) w'→Rn F C (g+160) ⟨p+1,.s (v+1) :: st,w',kp⟩) (hB:∀ w',B 0 w'→Rn F C g ⟨p+1,.s 0 :: st,w',kp⟩):Rn F C (g+1) ⟨p,st,w,kp⟩:=by
 refine .load' c (get_mono (fun v w' h hw hd n hn=>?_) (fun _ _=>id) h)
 induction v using Nat.casesOn with
 | zero=>exact hB w' h n (Nat.le_trans (Nat.add_le_add_left (Nat.mul_le_mul_left 160 hw) g) hn)
 | succ v=>
  have h1:=hd hx (Nat.succ_ne_zero v)
  exact hA v w' h n (by show g+160+160 * w'.left.length≤n; lia)
noncomputable def At (F:Un) (p:Nat) (is:List Ins):Prop:=∀ j i,is[j]?=some i→F.code[p+j]?=some i
theorem at_app (e:s'.code=s.code++is) (E:Ext F s'):At F s.code.length is:=fun j i h=>by
 obtain ⟨c,e2⟩:=E.code
 have h1:=(List.getElem?_eq_some_iff.mp h).1
 rw [e2,e,List.append_assoc,List.getElem?_append_right (Nat.le_add_right _ _),Nat.add_sub_cancel_left,List.getElem?_append_left h1]
 exact h
theorem At.tail {i:Ins} (h:At F p (i :: is)):At F (p+1) is:=fun j x e=>by rw [Nat.add_assoc,Nat.add_comm 1 j]; exact h (j+1) x e
theorem At.head {i:Ins} (h:At F p (i :: is)):F.code[p]?=some i:=h 0 i rfl
end
end
section
noncomputable def Agr (n:Nat) (a b:Kp):Prop:=∀ k,k < n→lookN k b=lookN k a
noncomputable def Unc (F:Un) (s s':CS) (p:Nat):Prop:=s.code.length≤p∧p < s'.code.length∧findH F.pl p s'.hs=none
noncomputable abbrev Kg:=Res→W→Kp→Prop
noncomputable def ec:List Ctl→Nat
 | []=>2
 | _ :: r=>ec r+2
structure Cx (F:Un) (X:Kr) (ctl:List Ctl) (s s':CS) (st:List SV) (g:Nat) (Go:Kg):Prop where
 norm:∀ w kp d,s'.depth=some d→Go .norm w kp→Rn F X g ⟨s'.code.length,st,w,kp⟩
 brk:∀ l p w kp,exitC (Ctl.brkTo · l) Ctl.behind ctl (fun is=>At F p is∧Hits s' is)→Go (.brk l) w kp→Rn F X (g+ec ctl) ⟨p,st,w,kp⟩
 con:∀ l p w kp,exitC (Ctl.conTo · l) Ctl.again ctl (fun is=>At F p is∧Hits s' is)→Go (.con l) w kp→Rn F X (g+ec ctl) ⟨p,st,w,kp⟩
 ret:∀ k v p w kp,At F p (retCode k ctl)→Nat.beq k 9=false→k < s'.locals→lookN k kp=some v→Go (.ret v) w kp→Rn F X (g+ec ctl) ⟨p,st,w,kp⟩
 bare:∀ v w kp,isGd ctl=false→Go (.ret v) w kp→X (.ret v) w
 thr:∀ f p w kp e,Unc F s s' p→Go (.thr f) w kp→Thr F X g p f (e++st) w kp
noncomputable def Sim (a:Nat) (ex:Ex) (ctl:List Ctl) (s s':CS):Prop:=∀ F X g st Go,Ext F s'→(st.length:Int)=wt ctl→Cx F X ctl s s' st g Go →
 ∀ w kp,ex w (fun r w'=>∀ kp',Agr s.locals kp kp'→Go r w' kp')→Rn F X (g+a) ⟨s.code.length,st,w,kp⟩
noncomputable def Fn (s s':CS):Prop:=∀ F p,Ext F s'→p < s.code.length→findH F.pl p s.hs=none→findH F.pl p s'.hs=none
structure R1 (L:List Nat) (s s':CS):Prop where
 r:R0 L s s'
 fn:Fn s s'
structure Dd (J:List Nat) (ctl:List Ctl) (m a:Nat) (ex:Ex) (s s':CS):Prop where
 P:Pre J ctl m s'
 x:R1 [] s s'
 cd:CDep (wt ctl) s'
 sim:s.depth=some (wt ctl)→Sim a ex ctl s s'
noncomputable def CO (cmp:CS→Kc→Prop) (z a:Nat) (ex:Ex) (ctl:List Ctl):Prop:=∀ J m s K,Pre J ctl (m+z) s→CDep (wt ctl) s→(∀ s',Dd J ctl m a ex s s'→K s')→cmp s K
noncomputable def Ctl.takes (c:Ctl):Res→Bool
 | .norm=>true
 | .brk l=>c.brkTo l
 | .con l=>c.conTo l
 | _=>false
section
variable {L L2 J:List Nat} {s s' s1 s1':CS} {l p g g1 n m:Nat} {d:Int} {F:Un} {ctl:List Ctl} {c:Ctl} {i:Ins} {is:List Ins} {X:Kr} {st st1:List SV} {w:W} {kp:Kp} {Go Go1:Kg} {ex:Ex}
theorem Agr.refl:Agr n kp kp:=fun _ _=>rfl
theorem Agr.trans {a b c:Kp} {k:Nat} (h:Agr n a b) (h2:Agr k b c) (q:n≤k):Agr n a c:=fun j hj=>(h2 j (Nat.lt_of_lt_of_le hj q)).trans (h j hj)
theorem R1.of (x:R0 L s s') (h:s'.hs=s.hs):R1 L s s':=⟨x,fun F p _ _ e=>h▸e⟩
theorem R1.refl:R1 [] s s:=.of .refl rfl
theorem R1.trans {s2:CS} (x:R1 L s s1) (y:R1 L2 s1 s2):R1 (L++L2) s s2:=⟨x.r.trans y.r,fun F p E h e=>y.fn F p E (Nat.lt_of_lt_of_le h x.r.len) (x.fn F p (E.of y.r) h e)⟩
theorem R1.drop (x:R1 (l :: L) s s') (h:s.labels[l]?=none):R1 L s s':=⟨x.r.drop h,x.fn⟩
theorem Unc.wide (y:s.code.length≤s1.code.length) (z:R1 L s1' s') (E:Ext F s') (u:Unc F s1 s1' p):Unc F s s' p:=⟨Nat.le_trans y u.1,Nat.lt_of_lt_of_le u.2.1 z.r.len,z.fn F p E u.2.1 u.2.2⟩
theorem exit_mono {to:Ctl→Bool} {at':Ctl→Nat} {K K':List Ins→Prop} (h:∀ is,K is→K' is):∀ {ctl:List Ctl},exitC to at' ctl K→exitC to at' ctl K'
 | [],q=>q
 | c :: r,q=>by
  have q:match to c with
   | true=>c.kind.ok=true∧K [.jmp (at' c)]
   | false=>exitC to at' r fun is=>K (c.leave++is):=q
  show match to c with
   | true=>c.kind.ok=true∧K' [.jmp (at' c)]
   | false=>exitC to at' r fun is=>K' (c.leave++is)
  cases e:to c <;> rw [e] at q
  ·exact exit_mono (ctl:=r) (fun _=>h _) q
  ·exact ⟨q.1,h _ q.2⟩
theorem ec2:g1+1+1≤g1+ec (c :: ctl):=Nat.add_le_add_left (Nat.le_add_left 2 (ec ctl)) g1
theorem exit_some {to:Ctl→Bool} {at':Ctl→Nat}:∀ {ctl:List Ctl} {K:List Ins→Prop},exitC to at' ctl K→∃ is,K is
 | [],_,q=>q.elim
 | c :: r,K,q=>by
  have q:match to c with
   | true=>c.kind.ok=true∧K [.jmp (at' c)]
   | false=>exitC to at' r fun is=>K (c.leave++is):=q
  cases e:to c <;> rw [e] at q
  ·obtain ⟨is,h⟩:=exit_some q
   exact ⟨_,h⟩
  ·exact ⟨_,q.2⟩
theorem Hits.to (x:R0 L s s') (h:Hits s is):Hits s' is:=fun i hi l e=>x.hit (h i hi l e)
theorem Cx.sub (C:Cx F X ctl s s' st g Go) (y:s.code.length≤s1.code.length) (z:R1 L s1' s') (E:Ext F s') (hG:∀ r w kp,r≠.norm→Go1 r w kp→Go r w kp) (q:g≤g1)
  (norm:∀ w kp d,s1'.depth=some d→Go1 .norm w kp→Rn F X g1 ⟨s1'.code.length,st,w,kp⟩):Cx F X ctl s1 s1' st g1 Go1 where
 norm:=norm
 brk l p w kp h k:=(C.brk l p w kp (exit_mono (fun _ h=>⟨h.1,h.2.to z.r⟩) h) (hG _ _ _ (fun h=>nomatch h) k)).le (Nat.add_le_add_right q _)
 con l p w kp h k:=(C.con l p w kp (exit_mono (fun _ h=>⟨h.1,h.2.to z.r⟩) h) (hG _ _ _ (fun h=>nomatch h) k)).le (Nat.add_le_add_right q _)
 ret k v p w kp h h9 hk e o:=(C.ret k v p w kp h h9 (Nat.lt_of_lt_of_le hk z.r.loc) e (hG _ _ _ (fun h=>nomatch h) o)).le (Nat.add_le_add_right q _)
 bare v w kp h o:=C.bare v w kp h (hG _ _ _ (fun h=>nomatch h) o)
 thr f p w kp e u o:=(C.thr f p w kp e (u.wide y z E) (hG _ _ _ (fun h=>nomatch h) o)).le q
theorem At.left {a b:List Ins} (h:At F p (a++b)):At F p a:=fun j i e=>h j i ((List.getElem?_append_left (List.getElem?_eq_some_iff.mp e).1).trans e)
theorem At.right {a b:List Ins} (h:At F p (a++b)):At F (p+a.length) b:=fun j i e=>by
 rw [Nat.add_assoc]
 refine h _ i ?_
 rw [List.getElem?_append_right (Nat.le_add_right _ _),Nat.add_sub_cancel_left]; exact e
theorem Hits.right {a b:List Ins} (h:Hits s (a++b)):Hits s b:=fun i hi=>h i (List.mem_append_right _ hi)
theorem Cx.cons (C:Cx F X ctl s s' st g Go) (z:R0 L s1' s') (hn:s1'.locals≤n)
  (hb:∀ l w kp,c.brkTo l=true→s1'.hit c.behind→Go1 (.brk l) w kp→Rn F X (g1+1) ⟨F.pl c.behind,st1,w,kp⟩)
  (hc:∀ l w kp,c.conTo l=true→s1'.hit c.again→Go1 (.con l) w kp→Rn F X (g1+1) ⟨F.pl c.again,st1,w,kp⟩)
  (lv:∀ r p w kp,c.takes r=false→(∀ f,r≠.thr f)→At F p c.leave→Go1 r w kp→(∀ w' kp',Agr n kp kp'→Go r w' kp'→Rn F X (g+ec ctl) ⟨p+c.leave.length,st,w',kp'⟩)→Rn F X (g1+ec ctl+2) ⟨p,st1,w,kp⟩)
  (norm:∀ w kp d,s1'.depth=some d→Go1 .norm w kp→Rn F X g1 ⟨s1'.code.length,st1,w,kp⟩)
  (bare:∀ v w kp,isGd (c :: ctl)=false→Go1 (.ret v) w kp→X (.ret v) w)
  (thr:∀ f p w kp e,Unc F s1 s1' p→Go1 (.thr f) w kp→Thr F X g1 p f (e++st1) w kp):Cx F X (c :: ctl) s1 s1' st1 g1 Go1 where
 norm:=norm
 brk l p w kp h k:=by
  have h:match c.brkTo l with
   | true=>c.kind.ok=true∧At F p [.jmp c.behind]∧Hits s1' [.jmp c.behind]
   | false=>exitC (Ctl.brkTo · l) Ctl.behind ctl fun is=>At F p (c.leave++is)∧Hits s1' (c.leave++is):=h
  cases e:c.brkTo l <;> rw [e] at h
  ·have h1:At F p c.leave:=by
    obtain ⟨is,h⟩:=exit_some h
    exact h.1.left
   exact lv (.brk l) p w kp e (fun _ h=>nomatch h) h1 k fun w' kp' _ k=>C.brk l _ w' kp' (exit_mono (fun _ h=>⟨h.1.right,h.2.right.to z⟩) h) k
  ·exact (Rn.step h.2.1.head (hb l w kp e (h.2.2 _ (.head _) _ rfl) k)).le ec2
 con l p w kp h k:=by
  have h:match c.conTo l with
   | true=>c.kind.ok=true∧At F p [.jmp c.again]∧Hits s1' [.jmp c.again]
   | false=>exitC (Ctl.conTo · l) Ctl.again ctl fun is=>At F p (c.leave++is)∧Hits s1' (c.leave++is):=h
  cases e:c.conTo l <;> rw [e] at h
  ·have h1:At F p c.leave:=by
    obtain ⟨is,h⟩:=exit_some h
    exact h.1.left
   exact lv (.con l) p w kp e (fun _ h=>nomatch h) h1 k fun w' kp' _ k=>C.con l _ w' kp' (exit_mono (fun _ h=>⟨h.1.right,h.2.right.to z⟩) h) k
  ·exact (Rn.step h.2.1.head (hc l w kp e (h.2.2 _ (.head _) _ rfl) k)).le ec2
 ret k v p w kp h h9 hk e o:=lv (.ret v) p w kp rfl (fun _ h=>nomatch h) h.left o fun w' kp' a o=>C.ret k v _ w' kp' h.right h9 (Nat.lt_of_lt_of_le hk z.loc) ((a k (Nat.lt_of_lt_of_le hk hn)).trans e) o
 bare:=bare
 thr:=thr
end
end
section
noncomputable abbrev opC (t:Tr) (ctl:List Ctl):CS→Kc→Prop:=fun s K=>s.opn (comp t ctl) K
section
variable {L L2 J:List Nat} {s s' s1 s1':CS} {l p g g1 n m z z2 α β:Nat} {d:Int} {F:Un} {ctl:List Ctl} {c:Ctl} {i:Ins} {is:List Ins} {X:Kr} {st st1:List SV} {w:W} {kp kp':Kp} {Go Go1:Kg} {ex:Ex} {a b r t:Tr} {nm:Nm} {K:Kc}
theorem cd_eq {e:Int} (h:s.depth=some d) (q:d=e):CDep e s:=fun x h2=>by rw [h] at h2; obtain rfl:=Option.some.inj h2; exact q
theorem cd_some {e:Int} (cd:CDep e s) (h:s.depth=some d):s.depth=some e:=h.trans (congrArg some (cd d h))
theorem Pre.as (P:Pre J ctl (m+(z+z2)) s):Pre J ctl (m+z+z2) s:=P.le (Nat.le_of_eq (Nat.add_assoc m z z2))
theorem co_open (h:∀ J m s K,Pre J ctl (m+z) s→s.depth=some (wt ctl)→(∀ s',Dd J ctl m α (exec t) s s'→K s')→comp t ctl s K):CO (opC t ctl) z α (exec t) ctl:=fun J m s K P cd q=>by
 show s.opn (comp t ctl) K
 unfold CS.opn
 cases e:s.depth with
 | none=>exact q s ⟨P.le (Nat.le_add_right _ _),.refl,cd,fun h=>nomatch (e.symm.trans h)⟩
 | some d=>obtain rfl:=cd d e; exact h J m s K P e q
theorem dep_of {K:Int→Prop} (h:s.depth=some d) (k:K d):s.dep K:=by unfold CS.dep; rw [h]; exact k
theorem ex_agr (y:s.locals≤s1.locals) (h:exec t w fun r w'=>∀ kp',Agr s.locals kp kp'→Go r w' kp'):exec t w fun r w'=>∀ kp',Agr s1.locals kp kp'→Go r w' kp':=
 exec_mono t _ _ _ (fun r w' q kp' A=>q kp' fun k hk=>A k (Nat.lt_of_lt_of_le hk y)) h
theorem Agr.low (A:Agr n kp kp') (y:m≤n):Agr m kp kp':=fun k hk=>A k (Nat.lt_of_lt_of_le hk y)
theorem co_nil:CO (comp .nil ctl) 0 0 (exec .nil) ctl:=fun J m s K P cd q=>q s ⟨P,.refl,cd,fun hd F X g st Go E hst C w kp h=>C.norm w kp _ hd (h kp .refl)⟩
theorem co_cons (h1:CO (opC a ctl) z α (exec a) ctl) (h2:CO (comp r ctl) z2 β (exec r) ctl):CO (comp (.cons a r) ctl) (z2+z) (β+α) (exec (.cons a r)) ctl:=fun J m s K P cd q=>by
 refine h1 J (m+z2) s _ P.as cd fun s1 D1=>h2 J m s1 _ D1.P D1.cd fun s2 D2=>q s2 ⟨D2.P,D1.x.trans D2.x,D2.cd,fun hd F X g st Go E hst C w kp h=>?_⟩
 have E1:=E.of D2.x.r
 have key:=D1.sim hd F X (g+β) st (fun q w kp=>match q with
  | .norm=>exec r w fun r' w'=>∀ kp',Agr s1.locals kp kp'→Go r' w' kp'
  | q=>Go q w kp) E1 hst (C.sub (Nat.le_refl _) D2.x E (fun r w kp hr h=>by cases r; exact absurd rfl hr; all_goals exact h) (Nat.le_add_right _ _) fun w kp d hd1 h=>?_) w kp ?_
 ·exact key.le (Nat.le_of_eq (Nat.add_assoc _ _ _))
 ·have hd1:s1.depth=some (wt ctl):=hd1.trans (congrArg some (D1.cd d hd1))
  exact D2.sim hd1 F X g st Go E hst (C.sub D1.x.r.len R1.refl E (fun _ _ _ _=>id) (Nat.le_refl _) C.norm) w kp h
 ·refine exec_mono a _ _ _ (fun q w' h kp' A=>?_) h
  induction q using Res.casesOn
  case norm=>exact exec_mono r _ _ _ (fun r w' h kp2 A2=>h kp2 (A.trans A2 D1.x.r.loc)) h
  all_goals exact h kp' A
theorem load_tgt:(load nm).tgt=none:=by induction nm using Nm.casesOn <;> rfl
theorem load_last:(load nm).last=false:=by induction nm using Nm.casesOn <;> rfl
theorem load_eff:(load nm).eff=1:=by induction nm using Nm.casesOn <;> rfl
theorem dep_load:depAt d (load nm :: is)=depAt (d+1) is:=by induction nm using Nm.casesOn <;> rfl
theorem fits_load (h:Fits J s (d+1) is):Fits J s d (load nm :: is):=⟨fun l e=>(nomatch (load_tgt.symm.trans e)),.inr load_last,load_eff.symm▸h⟩
theorem fits_n (e:i.tgt=none) (hl:i.last=false) {d':Int} (hd:d+i.eff=d') (h:Fits J s d' is):Fits J s d (i :: is):=⟨fun l q=>(nomatch (e.symm.trans q)),.inr hl,hd▸h⟩
theorem fits_t {d2 d3:Int} (e:i.tgt=some l) (hl:i.last=false) (hd:d+i.eff=d2) (ht:d+i.tdep=d3) (h1:LabOk J s (l,d3)) (h:Fits J s d2 is):Fits J s d (i :: is):=⟨fun l' q=>by rw [e] at q; obtain rfl:=Option.some.inj q; exact ht▸h1,.inr hl,hd▸h⟩
theorem fits_jmp (h1:LabOk J s (l,d)):Fits J s d [.jmp l]:=⟨fun l' q=>by obtain rfl:=Option.some.inj q; show LabOk J s (l,d+0); rw [Int.add_zero]; exact h1,.inl rfl,trivial⟩
theorem add1:d+1+(-1)=d:=by lia
theorem fits_jf (h1:LabOk J s (l,d)):Fits J s d [load nm,.jf l]:=fits_load (fits_t rfl rfl add1 add1 h1 trivial)
theorem fits_jt (h1:LabOk J s (l,d)):Fits J s d [load nm,.jt l]:=fits_load (fits_t rfl rfl add1 add1 h1 trivial)
theorem dep_jf:depAt d [load nm,.jf l]=some d:=dep_load.trans (congrArg some add1)
theorem dep_jt:depAt d [load nm,.jt l]=some d:=dep_load.trans (congrArg some add1)
theorem Em.to (E:Em J ctl m d is s s') (h:depAt d is=some d) (hd:s.depth=some d):s'.depth=some d:=(E.op hd).2.1.trans h
theorem Em.cd (E:Em J ctl m d is s s') {e:Int} (h:∀ x,depAt d is=some x→x=e) (cd:CDep d s):CDep e s':=fun x q=>by
 cases e:s.depth with
 | none=>rw [(E.cl e).2] at q; cases q
 | some y=>obtain rfl:=cd y e; exact h x ((E.op e).2.1.symm.trans q)
theorem Em.at (E:Em J ctl m d is s s') (hd:s.depth=some d) (X:Ext F s'):At F s.code.length is:=at_app (E.op hd).1 X
theorem Em.len (E:Em J ctl m d is s s') (hd:s.depth=some d):s'.code.length=s.code.length+is.length:=by rw [(E.op hd).1,List.length_append]
theorem Em.hit (E:Em J ctl m d is s s') (hd:s.depth=some d) (h:i∈is) (e:i.tgt=some l):s'.hit l:=(E.op hd).2.2 i h l e
theorem Em.unc {k:Nat} (E:Em J ctl m d is s s') (P:Pre L2 ctl k s) (hd:s.depth=some d) (X:Ext F s') {j:Nat} (hj:j < is.length):Unc F s s' (s.code.length+j):=
 ⟨Nat.le_add_right _ _,by rw [E.len hd]; exact Nat.add_lt_add_left hj _,E.hs▸P.hok F (X.of E.x) _ (Nat.le_add_right _ _)⟩
theorem Sd.pl (S:Sd J ctl m l d s s') (E:Ext F s'):F.pl l=s'.code.length:=(E.pl l _ S.at').trans (by rw [S.code])
theorem Em.jf (E:Em J ctl m d [load nm,.jf l] s s') (hd:s.depth=some d) (Y:Ext F s') (hx:nm≠.x) {A B:Nat→W→Prop} (h:w.get nm (fun v w'=>nz v (A v w') (B v w')) fun f w'=>Thr F X g s.code.length f (.nn :: st) w' kp)
  (hA:∀ v w',A v w'→Rn F X (g+160) ⟨s'.code.length,st,w',kp⟩) (hB:∀ w',B 0 w'→Rn F X g ⟨F.pl l,st,w',kp⟩):Rn F X (g+2) ⟨s.code.length,st,w,kp⟩:=by
 have a:=E.at hd Y
 replace hA:=E.len hd▸hA
 refine .test (g:=g+1) (a 0 _ rfl) hx (get_mono (fun _ _=>id) (fun f w' h=>h.le (Nat.le_succ _)) h) (fun v w' h=>?_) fun w' h=>?_
 ·exact Rn.step (g:=g+160) (a 1 _ rfl) (hA _ w' h)
 ·exact Rn.step (a 1 _ rfl) (hB w' h)
theorem Em.jt (E:Em J ctl m d [load nm,.jt l] s s') (hd:s.depth=some d) (Y:Ext F s') (hx:nm≠.x) {A B:Nat→W→Prop} (h:w.get nm (fun v w'=>nz v (A v w') (B v w')) fun f w'=>Thr F X g s.code.length f (.nn :: st) w' kp)
  (hA:∀ v w',A v w'→Rn F X (g+160) ⟨F.pl l,st,w',kp⟩) (hB:∀ w',B 0 w'→Rn F X g ⟨s'.code.length,st,w',kp⟩):Rn F X (g+2) ⟨s.code.length,st,w,kp⟩:=by
 have a:=E.at hd Y
 replace hB:=E.len hd▸hB
 refine .test (g:=g+1) (a 0 _ rfl) hx (get_mono (fun _ _=>id) (fun f w' h=>h.le (Nat.le_succ _)) h) (fun v w' h=>?_) fun w' h=>?_
 ·exact Rn.step (g:=g+160) (a 1 _ rfl) (hA _ w' h)
 ·exact Rn.step (a 1 _ rfl) (hB w' h)
end
end
section
noncomputable def Ctl.wf (c:Ctl):Prop:=match c.kind with
 | .guarded=>c.labs=[]
 | .fin=>c.labs=[]
 | _=>True
section
variable {L L2 J:List Nat} {s s' s1 s1':CS} {l p g g1 n m z z2 α β:Nat} {d:Int} {F:Un} {ctl:List Ctl} {c:Ctl} {i:Ins} {is:List Ins} {X:Kr} {st st1:List SV} {w:W} {kp kp':Kp} {Go Go1:Kg} {ex:Ex} {a b r t:Tr} {nm:Nm} {K:Kc}
theorem k_expr:CO (opC (.expr nm) ctl) 2 2 (exec (.expr nm)) ctl:=co_open fun J m s K P hd q=>by
 have e:depAt (wt ctl) [load nm,.pop]=some (wt ctl):=dep_load.trans (congrArg some add1)
 refine r_emits [load nm,.pop] P (cd_eq hd rfl) (fits_load (fits_n rfl rfl add1 trivial)) fun s' E=>q s' ⟨E.P,.of E.x E.hs,cd_eq (E.to e hd) rfl,fun _ F X g st Go Y hst C w kp h=>?_⟩
 have at':=E.at hd Y
 refine .load (at' 0 _ rfl) (get_mono (fun v w' h=>.step (at' 1 _ rfl) ?_) (fun f w' h=>(C.thr f _ w' kp [.nn] (E.unc P hd Y (j:=0) (Nat.zero_lt_succ _)) (h kp .refl)).le (Nat.le_succ _)) h)
 have key:=C.norm w' kp _ (E.to e hd) (h kp .refl)
 replace key:=E.len hd▸key
 exact key
theorem k_var:CO (opC (.var nm) ctl) 3 3 (exec (.var nm)) ctl:=co_open fun J m s K P hd q=>by
 have e:depAt (wt ctl) [load nm,.setglob 60,.pop]=some (wt ctl):=dep_load.trans (congrArg some (by show wt ctl+1+0+-1=_; lia))
 refine r_emits [load nm,.setglob 60,.pop] P (cd_eq hd rfl) (fits_load (fits_n rfl rfl rfl (fits_n rfl rfl rfl trivial))) fun s' E=>q s' ⟨E.P,.of E.x E.hs,cd_eq (E.to e hd) rfl,fun _ F X g st Go Y hst C w kp h=>?_⟩
 have at':=E.at hd Y
 refine .load (at' 0 _ rfl) (get_mono (fun v w' h=>.step (at' 1 _ rfl) (set_mono (fun w' h=>.step (at' 2 _ rfl) ?_) h)) (fun f w' h=>(C.thr f _ w' kp [.nn] (E.unc P hd Y (j:=0) (Nat.zero_lt_succ _)) (h kp .refl)).le (Nat.le_add_right _ 2)) h)
 have key:=C.norm w' kp _ (E.to e hd) (h kp .refl)
 replace key:=E.len hd▸key
 exact key
theorem k_thr {j:Nat} (hj:j≤2):CO (opC (.thr j) ctl) 2 2 (exec (.thr j)) ctl:=co_open fun J m s K P hd q=>by
 refine r_emits [.const j,.thr] P (cd_eq hd rfl) (fits_n rfl rfl rfl ⟨fun _ h=>(nomatch h),.inl rfl,trivial⟩) fun s' E=>q s' ⟨E.P,.of E.x E.hs,E.cd (fun _ h=>nomatch h) (cd_eq hd rfl),fun _ F X g st Go Y hst C w kp h=>?_⟩
 have at':=E.at hd Y
 refine .step (at' 0 _ rfl) ⟨hj,.step (at' 1 _ rfl) ?_⟩
 exact C.thr j _ w kp [] (E.unc P hd Y (j:=1) (Nat.le_refl 2)) (h kp .refl)
theorem r_new2 {K:Nat→Nat→Kc} {d1 d2:Int} (P:Pre J ctl (m+2) s) (k:∀ l1 l2 s',Pre (l2 :: l1 :: J) ctl m s'→R1 [] s s'→s'.free l1 d1→s'.free l2 d2→l1≠l2→s.labels[l1]?=none→s.labels[l2]?=none→s'.code=s.code→s'.depth=s.depth→K l1 l2 s') :
  s.newLabel d1 fun l1 s=>s.newLabel d2 fun l2 s=>K l1 l2 s:=
 r_new P fun l1 s1 N1=>r_new N1.P fun l2 s2 N2=>k l1 l2 s2 N2.P ((R1.of N1.x N1.hs).trans (.of N2.x N2.hs)) (N2.x.free N1.fr List.not_mem_nil) N2.fr (N2.ne N1.fr) N1.un (N1.x.un N2.un) (N2.code.trans N1.code) (N2.dep.trans N1.dep)
theorem two_has {l1 l2:Nat} (h1:s.has l1) (h2:s.has l2):∀ l∈l2 :: l1 :: J,s.has l∨l∈J:=fun l hl=>by
 rcases List.mem_cons.mp hl with rfl | hl
 ·exact .inl h2
 ·rcases List.mem_cons.mp hl with rfl | hl
  ·exact .inl h1
  ·exact .inr hl
theorem ne_mem {l1 l2:Nat} (h:l1≠l2):l1 ∉ [l2]:=fun q=>h (List.mem_singleton.mp q)
theorem k_if1 (hx:nm≠.x) (H:CO (opC a ctl) z α (exec a) ctl):CO (opC (.if1 nm a) ctl) (z+4) (α+2) (exec (.if1 nm a)) ctl:=co_open fun J m s K P hd q=>dep_of hd <|
 r_new2 (P:Pre J ctl (m+z+2+2) s) fun no fi s2 P2 x2 f1 f2 ne u1 u2 c2 d2=>by
 have hd2:=d2.trans hd
 refine r_emits [load nm,.jf no] (P2:Pre _ ctl (m+z+2) s2) (cd_eq hd2 rfl) (fits_jf ⟨free_dp f1,.tail _ (.head _)⟩) fun s3 E3=>?_
 have hd3:=E3.to dep_jf hd2
 refine H _ m s3 _ E3.P (cd_eq hd3 rfl) fun s4 D4=>?_
 have x4:=(R1.of E3.x E3.hs).trans D4.x
 refine r_stand D4.P (x4.r.free f1 List.not_mem_nil) D4.cd fun s5 S5=>?_
 have x5:R1 [no] s4 s5:=.of S5.x S5.hs
 refine r_stand S5.P (S5.x.free (x4.r.free f2 List.not_mem_nil) (ne_mem ne.symm)) S5.cd fun s6 S6=>?_
 have x46:=x5.trans (.of S6.x S6.hs)
 have x6:R1 [] s s6:=((x2.trans (x4.trans x46)).drop u1).drop u2
 have len6:s6.code.length=s4.code.length:=by rw [S6.code,S5.code]
 refine q s6 ⟨S6.P.fin P x6.r (two_has (pos_has (S6.x.pos S5.at')) (pos_has S6.at')),x6,S6.cd,fun _ F X g st Go Y hst C w kp h=>?_⟩
 have Y5:=Y.of S6.x
 have Y4:=Y5.of S5.x
 have Y3:=Y4.of D4.x.r
 rw [← c2]
 refine E3.jf (g:=g+α) hd2 Y3 hx (get_mono (fun v w' h=>h) (fun f w' h=>(C.thr f _ w' kp [.nn] ((E3.unc P2 hd2 Y3 (j:=0) (Nat.zero_lt_succ _)).wide x2.r.len (D4.x.trans x46) Y) (h kp .refl)).le (Nat.le_add_right _ _)) h) (fun v w' h=>?_) fun w' h=>?_
 ·refine (D4.sim hd3 F X g st Go Y4 hst (C.sub (x2.r.trans E3.x).len x46 Y (fun _ _ _ _=>id) (Nat.le_refl _) fun w kp d hd4 h=>?_) w' kp (ex_agr (x2.r.trans E3.x).loc h)).le (Nat.le_add_right _ _)
  exact (len6)▸C.norm w kp _ (S6.op (.inr (S5.op (.inr (hd4.trans (congrArg some (D4.cd d hd4))))))) h
 ·rw [Y5.pl no _ S5.at',← len6]
  exact (C.norm w' kp _ (S6.op (.inr (S5.op (.inl (D4.x.r.hit (E3.hit hd2 (.tail _ (.head _)) rfl)))))) (h kp .refl)).le (Nat.le_add_right _ _)
end
end
section
section
variable {L L2 J:List Nat} {s s' s1 s1':CS} {l p g g1 n m z z2 α β:Nat} {d:Int} {F:Un} {ctl:List Ctl} {c:Ctl} {i:Ins} {is:List Ins} {X:Kr} {st st1:List SV} {w:W} {kp kp':Kp} {Go Go1:Kg} {ex:Ex} {a b r t:Tr} {nm:Nm} {K:Kc}
theorem k_if2 (hx:nm≠.x) (H:CO (opC a ctl) z α (exec a) ctl) (H2:CO (opC b ctl) z2 β (exec b) ctl):CO (opC (.if2 nm a b) ctl) (z2+1+z+4) (β+1+α+2) (exec (.if2 nm a b)) ctl:=co_open fun J m s K P hd q=>dep_of hd <|
 r_new2 (P:Pre J ctl (m+(z2+1+z)+2+2) s) fun no fi s2 P2 x2 f1 f2 ne u1 u2 c2 d2=>by
 have hd2:=d2.trans hd
 refine r_emits [load nm,.jf no] (P2:Pre _ ctl (m+(z2+1+z)+2) s2) (cd_eq hd2 rfl) (fits_jf ⟨free_dp f1,.tail _ (.head _)⟩) fun s3 E3=>?_
 have hd3:=E3.to dep_jf hd2
 refine H _ (m+z2+1) s3 _ E3.P.as (cd_eq hd3 rfl) fun s4 D4=>?_
 have x4:=(R1.of E3.x E3.hs).trans D4.x
 have g2:=x4.r.free f2 List.not_mem_nil
 refine r_emits [.jmp fi] D4.P D4.cd (fits_jmp ⟨free_dp g2,.head _⟩) fun s5 E5=>?_
 have x5:=x4.trans (.of E5.x E5.hs)
 have cd5:CDep (wt ctl) s5:=E5.cd (fun _ h=>nomatch h) D4.cd
 refine r_stand E5.P (x5.r.free f1 List.not_mem_nil) cd5 fun s6 S6=>?_
 refine H2 _ m s6 _ S6.P S6.cd fun s7 D7=>?_
 have x57:R1 [no] s5 s7:=(R1.of S6.x S6.hs).trans D7.x
 refine r_stand D7.P (x57.r.free (x5.r.free f2 List.not_mem_nil) (ne_mem ne.symm)) D7.cd fun s8 S8=>?_
 have x78:R1 [fi] s7 s8:=.of S8.x S8.hs
 have x48:=(R1.of E5.x E5.hs).trans (x57.trans x78)
 have x8:R1 [] s s8:=((x2.trans (x4.trans x48)).drop u1).drop u2
 refine q s8 ⟨S8.P.fin P x8.r (two_has ((D7.x.trans x78).r.has (pos_has S6.at')) (pos_has S8.at')),x8,S8.cd,fun _ F X g st Go Y hst C w kp h=>?_⟩
 have Y7:=Y.of S8.x
 have Y6:=Y7.of D7.x.r
 have Y5:=Y6.of S6.x
 have Y4:=Y5.of E5.x
 have Y3:=Y4.of D4.x.r
 rw [← c2]
 have y36:=D4.x.trans ((R1.of E5.x E5.hs).trans (.of S6.x S6.hs))
 have x23:=x2.r.trans E3.x
 refine E3.jf (g:=g+(β+1+α)) hd2 Y3 hx (get_mono (fun v w' h=>h) (fun f w' h=>(C.thr f _ w' kp [.nn] ((E3.unc P2 hd2 Y3 (j:=0) (Nat.zero_lt_succ _)).wide x2.r.len (D4.x.trans x48) Y) (h kp .refl)).le (Nat.le_add_right _ _)) h) (fun v w' h=>?_) fun w' h=>?_
 ·refine (D4.sim hd3 F X (g+1) st Go Y4 hst (C.sub x23.len x48 Y (fun _ _ _ _=>id) (Nat.le_succ g) fun w kp d hd4 h=>?_) w' kp (ex_agr x23.loc h)).le (by lia)
  have hd4:=cd_some D4.cd hd4
  refine .step (E5.at hd4 Y5 0 _ rfl) ?_
  show Rn F X g ⟨F.pl fi,st,w,kp⟩
  exact (S8.pl Y).symm▸C.norm w kp _ (S8.op (.inl (x57.r.hit (E5.hit hd4 (.head _) rfl)))) h
 ·rw [S6.pl Y6]
  refine (D7.sim (S6.op (.inl ((D4.x.r.trans E5.x).hit (E3.hit hd2 (.tail _ (.head _)) rfl)))) F X g st Go Y7 hst (C.sub (x23.trans y36.r).len x78 Y (fun _ _ _ _=>id) (Nat.le_refl _) fun w kp d hd7 h=>?_) w' kp (ex_agr (x23.trans y36.r).loc h)).le (by lia)
  have key:=C.norm w kp _ (S8.op (.inr (cd_some D7.cd hd7))) h
  replace key:=S8.code▸key
  exact key
theorem fits_leave (hw:c.wf) (h1:∀ x∈c.jumps d,LabOk J s x) (h:Fits J s d is):Fits J s (d+c.w) (c.leave++is):=by
 obtain ⟨k,ls,bh,ag⟩:=c
 cases k
 case keys=>exact fits_n rfl rfl add1 h
 case fin=>exact fits_n rfl rfl (by show d+2+-1=d+1; lia) (fits_n rfl rfl add1 h)
 case guarded=>exact fits_t rfl rfl (by show d+0+0=d; lia) (by show d+0+2=d+2; lia) (h1 _ (.head _)) h
 all_goals
  show Fits J s (d+0) is
  rw [Int.add_zero]; exact h
theorem dep_leave:depAt (d+c.w) (c.leave++is)=depAt d is:=by
 obtain ⟨k,ls,bh,ag⟩:=c
 cases k
 case keys=>exact congrArg (depAt · is) add1
 case fin=>exact congrArg (depAt · is) (by show d+2+-1+-1=d; lia)
 case guarded=>exact congrArg (depAt · is) (by show d+0+0=d; lia)
 all_goals exact congrArg (depAt · is) (Int.add_zero d)
theorem len_leave:(c.leave++is).length≤is.length+2:=by
 obtain ⟨k,ls,bh,ag⟩:=c
 cases k
 case keys=>exact Nat.le_succ _
 case fin=>exact Nat.le_refl _
 case guarded=>exact Nat.le_succ _
 all_goals exact Nat.le_add_right _ _
noncomputable def ToOk (to:Ctl→Bool) (at':Ctl→Nat):Prop:=∀ c d,to c=true→c.wf→c.kind.ok=true∧(at' c,d+c.w)∈c.jumps d
theorem exit_fits {to:Ctl→Bool} {at':Ctl→Nat} (ho:ToOk to at'):∀ {ctl:List Ctl},(∃ c,c∈ctl∧to c=true)→(∀ c∈ctl,c.wf)→(∀ x∈jms ctl,LabOk J s x)→∀ {K:List Ins→Prop},
  (∀ is,exitC to at' ctl (fun js=>js=is)→Fits J s (wt ctl) is→is.length≤ec ctl→depAt (wt ctl) is=none→K is)→exitC to at' ctl K
 | [],⟨_,h,_⟩,_,_,_,_=>nomatch h
 | c :: r,hc,hw,hl,K,k=>by
  show match to c with
   | true=>c.kind.ok=true∧K [.jmp (at' c)]
   | false=>exitC to at' r fun is=>K (c.leave++is)
  have k:∀ is,(match to c with
   | true=>c.kind.ok=true∧[.jmp (at' c)]=is
   | false=>exitC to at' r fun js=>c.leave++js=is)→Fits J s (wt r+c.w) is→is.length≤ec r+2→depAt (wt r+c.w) is=none→K is:=k
  have w1:=hw c (.head _)
  cases e:to c
  ·replace k:=e▸k
   have hc:∃ c,c∈r∧to c=true:=by
    obtain ⟨x,h,hx⟩:=hc
    rcases List.mem_cons.mp h with rfl | h
    ·rw [e] at hx; exact nomatch hx
    ·exact ⟨x,h,hx⟩
   exact exit_fits ho hc (fun x h=>hw x (.tail _ h)) (fun x h=>hl x (List.mem_append_right _ h)) fun is h1 h2 h3 h4=>k _ (exit_mono (fun js h=>h▸rfl) h1) (fits_leave w1 (fun x h=>hl x (List.mem_append_left _ h)) h2) (Nat.le_trans len_leave (Nat.add_le_add_right h3 2)) (dep_leave.trans h4)
  ·replace k:=e▸k
   have h1:=ho c (wt r) e w1
   exact ⟨h1.1,k _ ⟨h1.1,rfl⟩ (fits_jmp (hl _ (List.mem_append_left _ h1.2))) (Nat.le_trans (Nat.le_succ 1) (Nat.le_add_left _ _)) rfl⟩
theorem brk_to {l:Option Nat}:ToOk (Ctl.brkTo · l) Ctl.behind:=fun c d h w=>by
 obtain ⟨k,ls,bh,ag⟩:=c
 cases k
 case loop=>exact ⟨rfl,by rw [show d+Ctl.w ⟨.loop,ls,bh,ag⟩=d from Int.add_zero d]; exact .head _⟩
 case keys=>exact ⟨rfl,.head _⟩
 case choice=>exact ⟨rfl,by rw [show d+Ctl.w ⟨.choice,ls,bh,ag⟩=d from Int.add_zero d]; exact .head _⟩
 case label=>exact ⟨rfl,by rw [show d+Ctl.w ⟨.label,ls,bh,ag⟩=d from Int.add_zero d]; exact .head _⟩
 all_goals
  subst w
  induction l using Option.casesOn <;> cases h
theorem con_to {l:Option Nat}:ToOk (Ctl.conTo · l) Ctl.again:=fun c d h w=>by
 obtain ⟨k,ls,bh,ag⟩:=c
 cases k
 case loop=>exact ⟨rfl,by rw [show d+Ctl.w ⟨.loop,ls,bh,ag⟩=d from Int.add_zero d]; exact .tail _ (.head _)⟩
 case keys=>exact ⟨rfl,.tail _ (.head _)⟩
 all_goals cases h
theorem exit_sim (hd:s.depth=some (wt ctl)) (E:Em J ctl m (wt ctl) is s s') (h:∀ F X g st Go,Ext F s'→Cx F X ctl s s' st g Go→At F s.code.length is→Hits s' is→∀ w kp,ex w (fun r w'=>∀ kp',Agr s.locals kp kp'→Go r w' kp')→Rn F X (g+ec ctl) ⟨s.code.length,st,w,kp⟩) (hn:depAt (wt ctl) is=none):Dd J ctl m (ec ctl) ex s s':=
 ⟨E.P,.of E.x E.hs,E.cd (fun _ h=>nomatch (hn.symm.trans h)) (cd_eq hd rfl),fun _ F X g st Go Y hst C w kp hx=>h F X g st Go Y C (E.at hd Y) (E.op hd).2.2 w kp hx⟩
theorem k_brk {l:Option Nat} (hc:∃ c,c∈ctl∧c.brkTo l=true) (hw:∀ c∈ctl,c.wf):CO (opC (.brk l) ctl) (ec ctl) (ec ctl) (exec (.brk l)) ctl:=co_open fun J m s K P hd q=>
 exit_fits brk_to hc hw P.ctl fun is hx f hl hn=>r_emits is (P.le (Nat.add_le_add_left hl m)) (cd_eq hd rfl) f fun s' E=>q s' (exit_sim hd E (fun F X g st Go Y C a h w kp k=>C.brk l _ w kp (exit_mono (fun js e=>e▸⟨a,h⟩) hx) (k kp .refl)) hn)
theorem k_con {l:Option Nat} (hc:∃ c,c∈ctl∧c.conTo l=true) (hw:∀ c∈ctl,c.wf):CO (opC (.con l) ctl) (ec ctl) (ec ctl) (exec (.con l)) ctl:=co_open fun J m s K P hd q=>
 exit_fits con_to hc hw P.ctl fun is hx f hl hn=>r_emits is (P.le (Nat.add_le_add_left hl m)) (cd_eq hd rfl) f fun s' E=>q s' (exit_sim hd E (fun F X g st Go Y C a h w kp k=>C.con l _ w kp (exit_mono (fun js e=>e▸⟨a,h⟩) hx) (k kp .refl)) hn)
end
end
section
section
variable {L L2 J:List Nat} {s s' s1 s1':CS} {l p g g1 n m z z2 α β k:Nat} {d:Int} {F:Un} {ctl:List Ctl} {c:Ctl} {i:Ins} {is:List Ins} {X C:Kr} {st st1:List SV} {w:W} {kp kp':Kp} {Go Go1:Kg} {ex:Ex} {a b r t:Tr} {nm:Nm} {K:Kc} {o:Option Nm}
theorem ret_fits:∀ {ctl:List Ctl},(∀ c∈ctl,c.wf)→(∀ x∈jms ctl,LabOk J s x)→Fits J s (wt ctl) (retCode k ctl)∧(retCode k ctl).length≤ec ctl∧depAt (wt ctl) (retCode k ctl)=none
 | [],_,_=>⟨fits_n rfl rfl rfl ⟨fun _ h=>(nomatch h),.inl rfl,trivial⟩,Nat.le_refl _,rfl⟩
 | c :: r,hw,hl=>by
  have ih:=ret_fits (fun x h=>hw x (.tail _ h)) (fun x h=>hl x (List.mem_append_right _ h))
  exact ⟨fits_leave (hw c (.head _)) (fun x h=>hl x (List.mem_append_left _ h)) ih.1,Nat.le_trans len_leave (Nat.add_le_add_right ih.2.1 2),dep_leave.trans ih.2.2⟩
theorem ret_ins:(retIns o).tgt=none∧(retIns o).last=false∧(retIns o).eff=1:=by
 induction o using Option.casesOn with
 | none=>exact ⟨rfl,rfl,rfl⟩
 | some nm=>exact ⟨load_tgt,load_last,load_eff⟩
theorem ret_load {A:Kr} (c:F.code[p]?=some (retIns o)) (h:exec (.ret o) w A) (hv:∀ v w',A (.ret v) w'→Rn F X g ⟨p+1,.s v :: st,w',kp⟩) (hf:∀ f w',A (.thr f) w'→Thr F X g p f (.nn :: st) w' kp):Rn F X (g+1) ⟨p,st,w,kp⟩:=by
 induction o using Option.casesOn with
 | none=>exact .step c (hv _ _ h)
 | some nm=>exact .load c (get_mono hv hf h)
theorem look_put {j v:Nat}:∀ {l:Kp},lookN j (putN k v l)=match Nat.beq k j with
  | true=>some v
  | false=>lookN j l
 | []=>rfl
 | (k',v') :: r=>by
  show lookN j (match Nat.beq k' k with
   | true=>(k',v) :: r
   | false=>(k',v') :: putN k v r)=_
  cases e:Nat.beq k' k with
  | true=>
   cases Nat.eq_of_beq_eq_true e
   show (match Nat.beq k j with
    | true=>some v
    | false=>lookN j r)=match Nat.beq k j with
    | true=>some v
    | false=>(match Nat.beq k j with
     | true=>some v'
     | false=>lookN j r)
   cases Nat.beq k j <;> rfl
  | false=>
   show (match Nat.beq k' j with
    | true=>some v'
    | false=>lookN j (putN k v r))=match Nat.beq k j with
    | true=>some v
    | false=>(match Nat.beq k' j with
     | true=>some v'
     | false=>lookN j r)
   cases e2:Nat.beq k' j with
   | true=>
    cases Nat.eq_of_beq_eq_true e2
    rw [beq_ne (fun h=>Nat.ne_of_beq_eq_false e h.symm)]
   | false=>exact look_put
theorem agr_put {v:Nat}:Agr n kp (putN n v kp):=fun j hj=>by
 rw [look_put,beq_ne (Nat.ne_of_gt hj)]
theorem r_loc (P:Pre J ctl m s):R0 [] s ⟨s.code,s.labels,s.depth,s.hs,s.locals+1⟩∧Pre J ctl m ⟨s.code,s.labels,s.depth,s.hs,s.locals+1⟩:=by
 have x:R0 [] s ⟨s.code,s.labels,s.depth,s.hs,s.locals+1⟩:=⟨⟨[],(List.append_nil _).symm⟩,fun _ b e=>⟨b,e,.refl⟩,⟨[],(List.append_nil _).symm⟩,Nat.le_succ _⟩
 exact ⟨x,P.to (k:=0) x rfl (Nat.le_refl _) (fun _=>id) fun _ h=>.inl h⟩
theorem k_ret (hw:∀ c∈ctl,c.wf):CO (opC (.ret o) ctl) (ec ctl+2+1) (ec ctl+2+1) (exec (.ret o)) ctl:=co_open fun J m s K P hd q=>by
 have hr:=ret_ins (o:=o)
 refine r_emits [retIns o] (P:Pre J ctl (m+(ec ctl+2)+1) s) (cd_eq hd rfl) (fits_n hr.1 hr.2.1 (congrArg _ hr.2.2) trivial) fun s1 E1=>?_
 have d1:s1.depth=some (wt ctl+1):=by
  rw [(E1.op hd).2.1]
  show (match (retIns o).last with
   | true=>none
   | false=>some (wt ctl+(retIns o).eff))=_
  rw [hr.2.1,hr.2.2]
 cases hg:isGd ctl with
 | false=>
  refine r_emits [.ret] (E1.P.le (Nat.add_le_add_left (Nat.le_add_left 1 (ec ctl+1)) m)) (cd_eq d1 rfl) ⟨fun _ h=>(nomatch h),.inl rfl,trivial⟩ fun s2 E2=>q s2 ⟨E2.P,.of (E1.x.trans E2.x) (E2.hs.trans E1.hs),E2.cd (fun _ h=>nomatch h) (cd_eq d1 rfl),fun _ F X g st Go Y hst C w kp h=>?_⟩
  have Y1:=Y.of E2.x
  refine ret_load (E1.at hd Y1 0 _ rfl) h (fun v w' h=>?_) fun f w' h=>?_
  ·refine (Rn.step (g:=g) (p:=s.code.length+1) ((E1.len hd)▸(E2.at d1 Y 0 _ rfl)) ?_).le (Nat.add_le_add_left (Nat.le_add_left 1 (ec ctl+1)) g)
   exact C.bare v w' kp hg (h kp .refl)
  ·exact (C.thr f _ w' kp [.nn] ((E1.unc P hd Y1 (j:=0) (Nat.zero_lt_succ _)).wide (Nat.le_refl _) (R1.of E2.x E2.hs) Y) (h kp .refl)).le (Nat.le_add_right _ _)
 | true=>
  have hl:=r_loc E1.P
  refine r_emits [.setloc s1.locals,.pop] (hl.2:Pre J ctl (m+ec ctl+2) _) (d:=wt ctl+1) (cd_eq d1 rfl) (fits_n rfl rfl rfl (fits_n rfl rfl rfl trivial)) fun s2 E2=>?_
  have d2:s2.depth=some (wt ctl):=(E2.op d1).2.1.trans (congrArg some (by show wt ctl+1+0+-1=_; lia))
  have x12:=hl.1.trans E2.x
  have f3:=ret_fits (s:=s2) (J:=J) (k:=s1.locals) hw E2.P.ctl
  refine r_emits _ (E2.P.le (Nat.add_le_add_left f3.2.1 m)) (cd_eq d2 rfl) f3.1 fun s3 E3=>q s3 ⟨E3.P,.of (E1.x.trans (x12.trans E3.x)) (E3.hs.trans (E2.hs.trans E1.hs)),E3.cd (fun _ h=>nomatch (f3.2.2.symm.trans h)) (cd_eq d2 rfl),fun _ F X g st Go Y hst C w kp h=>?_⟩
  have Y2:=Y.of E3.x
  have Y1:=Y2.of x12
  have h9:Nat.beq s1.locals 9=false:=beq_ne (Nat.ne_of_gt E1.P.loc)
  have at2:=E2.at d1 Y2
  have l2:=E2.len d1
  refine ret_load (g:=g+(ec ctl+2)) (E1.at hd Y1 0 _ rfl) h (fun v w' h=>?_) fun f w' h=>?_
  ·have e1:s1.code.length=s.code.length+1:=E1.len hd
   rw [← e1]
   refine Rn.set (g:=g+(ec ctl+1)) (at2 0 _ rfl) h9 (.step (at2 1 _ rfl) ?_)
   have key:=C.ret s1.locals v s2.code.length w' (putN s1.locals v kp) (E3.at d2 Y) h9 (Nat.le_trans E2.x.loc E3.x.loc) (by rw [look_put,Nat.beq_refl]) (h _ (agr_put.low E1.x.loc))
   replace key:=l2▸key
   exact key
  ·exact (C.thr f _ w' kp [.nn] ((E1.unc P hd Y1 (j:=0) (Nat.zero_lt_succ _)).wide (Nat.le_refl _) (R1.of (x12.trans E3.x) (E3.hs.trans E2.hs)) Y) (h kp .refl)).le (Nat.le_add_right _ _)
end
end
section
section
variable {L L2 J ls:List Nat} {s s' s1 s1':CS} {l p g g1 gA n m z z2 α β k bh ag:Nat} {d:Int} {F:Un} {ctl:List Ctl} {c:Ctl} {i:Ins} {is:List Ins} {X C:Kr} {st st1:List SV} {w:W} {kp kp':Kp} {Go Go1:Kg} {ex body:Ex} {a b r t:Tr} {nm:Nm} {K:Kc} {o step:Option Nm}
theorem loop_go {MT MB MA:W→Kp→Prop} (hb:ExM body)
  (hT:∀ w kp,w.get nm (fun v w'=>nz v (MB w' kp) (Go .norm w' kp)) (fun f w'=>Go (.thr f) w' kp)→MT w kp)
  (hB:∀ w kp,(body w fun r w'=>∀ kp',Agr n kp kp'→match r.isEnd ls with
   | true=>Go (r.behind ls) w' kp'
   | false=>MA w' kp')→MB w kp)
  (hA:∀ w kp,stepX step (fun w _=>MT w kp) w (fun r w=>Go r w kp)→MA w kp):∀ k w kp,
  (rounds ls nm body step k false w (fun r w'=>∀ kp',Agr n kp kp'→Go r w' kp')→MT w kp)∧(rounds ls nm body step k true w (fun r w'=>∀ kp',Agr n kp kp'→Go r w' kp')→MB w kp)
 | 0,w,kp=>⟨False.elim,False.elim⟩
 | k+1,w,kp=>by
  have key:∀ w kp,roundX ls body (stepX step (rounds ls nm body step k false)) w (fun r w'=>∀ kp',Agr n kp kp'→Go r w' kp')→MB w kp:=fun w kp h=>by
   refine hB w kp (hb _ _ _ (fun r w' h kp' A=>?_) h)
   cases e:r.isEnd ls <;> rw [e] at h
   ·refine hA w' kp' ?_
    have ih:=fun w'' (h:rounds ls nm body step k false w'' fun r w'=>∀ kp',Agr n kp kp'→Go r w' kp')=>(loop_go hb hT hB hA k w'' kp').1 (rounds_mono hb k false _ _ _ (fun r w h kp2 A2=>h kp2 (A.trans A2 (Nat.le_refl _))) h)
    cases step with
    | none=>exact ih w' h
    | some y=>exact get_mono (fun v w'' h=>ih w'' h) (fun f w'' h=>h kp' A) h
   ·exact h kp' A
  exact ⟨fun h=>hT w kp (get_mono (fun v w' h=>nz_mono (key w' kp) (fun h=>h kp .refl) h) (fun f w' h=>h kp .refl) h),key w kp⟩
noncomputable def goL (Go:Kg) (l:Nat) (MA:W→Kp→Prop):Kg:=fun r w kp=>match r.isEnd [l] with
 | true=>Go ((r.behind [l]).out l) w kp
 | false=>MA w kp
theorem isIn1 {j:Nat}:isIn j [l]=Nat.beq j l:=by
 show (match Nat.beq j l with
  | true=>true
  | false=>false)=_
 cases Nat.beq j l <;> rfl
theorem goL_out {MA:W→Kp→Prop} {kd:CK} (hk:kd.isLoop=true) {r:Res} (e:(Ctl.mk kd [l] bh ag).takes r=false) (h:goL Go l MA r w kp):Go r w kp:=by
 cases r with
 | norm=>cases e
 | ret v=>exact h
 | thr v=>exact h
 | brk o=>cases o with
  | none=>cases kd <;> first | (cases e; done) | (cases hk; done)
  | some j=>
   have e1:isIn j [l]=false:=e
   have h:Go (Res.out l (match isIn j [l] with
    | true=>.norm
    | false=>.brk (some j))) w kp:=h
   rw [e1] at h
   have h:Go (match Nat.beq j l with
    | true=>.norm
    | false=>.brk (some j)) w kp:=h
   rw [← isIn1,e1] at h
   exact h
 | con o=>cases o with
  | none=>cases kd <;> first | (cases e; done) | (cases hk; done)
  | some j=>
   have e1:isIn j [l]=false:=by cases kd <;> first | exact e | (cases hk; done)
   have h:match (!isIn j [l]) with
    | true=>Go (.con (some j)) w kp
    | false=>MA w kp:=h
   rw [e1] at h
   exact h
theorem goL_brk {MA:W→Kp→Prop} {kd:CK} {o:Option Nat} (hk:kd.isLoop=true) (e:(Ctl.mk kd [l] bh ag).brkTo o=true) (h:goL Go l MA (.brk o) w kp):Go .norm w kp:=by
 cases o with
 | none=>exact h
 | some j=>
  have e1:isIn j [l]=true:=e
  have h:Go (Res.out l (match isIn j [l] with
    | true=>.norm
    | false=>.brk (some j))) w kp:=h
  rw [e1] at h; exact h
theorem goL_con {MA:W→Kp→Prop} {kd:CK} {o:Option Nat} (hk:kd.isLoop=true) (e:(Ctl.mk kd [l] bh ag).conTo o=true) (h:goL Go l MA (.con o) w kp):MA w kp:=by
 cases o with
 | none=>exact h
 | some j=>
  have e1:isIn j [l]=true:=by cases kd <;> first | exact e | (cases hk; done)
  have h:match (!isIn j [l]) with
    | true=>Go (.con (some j)) w kp
    | false=>MA w kp:=h
  rw [e1] at h; exact h
theorem cx_loop {MA:W→Kp→Prop} (C:Cx F X ctl s s' st g Go) (Y:Ext F s') (y:s.code.length≤s1.code.length) (z:R1 L s1' s') (pb:F.pl bh=s'.code.length) (hb:s1'.hit bh→s'.depth=some (wt ctl)) (q:g≤g1)
  (ha:∀ w kp,s1'.hit ag→MA w kp→Rn F X (g1+1) ⟨F.pl ag,st,w,kp⟩) (norm:∀ w kp d,s1'.depth=some d→MA w kp→Rn F X g1 ⟨s1'.code.length,st,w,kp⟩) :
  Cx F X (⟨.loop,[l],bh,ag⟩ :: ctl) s1 s1' st g1 (goL Go l MA):=
 C.cons z.r (Nat.le_refl _) (fun o w kp e h k=>by
   show Rn F X (g1+1) ⟨F.pl bh,st,w,kp⟩
   rw [pb]
   exact (C.norm w kp _ (hb h) (goL_brk rfl e k)).le (Nat.le_succ_of_le q))
  (fun o w kp e h k=>ha w kp h (goL_con rfl e k))
  (fun r p w kp e _ _ h k=>(k w kp .refl (goL_out rfl e h)).le (Nat.le_trans (Nat.add_le_add_right q _) (Nat.le_add_right _ 2)))
  norm (fun v w kp hg h=>C.bare v w kp hg h) fun f p w kp e u h=>(C.thr f p w kp e (u.wide y z Y) h).le q
theorem jms_loop {d:Int} (h1:LabOk J s (bh,d)) (h2:LabOk J s (ag,d)):∀ x∈(Ctl.mk .loop ls bh ag).jumps d,LabOk J s x:=fun x hx=>by
 rcases List.mem_cons.mp hx with rfl | hx
 ·exact h1
 ·cases List.mem_singleton.mp hx; exact h2
theorem wt_loop:wt (⟨.loop,ls,bh,ag⟩ :: ctl)=wt ctl:=Int.add_zero _
theorem k_wh (hx:nm≠.x) (hα:α≤154) (H:∀ bh ag,CO (opC b (⟨.loop,[l],bh,ag⟩ :: ctl)) z α (exec b) (⟨.loop,[l],bh,ag⟩ :: ctl)):CO (opC (.wh l nm b) ctl) (1+z+4) 2 (exec (.wh l nm b)) ctl:=co_open fun J m s K P hd q=>dep_of hd <|
 r_new2 (P:Pre J ctl (m+(1+z)+2+2) s) fun bh ag s2 P2 x2 f1 f2 ne u1 u2 c2 d2=>by
 have hd2:=d2.trans hd
 refine r_stand P2 f2 (cd_eq hd2 rfl) fun s3 S3=>?_
 have hd3:=S3.op (.inr hd2)
 have g1:=S3.x.free f1 (ne_mem ne)
 refine r_emits [load nm,.jf bh] S3.P (cd_eq hd3 rfl) (fits_jf ⟨free_dp g1,.tail _ (.head _)⟩) fun s4 E4=>?_
 have hd4:=E4.to dep_jf hd3
 have x24:=(R1.of S3.x S3.hs).trans (.of E4.x E4.hs)
 refine H bh ag _ (m+1) s4 _ (E4.P.as.more (jms_loop ⟨E4.x.dp (free_dp g1),.tail _ (.head _)⟩ ⟨x24.r.dp (free_dp f2),.head _⟩)) (cd_eq hd4 wt_loop.symm) fun s5 D5=>?_
 have cd5:CDep (wt ctl) s5:=wt_loop▸D5.cd
 have x45:=D5.x
 refine r_emits [.jmp ag] (D5.P.fin (E4.P) D5.x.r fun _=>.inr) cd5 (fits_jmp ⟨(x24.trans x45).r.dp (free_dp f2),.head _⟩) fun s6 E6=>?_
 have x46:=x45.trans (.of E6.x E6.hs)
 refine r_stand E6.P ((E4.x.trans x46.r).free g1 List.not_mem_nil) (E6.cd (fun _ h=>nomatch h) cd5) fun s7 S7=>?_
 have x57:=(R1.of E6.x E6.hs).trans (.of S7.x S7.hs)
 have x7:R1 [] s s7:=((x2.trans (x24.trans (x45.trans x57))).drop u2).drop u1
 refine q s7 ⟨S7.P.fin P x7.r (two_has (pos_has S7.at') ((E4.x.trans (x45.trans x57).r).has (pos_has S3.at'))),x7,S7.cd,fun _ F X g st Go Y hst C w kp h=>?_⟩
 have Y6:=Y.of S7.x
 have Y5:=Y6.of E6.x
 have Y4:=Y5.of x45.r
 have Y3:=Y4.of E4.x
 have hag:F.pl ag=s3.code.length:=S3.pl Y3
 have x3:=(x2.r.trans S3.x).len
 have key:=loop_go (MT:=fun w kp=>Rn F X (g+2) ⟨s3.code.length,st,w,kp⟩) (MB:=fun w kp=>Rn F X (g+3+α) ⟨s4.code.length,st,w,kp⟩) (MA:=fun w kp=>Rn F X (g+2) ⟨F.pl ag,st,w,kp⟩) (ls:=[l]) (n:=s.locals) (nm:=nm) (step:=none) (Go:=fun r=>Go (r.out l)) (exec_mono b)
  (fun w kp h=>?_) (fun w kp h=>?_) (fun w kp h=>hag▸h) (w.left.length+2) w kp
 ·rw [← c2,← S3.code]
  exact key.1 h
 ·refine E4.jf hd3 Y4 hx (get_mono (fun _ _=>id) (fun f w' h=>C.thr f _ w' kp [.nn] ((E4.unc S3.P hd3 Y4 (j:=0) (Nat.zero_lt_succ _)).wide x3 (x45.trans x57) Y) h) h) (fun v w' h=>h.le (by lia)) fun w' h=>?_
  rw [S7.pl Y]
  exact C.norm w' kp _ (S7.op (.inl ((E6.x.hit (x45.r.hit (E4.hit hd3 (.tail _ (.head _)) rfl)))))) h
 ·refine D5.sim (hd4.trans (congrArg some wt_loop.symm)) F X (g+3) st _ Y5 (hst.trans wt_loop.symm) (cx_loop C Y (x2.r.trans x24.r).len x57 (S7.pl Y) (fun h=>S7.op (.inl (E6.x.hit h))) (Nat.le_add_right _ _) (fun w kp _ h=>h.le (Nat.le_add_right (g+2) 2)) fun w kp d hd5 h=>?_) w kp (exec_mono b _ _ _ (fun r w' h kp' A=>h kp' (A.low (x2.r.trans x24.r).loc)) h)
  exact .step (E6.at (cd_some cd5 hd5) Y6 0 _ rfl) h
end
end
section
section
variable {L L2 J ls:List Nat} {s s' s1 s1':CS} {l p g g1 gA n m z z2 α β k bh ag:Nat} {d:Int} {F:Un} {ctl:List Ctl} {c:Ctl} {i:Ins} {is:List Ins} {X C:Kr} {st st1:List SV} {w:W} {kp kp':Kp} {Go Go1:Kg} {ex body:Ex} {a b r t:Tr} {nm sn:Nm} {K:Kc} {o step:Option Nm}
theorem three_has {l1 l2 l3:Nat} (h1:s.has l1) (h2:s.has l2) (h3:s.has l3):∀ l∈l3 :: l2 :: l1 :: J,s.has l∨l∈J:=fun l hl=>by
 rcases List.mem_cons.mp hl with rfl | hl
 ·exact .inl h3
 ·exact two_has h1 h2 l hl
theorem k_dw (hx:nm≠.x) (hα:α≤154) (H:∀ bh ag,CO (opC b (⟨.loop,[l],bh,ag⟩ :: ctl)) z α (exec b) (⟨.loop,[l],bh,ag⟩ :: ctl)):CO (opC (.dw l b nm) ctl) (2+z+3) (2+α) (exec (.dw l b nm)) ctl:=co_open fun J m s K P hd q=>dep_of hd <|
 r_new2 (P:Pre J ctl (m+(2+z)+1+2) s) fun bh ag s1 P1 x1 f1 f2 ne u1 u2 c1 d1=>by
 refine r_new P1 fun tp s2 N2=>?_
 have hd2:=N2.dep.trans (d1.trans hd)
 have x02:=x1.trans (.of N2.x N2.hs)
 refine r_stand N2.P N2.fr (cd_eq hd2 rfl) fun s3 S3=>?_
 have hd3:=S3.op (.inr hd2)
 have x13:=(R1.of N2.x N2.hs).trans (.of S3.x S3.hs)
 have g1:=x13.r.free f1 (ne_mem (N2.ne f1))
 have g2:=x13.r.free f2 (ne_mem (N2.ne f2))
 refine H bh ag _ (m+2) s3 _ (S3.P.as.more (jms_loop ⟨free_dp g1,.tail _ (.tail _ (.head _))⟩ ⟨free_dp g2,.tail _ (.head _)⟩)) (cd_eq hd3 wt_loop.symm) fun s4 D4=>?_
 have cd4:CDep (wt ctl) s4:=wt_loop▸D4.cd
 refine r_stand (D4.P.fin S3.P D4.x.r fun _=>.inr) (D4.x.r.free g2 List.not_mem_nil) cd4 fun s5 S5=>?_
 have x45:R1 [ag] s4 s5:=.of S5.x S5.hs
 refine r_emits [load nm,.jt tp] S5.P S5.cd (fits_jt ⟨(D4.x.trans x45).r.dp ((R1.of S3.x S3.hs).r.dp (free_dp N2.fr)),.head _⟩) fun s6 E6=>?_
 have x46:=x45.trans (.of E6.x E6.hs)
 refine r_stand E6.P ((D4.x.trans x46).r.free g1 (ne_mem ne)) (E6.cd (fun x h=>by rw [dep_jt] at h; cases h; rfl) S5.cd) fun s7 S7=>?_
 have x57:=(R1.of E6.x E6.hs).trans (.of S7.x S7.hs)
 have x47:=x45.trans x57
 have x7:R1 [] s s7:=((((x02.trans (.of S3.x S3.hs)).trans (D4.x.trans x47)).drop (x1.r.un N2.un)).drop u2).drop u1
 refine q s7 ⟨S7.P.fin P x7.r (three_has (pos_has S7.at') (x57.r.has (pos_has S5.at')) ((D4.x.trans x47).r.has (pos_has S3.at'))),x7,S7.cd,fun _ F X g st Go Y hst C w kp h=>?_⟩
 have Y6:=Y.of S7.x
 have Y5:=Y6.of E6.x
 have Y4:=Y5.of S5.x
 have Y3:=Y4.of D4.x.r
 have hag:F.pl ag=s5.code.length:=S5.pl Y5
 have hd5:∀ d,s4.depth=some d→s5.depth=some (wt ctl):=fun d h=>S5.op (.inr (cd_some cd4 h))
 have x03:=x02.r.trans S3.x
 have hc:s3.code.length=s.code.length:=by rw [S3.code,N2.code,c1]
 have key:=loop_go (MT:=fun w kp=>s5.depth=some (wt ctl)→Rn F X (g+2) ⟨s5.code.length,st,w,kp⟩) (MB:=fun w kp=>Rn F X (g+2+α) ⟨s3.code.length,st,w,kp⟩) (MA:=fun w kp=>s5.depth=some (wt ctl)→Rn F X (g+2) ⟨F.pl ag,st,w,kp⟩) (ls:=[l]) (n:=s.locals) (nm:=nm) (step:=none) (Go:=fun r=>Go (r.out l)) (exec_mono b)
  (fun w kp h hh=>?_) (fun w kp h=>?_) (fun w kp h hh=>hag▸h hh) (w.left.length+2) w kp
 ·rw [← hc,← Nat.add_assoc]
  exact key.2 h
 ·refine E6.jt hh Y6 hx (get_mono (fun _ _=>id) (fun f w' h=>C.thr f _ w' kp [.nn] ((E6.unc S5.P hh Y6 (j:=0) (Nat.zero_lt_succ _)).wide (x03.trans (D4.x.trans x45).r).len (.of S7.x S7.hs) Y) h) h) (fun v w' h=>?_) fun w' h=>?_
  ·rw [S3.pl Y3]
   exact h.le (by lia)
  ·have key:=C.norm w' kp _ (S7.op (.inr (E6.to dep_jt hh))) h
   rw [S7.code] at key
   exact key
 ·refine D4.sim (hd3.trans (congrArg some wt_loop.symm)) F X (g+2) st _ Y4 (hst.trans wt_loop.symm) (cx_loop C Y x03.len x47 (S7.pl Y) (fun h=>S7.op (.inl (x46.r.hit h))) (Nat.le_add_right _ _) (fun w kp h1 h=>(h (S5.op (.inl h1))).le (Nat.le_succ _)) fun w kp d hd4 h=>?_) w kp (exec_mono b _ _ _ (fun r w' h kp' A=>h kp' (A.low x03.loc)) h)
  have key:=h (hd5 d hd4)
  rw [hag,S5.code] at key
  exact key
theorem ini_fits {e:Int}:Fits J s e (initIns o):=by
 cases o with
 | none=>exact trivial
 | some y=>exact fits_load (fits_n rfl rfl add1 trivial)
theorem ini_dep {e:Int}:depAt e (initIns o)=some e:=by
 cases o with
 | none=>exact rfl
 | some y=>exact dep_load.trans (congrArg some add1)
theorem Em.ini {A:Ex} (E:Em J ctl m d (initIns o) s s') (hd:s.depth=some d) (Y:Ext F s') {B:Kr} (h:stepX o A w B) (hA:∀ w',A w' B→Rn F X g ⟨s'.code.length,st,w',kp⟩) (hf:0 < (initIns o).length→∀ f w',B (.thr f) w'→Thr F X g s.code.length f (.nn :: st) w' kp):Rn F X (g+2) ⟨s.code.length,st,w,kp⟩:=by
 have l:=E.len hd
 rw [l] at hA
 have a:=E.at hd Y
 cases o with
 | none=>exact (hA w h).le (Nat.le_add_right _ _)
 | some y=>exact .load (g:=g+1) (a 0 _ rfl) (get_mono (fun v w' h=>.step (a 1 _ rfl) (hA w' h)) (fun f w' h=>(hf (Nat.zero_lt_succ _) f w' h).le (Nat.le_succ _)) h)
theorem k_fr (hx:nm≠.x) (hα:α≤154) (H:∀ bh ag,CO (opC b (⟨.loop,[l],bh,ag⟩ :: ctl)) z α (exec b) (⟨.loop,[l],bh,ag⟩ :: ctl)):CO (opC (.fr l o nm sn b) ctl) (3+z+7) 4 (exec (.fr l o nm sn b)) ctl:=co_open fun J m s K P hd q=>dep_of hd <|
 r_new2 (P:Pre J ctl (m+(3+z)+5+2) s) fun bh ag s1 P1 x1 f1 f2 ne u1 u2 c1 d1=>by
 have hd1:=d1.trans hd
 have i1:(initIns o).length≤2:=by cases o; exact Nat.zero_le _; exact Nat.le_refl _
 refine r_emits (initIns o) (P1.le (Nat.add_le_add_left i1 (m+(3+z)+3))) (cd_eq hd1 rfl) ini_fits fun si Ei=>?_
 have hdi:=Ei.to ini_dep hd1
 refine r_new (Ei.P:Pre _ ctl (m+(3+z)+2+1) si) fun tp s2 N2=>?_
 have hd2:=N2.dep.trans hdi
 have xi:=(R1.of Ei.x Ei.hs).trans (.of N2.x N2.hs)
 have x02:=x1.trans xi
 refine r_stand N2.P N2.fr (cd_eq hd2 rfl) fun s3 S3=>?_
 have hd3:=S3.op (.inr hd2)
 refine r_emits [load nm,.jf bh] S3.P (cd_eq hd3 rfl) (fits_jf ⟨S3.x.dp (xi.r.dp (free_dp f1)),.tail _ (.tail _ (.head _))⟩) fun s4 E4=>?_
 have hd4:=E4.to dep_jf hd3
 have xb:=xi.trans ((R1.of S3.x S3.hs).trans (.of E4.x E4.hs))
 have g1:=xb.r.free f1 (ne_mem (N2.ne (Ei.x.free f1 List.not_mem_nil)))
 have g2:=xb.r.free f2 (ne_mem (N2.ne (Ei.x.free f2 List.not_mem_nil)))
 refine H bh ag _ (m+3) s4 _ (E4.P.as.more (jms_loop ⟨free_dp g1,.tail _ (.tail _ (.head _))⟩ ⟨free_dp g2,.tail _ (.head _)⟩)) (cd_eq hd4 wt_loop.symm) fun s5 D5=>?_
 have cd5:CDep (wt ctl) s5:=wt_loop▸D5.cd
 refine r_stand (D5.P.fin E4.P D5.x.r fun _=>.inr) (D5.x.r.free g2 List.not_mem_nil) cd5 fun s6 S6=>?_
 have x56:R1 [ag] s5 s6:=.of S6.x S6.hs
 refine r_emits [load sn,.pop,.jmp tp] S6.P S6.cd (fits_load (fits_n rfl rfl add1 (fits_jmp ⟨((S3.x.trans E4.x).trans (D5.x.r.trans S6.x)).dp (free_dp N2.fr),.head _⟩))) fun s7 E7=>?_
 have x57:=x56.trans (.of E7.x E7.hs)
 refine r_stand E7.P ((D5.x.trans x57).r.free g1 (ne_mem ne)) (E7.cd (fun x h=>by rw [dep_load] at h; cases h) S6.cd) fun s8 S8=>?_
 have x68:=(R1.of E7.x E7.hs).trans (.of S8.x S8.hs)
 have x58:=x56.trans x68
 have x8:R1 [] s s8:=(((x1.trans (xb.trans (D5.x.trans x58))).drop (x1.r.un (Ei.x.un N2.un))).drop u2).drop u1
 refine q s8 ⟨S8.P.fin P x8.r (three_has (pos_has S8.at') (x68.r.has (pos_has S6.at')) ((E4.x.trans (D5.x.trans x58).r).has (pos_has S3.at'))),x8,S8.cd,fun _ F X g st Go Y hst C w kp h=>?_⟩
 have Y7:=Y.of S8.x
 have Y6:=Y7.of E7.x
 have Y5:=Y6.of S6.x
 have Y4:=Y5.of D5.x.r
 have Y3:=Y4.of E4.x
 have Yi:=(Y3.of S3.x).of N2.x
 have hag:F.pl ag=s6.code.length:=S6.pl Y6
 have x03:=x02.r.trans S3.x
 have x04:=x03.trans E4.x
 have hc:s3.code.length=si.code.length:=by rw [S3.code,N2.code]
 have key:=loop_go (MT:=fun w kp=>Rn F X (g+2) ⟨s3.code.length,st,w,kp⟩) (MB:=fun w kp=>Rn F X (g+5+α) ⟨s4.code.length,st,w,kp⟩) (MA:=fun w kp=>s6.depth=some (wt ctl)→Rn F X (g+5) ⟨F.pl ag,st,w,kp⟩) (ls:=[l]) (n:=s.locals) (nm:=nm) (step:=some sn) (Go:=fun r=>Go (r.out l)) (exec_mono b)
  (fun w kp h=>?_) (fun w kp h=>?_) (fun w kp h hh=>?_)
 ·rw [← c1]
  have h:stepX o (fun w K=>rounds [l] nm (exec b) (some sn) (w.left.length+2) false w K) w fun r w'=>∀ kp',Agr s.locals kp kp'→Go (r.out l) w' kp':=h
  refine Ei.ini (g:=g+2) hd1 Yi h (fun w' h=>?_) fun h0 f w' h=>(C.thr f _ w' kp [.nn] ((Ei.unc P1 hd1 Yi (j:=0) h0).wide x1.r.len ((R1.of N2.x N2.hs).trans (((R1.of S3.x S3.hs).trans (.of E4.x E4.hs)).trans (D5.x.trans x58))) Y) (h kp .refl)).le (Nat.le_add_right _ _)
  rw [← hc]
  exact (key _ w' kp).1 h
 ·refine E4.jf hd3 Y4 hx (get_mono (fun _ _=>id) (fun f w' h=>C.thr f _ w' kp [.nn] ((E4.unc S3.P hd3 Y4 (j:=0) (Nat.zero_lt_succ _)).wide x03.len (D5.x.trans x58) Y) h) h) (fun v w' h=>h.le (by lia)) fun w' h=>?_
  rw [S8.pl Y]
  exact C.norm w' kp _ (S8.op (.inl ((D5.x.trans x57).r.hit (E4.hit hd3 (.tail _ (.head _)) rfl)))) h
 ·refine D5.sim (hd4.trans (congrArg some wt_loop.symm)) F X (g+5) st _ Y5 (hst.trans wt_loop.symm) (cx_loop C Y x04.len x58 (S8.pl Y) (fun h=>S8.op (.inl (x57.r.hit h))) (Nat.le_add_right _ _) (fun w kp h1 h=>(h (S6.op (.inl h1))).le (Nat.le_succ _)) fun w kp d hd5 h=>?_) w kp (exec_mono b _ _ _ (fun r w' h kp' A=>h kp' (A.low x04.loc)) h)
  have key:=h (S6.op (.inr (cd_some cd5 hd5)))
  rw [hag,S6.code] at key
  exact key
 ·rw [hag]
  have a:=E7.at hh Y7
  refine .load (g:=g+4) (a 0 _ rfl) (get_mono (fun v w' h=>.step (a 1 _ rfl) (.step (a 2 _ rfl) ?_)) (fun f w' h=>(C.thr f _ w' kp [.nn] ((E7.unc S6.P hh Y7 (j:=0) (Nat.zero_lt_succ _)).wide (x04.trans (D5.x.trans x56).r).len (.of S8.x S8.hs) Y) h).le (Nat.le_add_right _ _)) h)
  show Rn F X (g+2) ⟨F.pl tp,st,w',kp⟩
  rw [S3.pl Y3]
  exact h
end
end
section
section
variable {L L2 J ls:List Nat} {s s' s1 s1':CS} {l p g g1 gA n m z z2 α β k bh ag:Nat} {d:Int} {F:Un} {ctl:List Ctl} {c:Ctl} {i:Ins} {is:List Ins} {X C:Kr} {st st1:List SV} {w:W} {kp kp':Kp} {Go Go1:Kg} {ex body:Ex} {a b r t:Tr} {nm sn:Nm} {K:Kc} {o step:Option Nm} {y:SV}
theorem cx_keys {MA:W→Kp→Prop} (C:Cx F X ctl s s' st g Go) (Y:Ext F s') (hy:s.code.length≤s1.code.length) (z:R1 L s1' s') (q:g≤g1) (hb:∀ w kp,s1'.hit bh→Go .norm w kp→Rn F X (g+1) ⟨F.pl bh,y :: st,w,kp⟩)
  (ha:∀ w kp,MA w kp→Rn F X (g1+1) ⟨F.pl ag,y :: st,w,kp⟩) (norm:∀ w kp d,s1'.depth=some d→MA w kp→Rn F X g1 ⟨s1'.code.length,y :: st,w,kp⟩) :
  Cx F X (⟨.keys,[l],bh,ag⟩ :: ctl) s1 s1' (y :: st) g1 (goL Go l MA):=
 C.cons z.r (Nat.le_refl _) (fun o w kp e h k=>(hb w kp h (goL_brk rfl e k)).le (Nat.add_le_add_right q 1))
  (fun o w kp e h k=>ha w kp (goL_con rfl e k))
  (fun r p w kp e _ a h k=>(Rn.step (st:=y :: st) (w:=w) (kp:=kp) a.head (k w kp .refl (goL_out rfl e h))).le (Nat.le_trans (Nat.add_le_add_right (Nat.add_le_add_right q _) 1) (Nat.le_succ _)))
  norm (fun v w kp hg h=>C.bare v w kp hg h) fun f p w kp e u h=>by
   have key:=(C.thr f p w kp (e++[y]) (u.wide hy z Y) h).le q
   rw [List.append_assoc] at key
   exact key
theorem jms_keys (h1:LabOk J s (bh,d+1)) (h2:LabOk J s (ag,d+1)):∀ x∈(Ctl.mk .keys ls bh ag).jumps d,LabOk J s x:=fun x hx=>by
 rcases List.mem_cons.mp hx with rfl | hx
 ·exact h1
 ·cases List.mem_singleton.mp hx; exact h2
theorem k_fi {iv:Bool} (H:∀ bh ag,CO (opC b (⟨.keys,[l],bh,ag⟩ :: ctl)) z α (exec b) (⟨.keys,[l],bh,ag⟩ :: ctl)):CO (opC (.fi l iv nm b) ctl) (2+z+7) (2 * (α+4)+4) (exec (.fi l iv nm b)) ctl:=co_open fun J m s K P hd q=>dep_of hd <|
 r_new2 (P:Pre J ctl (m+(2+z)+5+2) s) fun bh ag s1 P1 x1 f1 f2 ne u1 u2 c1 d1=>by
 have hd1:=d1.trans hd
 refine r_emits [load nm,.forin] (P1:Pre _ ctl (m+(2+z)+3+2) s1) (cd_eq hd1 rfl) (fits_load (fits_n rfl rfl (Int.add_zero _) trivial)) fun s2 E2=>?_
 have hd2:s2.depth=some (wt ctl+1):=(E2.op hd1).2.1.trans (dep_load.trans (congrArg some (Int.add_zero _)))
 refine r_stand E2.P (E2.x.free f2 List.not_mem_nil) (cd_eq hd2 rfl) fun s3 S3=>?_
 have hd3:=S3.op (.inr hd2)
 have x13:=(R1.of E2.x E2.hs).trans (.of S3.x S3.hs)
 have g1:=x13.r.free f1 (ne_mem ne)
 refine r_emits [.nextin bh,.setglob (cond iv 59 60),.pop] S3.P (cd_eq hd3 rfl) (fits_t rfl rfl rfl (Int.add_zero _) ⟨free_dp g1,.tail _ (.head _)⟩ (fits_n rfl rfl (Int.add_zero _) (fits_n rfl rfl add1 trivial))) fun s4 E4=>?_
 have hd4:s4.depth=some (wt ctl+1):=(E4.op hd3).2.1.trans (congrArg some (by show wt ctl+1+1+0+-1=_; lia))
 have x14:=x13.trans (.of E4.x E4.hs)
 refine H bh ag _ (m+2) s4 _ (E4.P.as.more (jms_keys ⟨E4.x.dp (free_dp g1),.tail _ (.head _)⟩ ⟨x14.r.dp (free_dp f2),.head _⟩)) (cd_eq hd4 rfl) fun s5 D5=>?_
 have cd5:CDep (wt ctl+1) s5:=D5.cd
 refine r_emits [.jmp ag] (D5.P.fin (E4.P) D5.x.r fun _=>.inr) cd5 (fits_jmp ⟨(x14.trans D5.x).r.dp (free_dp f2),.head _⟩) fun s6 E6=>?_
 refine r_stand E6.P ((E4.x.trans (D5.x.r.trans E6.x)).free g1 List.not_mem_nil) (E6.cd (fun _ h=>nomatch h) cd5) fun s7 S7=>?_
 refine r_emits [.pop] S7.P S7.cd (fits_n rfl rfl add1 trivial) fun s8 E8=>?_
 have x57:=(R1.of E6.x E6.hs).trans (.of S7.x S7.hs)
 have x58:=x57.trans (.of E8.x E8.hs)
 have x8:R1 [] s s8:=((x1.trans (x14.trans (D5.x.trans x58))).drop u2).drop u1
 refine q s8 ⟨E8.P.fin P x8.r (two_has (E8.x.has (pos_has S7.at')) ((E4.x.trans (D5.x.trans x58).r).has (pos_has S3.at'))),x8,E8.cd (fun x h=>by cases h; exact add1) S7.cd,fun _ F X g st Go Y hst C w kp h=>?_⟩
 have Y7:=Y.of E8.x
 have Y6:=Y7.of S7.x
 have Y5:=Y6.of E6.x
 have Y4:=Y5.of D5.x.r
 have Y3:=Y4.of E4.x
 have Y2:=Y3.of S3.x
 have hag:F.pl ag=s3.code.length:=S3.pl Y3
 have x04:=x1.r.trans x14.r
 have hbh:∀ y w kp,s5.hit bh→Go .norm w kp→Rn F X (g+1) ⟨F.pl bh,y :: st,w,kp⟩:=fun y w kp h1 h=>by
  have hd7:=S7.op (.inl (E6.x.hit h1))
  rw [S7.pl Y7]
  refine .step (E8.at hd7 Y 0 _ rfl) ?_
  have key:=C.norm w kp _ ((E8.op hd7).2.1.trans (congrArg some add1)) h
  rw [E8.len hd7] at key
  exact key
 have key:∀ k i w kp,keyRounds [l] (cond iv 59 60) (exec b) k i w (fun r w'=>∀ kp',Agr s.locals kp kp'→Go (r.out l) w' kp')→Rn F X (g+k * (α+4)+2) ⟨s3.code.length,.k (keysL i k) :: st,w,kp⟩:=fun k=>by
  have a:=E4.at hd3 Y4
  induction k with
  | zero=>
   intro i w kp h
   rw [Nat.zero_mul]
   exact .step (g:=g+1) (a 0 _ rfl) (hbh _ w kp (D5.x.r.hit (E4.hit hd3 (.head _) rfl)) (h kp .refl))
  | succ k ih=>
   intro i w kp h
   refine (Rn.step (g:=g+k * (α+4)+3+α+2) (st:=.k (keysL i (k+1)) :: st) (w:=w) (kp:=kp) (a 0 _ rfl) ?_).le (by rw [Nat.succ_mul]; lia)
   show Rn F X (g+k * (α+4)+3+α+2) ⟨s3.code.length+1,.s (i+10) :: .k (keysL (i+1) k) :: st,w,kp⟩
   refine .step (a 1 _ rfl) (set_mono (fun w h=>.step (a 2 _ rfl) ?_) h)
   show Rn F X (g+k * (α+4)+3+α) ⟨s3.code.length+3,.k (keysL (i+1) k) :: st,w,kp⟩
   rw [← show s4.code.length=s3.code.length+3 from E4.len hd3]
   refine D5.sim hd4 F X (g+k * (α+4)+3) (.k (keysL (i+1) k) :: st) _ Y5 (by show ((st.length+1:Nat):Int)=wt ctl+1; rw [← hst]; rfl) (cx_keys (MA:=fun w kp=>Rn F X (g+k * (α+4)+2) ⟨F.pl ag,.k (keysL (i+1) k) :: st,w,kp⟩) C Y x04.len x58 (Nat.le_trans (Nat.le_add_right _ _) (Nat.le_add_right _ 3)) (hbh _) (fun w kp h=>h.le (Nat.le_add_right (g+k * (α+4)+2) 2)) fun w kp d hd5 h=>?_) w kp (exec_mono b _ _ _ (fun r w' h kp' A=>?_) h)
   ·exact .step (E6.at (cd_some cd5 hd5) Y6 0 _ rfl) h
   ·have A:=A.low x04.loc
    show match r.isEnd [l] with
     | true=>Go ((r.behind [l]).out l) w' kp'
     | false=>Rn F X (g+k * (α+4)+2) ⟨F.pl ag,.k (keysL (i+1) k) :: st,w',kp'⟩
    cases e:r.isEnd [l] <;> rw [e] at h
    ·rw [hag]
     exact ih (i+1) w' kp' (keys_mono (exec_mono b) k (i+1) _ _ _ (fun r w h kp2 A2=>h kp2 (A.trans A2 (Nat.le_refl _))) h)
    ·exact h kp' A
 have a:=E2.at hd1 Y2
 have h:w.get nm (fun v w=>v≤2∧keyRounds [l] (cond iv 59 60) (exec b) v 0 w fun r w'=>∀ kp',Agr s.locals kp kp'→Go (r.out l) w' kp') (fun f w'=>∀ kp',Agr s.locals kp kp'→Go (.thr f) w' kp'):=h
 rw [← c1]
 refine .load (g:=g+(2 * (α+4)+3)) (a 0 _ rfl) (get_mono (fun v w' h=>?_) (fun f w' h=>(C.thr f _ w' kp [.nn] ((E2.unc P1 hd1 Y2 (j:=0) (Nat.zero_lt_succ _)).wide x1.r.len ((R1.of S3.x S3.hs).trans ((R1.of E4.x E4.hs).trans (D5.x.trans x58))) Y) (h kp .refl)).le (Nat.le_add_right _ _)) h)
 have k1:=key v 0 w' kp h.2
 rw [S3.code,E2.len hd1] at k1
 exact .step (g:=g+(2 * (α+4)+2)) (a 1 _ rfl) ⟨h.1,k1.le (by rw [← Nat.add_assoc]; exact Nat.add_le_add_right (Nat.add_le_add_left (Nat.mul_le_mul_right _ h.1) g) 2)⟩
theorem cx_lab {kd:CK} {out:Res→Res} {ls:List Nat} (C:Cx F X ctl s s' st g Go) (Y:Ext F s') (y:s.code.length≤s1.code.length) (z:R1 L s1' s') (hk:kd=.label∨kd=.choice) (pb:F.pl bh=s'.code.length) (hb:s1'.hit bh→s'.depth=some (wt ctl)) (q:g≤g1)
  (h1:∀ o,(Ctl.mk kd ls bh ag).brkTo o=true→out (.brk o)=.norm) (h2:∀ r,r≠.norm→(Ctl.mk kd ls bh ag).takes r=false→out r=r) (hG:∀ r w kp,r≠.norm→Go1 r w kp→Go (out r) w kp) (norm:∀ w kp d,s1'.depth=some d→Go1 .norm w kp→Rn F X g1 ⟨s1'.code.length,st,w,kp⟩) :
  Cx F X (⟨kd,ls,bh,ag⟩ :: ctl) s1 s1' st g1 Go1:=
 C.cons z.r (Nat.le_refl _) (fun o w kp e h k=>by
   show Rn F X (g1+1) ⟨F.pl bh,st,w,kp⟩
   have k:=hG (.brk o) w kp (fun h=>nomatch h) k
   rw [h1 o e] at k
   rw [pb]
   exact (C.norm w kp _ (hb h) k).le (Nat.le_succ_of_le q))
  (fun o w kp e h k=>by rcases hk with rfl | rfl <;> cases e)
  (fun r p w kp e _ a h k=>by
   have hr:r≠.norm:=fun h=>by subst h; cases e
   have h:=hG r w kp hr h
   rw [h2 r hr e] at h
   have k:=k w kp .refl h
   rcases hk with rfl | rfl <;> exact k.le (Nat.le_trans (Nat.add_le_add_right q _) (Nat.le_add_right _ 2)))
  norm (fun v w kp hg h=>C.bare v w kp (by rcases hk with rfl | rfl <;> exact hg) (by have k:=hG (.ret v) w kp (fun h=>nomatch h) h; rw [h2 (.ret v) (fun h=>nomatch h) rfl] at k; exact k)) fun f p w kp e u h=>(C.thr f p w kp e (u.wide y z Y) (by have k:=hG (.thr f) w kp (fun h=>nomatch h) h; rw [h2 (.thr f) (fun h=>nomatch h) rfl] at k; exact k)).le q
theorem wt_lab:wt (⟨.label,ls,bh,ag⟩ :: ctl)=wt ctl:=Int.add_zero _
theorem k_blk (H:∀ bh,CO (comp b (⟨.label,[l],bh,0⟩ :: ctl)) z α (exec b) (⟨.label,[l],bh,0⟩ :: ctl)):CO (opC (.blk l b) ctl) (z+1) α (exec (.blk l b)) ctl:=co_open fun J m s K P hd q=>dep_of hd <| r_new (P:Pre J ctl (m+z+1) s) fun bh s1 N1=>by
 have hd1:=N1.dep.trans hd
 have x1:=R1.of N1.x N1.hs
 refine H bh _ m s1 _ (N1.P.more fun x hx=>List.mem_singleton.mp hx▸⟨free_dp N1.fr,.head _⟩) (cd_eq hd1 wt_lab.symm) fun s2 D2=>?_
 have cd2:CDep (wt ctl) s2:=wt_lab▸D2.cd
 refine r_stand (D2.P.fin N1.P D2.x.r fun _=>.inr) (D2.x.r.free N1.fr List.not_mem_nil) cd2 fun s3 S3=>?_
 have x23:=R1.of S3.x S3.hs
 have x3:R1 [] s s3:=(x1.trans (D2.x.trans x23)).drop N1.un
 refine q s3 ⟨S3.P.fin P x3.r (fun j hj=>(List.mem_cons.mp hj).elim (fun e=>.inl (e▸pos_has S3.at')) .inr),x3,S3.cd,fun _ F X g st Go Y hst C w kp h=>?_⟩
 rw [← N1.code]
 refine D2.sim (hd1.trans (congrArg some wt_lab.symm)) F X g st (fun r=>Go (r.out l)) (Y.of S3.x) (hst.trans wt_lab.symm) (cx_lab (out:=Res.out l) C Y x1.r.len x23 (.inl rfl) (S3.pl Y) (fun h=>S3.op (.inl h)) (Nat.le_refl _) (fun o e=>?_) (fun r hr e=>?_) (fun _ _ _ _=>id) fun w kp d hd2 h=>?_) w kp (ex_agr x1.r.loc h)
 ·cases o with
  | none=>cases e
  | some j=>
   have e:isIn j [l]=true:=e
   rw [isIn1] at e
   show (match Nat.beq j l with
    | true=>Res.norm
    | false=>.brk (some j))=_
   rw [e]
 ·cases r with
  | norm=>exact absurd rfl hr
  | brk o=>cases o with
   | none=>rfl
   | some j=>
    have e:isIn j [l]=false:=e
    rw [isIn1] at e
    show (match Nat.beq j l with
     | true=>Res.norm
     | false=>.brk (some j))=_
    rw [e]
  | con o=>rfl
  | ret v=>rfl
  | thr v=>rfl
 ·have key:=C.norm w kp _ (S3.op (.inr (cd_some cd2 hd2))) h
  rw [S3.code] at key
  exact key
end
end
section
structure Ts (J:List Nat) (ctl:List Ctl) (m:Nat) (d:Int) (t:Option Nm) (l:Nat) (s s':CS):Prop where
 P:Pre J ctl m s'
 x:R1 [] s s'
 hd:s'.depth=some (d+1)
 hit:isNo t=false→s'.hit l
 sim:∀ F X g st w kp v Y Fl,Ext F s'→clause v t w Y Fl→(isNo t=false→∀ w',Y true w'→Rn F X g ⟨F.pl l,st,w',kp⟩)→(∀ w',Y false w'→Rn F X g ⟨s'.code.length,.s v :: st,w',kp⟩)→(∀ p f w' e,Unc F s s' p→Fl f w'→Thr F X g p f (e++.s v :: st) w' kp)→Rn F X (g+6) ⟨s.code.length,.s v :: st,w,kp⟩
section
variable {L L2 J ls:List Nat} {s s' s1 s1':CS} {l p g g1 gA n m z z2 α β k bh ag:Nat} {d:Int} {F:Un} {ctl:List Ctl} {c:Ctl} {i:Ins} {is:List Ins} {X C:Kr} {st st1:List SV} {w:W} {kp kp':Kp} {Go Go1:Kg} {ex body:Ex} {a b r t:Tr} {nm sn:Nm} {K:Kc} {o t1 t2:Option Nm} {y:SV}
theorem beq_comm {x y:Nat}:Nat.beq x y=Nat.beq y x:=by
 cases e:Nat.beq y x with
 | true=>rw [Nat.eq_of_beq_eq_true e,Nat.beq_refl]
 | false=>exact beq_ne fun h=>Nat.ne_of_beq_eq_false e h.symm
theorem r_test (P:Pre J ctl (m+7) s) (hd:s.depth=some (d+1)) (hl:LabOk J s (l,d)) (k:∀ s',Ts J ctl m d o l s s'→K s'):testC d o l s K:=by
 cases o with
 | none=>exact k s ⟨P.le (Nat.le_add_right _ _),.refl,hd,(fun h=>nomatch h),fun F X g st w kp v Y Fl E h h1 h2 h3=>(h2 w h).le (Nat.le_add_right _ _)⟩
 | some nm=>
  refine r_new (P:Pre J ctl (m+6+1) s) fun la s1 N1=>?_
  have hd1:=N1.dep.trans hd
  refine r_emits [.dup,load nm,.seq,.jf la,.pop,.jmp l] (N1.P:Pre _ ctl (m+6) s1) (cd_eq hd1 rfl) (fits_n rfl rfl rfl (fits_load (fits_n rfl rfl add1 (fits_t rfl rfl add1 add1 ⟨free_dp N1.fr,.head _⟩ (fits_n rfl rfl add1 (fits_jmp (hl.to N1.x fun _ h=>.tail _ h))))))) fun s2 E2=>?_
  have cd2:CDep (d+1) s2:=E2.cd (fun x h=>by
   have h:depAt (d+1+1) (load nm :: [.seq,.jf la,.pop,.jmp l])=some x:=h
   rw [dep_load] at h; cases h) (cd_eq hd1 rfl)
  refine r_stand E2.P (E2.x.free N1.fr List.not_mem_nil) cd2 fun s3 S3=>k s3 ⟨?_,?_,?_,fun _=>?_,fun F X g st w kp v Y Fl E h h1 h2 h3=>?_⟩
  ·exact S3.P.fin P ((N1.x.trans (E2.x.trans S3.x))) fun j hj=>(List.mem_cons.mp hj).elim (fun e=>.inl (e▸pos_has S3.at')) .inr
  ·exact ((R1.of N1.x N1.hs).trans ((R1.of E2.x E2.hs).trans (.of S3.x S3.hs))).drop N1.un
  ·exact S3.op (.inl (E2.hit hd1 (.tail _ (.tail _ (.tail _ (.head _)))) rfl))
  ·exact S3.x.hit (E2.hit hd1 (i:=.jmp l) (.tail _ (.tail _ (.tail _ (.tail _ (.tail _ (.head _)))))) rfl)
  ·have E2':=E.of S3.x
   have a:=E2.at hd1 E2'
   rw [← N1.code]
   refine .step (g:=g+5) (a 0 _ rfl) (.load (g:=g+4) (a 1 _ rfl) (get_mono (fun x w' h=>.step (a 2 _ rfl) ?_) (fun f w' h=>?_) h))
   ·show Rn F X (g+3) ⟨s1.code.length+3,.s (cond (Nat.beq v x) 1 0) :: .s v :: st,w',kp⟩
    rw [beq_comm]
    cases e:Nat.beq x v <;> rw [e] at h
    ·refine .step (g:=g+2) (a 3 _ rfl) ?_
     show Rn F X (g+2) ⟨F.pl la,.s v :: st,w',kp⟩
     rw [S3.pl E]
     exact (h2 w' h).le (Nat.le_add_right _ _)
    ·exact .step (g:=g+2) (a 3 _ rfl) (.step (g:=g+1) (a 4 _ rfl) (.step (a 5 _ rfl) (h1 rfl w' h)))
   ·exact (h3 _ f w' [.nn,.s v] ((E2.unc N1.P hd1 E2' (j:=1) (Nat.le_add_left 2 4)).wide N1.x.len (.of S3.x S3.hs) E) h).le (Nat.le_add_right _ _)
theorem wt_choice:wt (⟨.choice,ls,bh,ag⟩ :: ctl)=wt ctl:=Int.add_zero _
theorem beh_nil {r:Res} (hr:r≠.norm) (e:(Ctl.mk .choice [] bh ag).takes r=false):r.behind []=r:=by
 cases r with
 | norm=>exact absurd rfl hr
 | brk o=>cases o with
  | none=>cases e
  | some j=>rfl
 | con o=>rfl
 | ret v=>rfl
 | thr v=>rfl
theorem beh_brk {o:Option Nat} (e:(Ctl.mk .choice [] bh ag).brkTo o=true):(Res.brk o).behind []=.norm:=by
 cases o with
 | none=>rfl
 | some j=>cases e
theorem sw_ix {b1 b2:Bool} {l2 bh:Nat} {R:Nat→Prop} (h1:R l) (h2:R l2) (h3:R bh):R (match b2 with
  | true=>l2
  | false=>(match b1 with
   | true=>l
   | false=>bh)):=by
 rcases b2 with _ | _
 ·rcases b1 with _ | _
  ·exact h3
  ·exact h1
 ·exact h2
theorem sw_end {l2 bh:Nat} {A1 A2 A3:Prop} {R:Nat→Prop} (hn:¬(t1=none∧t2=none)) (h:match isNo t1 with
  | true=>A1
  | false=>(match isNo t2 with
   | true=>A2
   | false=>A3)) (k1:A1→R l) (k2:A2→R l2) (k3:A3→R bh):R (match isNo t2 with
  | true=>l2
  | false=>(match isNo t1 with
   | true=>l
   | false=>bh)):=by
 rcases t1 with _ | _
 ·rcases t2 with _ | _
  ·exact absurd ⟨rfl,rfl⟩ hn
  ·exact k1 h
 ·rcases t2 with _ | _
  ·exact k2 h
  ·exact k3 h
theorem k_sw (hn:¬(t1=none∧t2=none)) (H1:∀ bh,CO (comp a (⟨.choice,[],bh,0⟩ :: ctl)) z α (exec a) (⟨.choice,[],bh,0⟩ :: ctl)) (H2:∀ bh,CO (comp b (⟨.choice,[],bh,0⟩ :: ctl)) z2 β (exec b) (⟨.choice,[],bh,0⟩ :: ctl)) :
  CO (opC (.sw nm t1 a t2 b) ctl) (z2+z+20) (β+α+15) (exec (.sw nm t1 a t2 b)) ctl:=co_open fun J m s K P hd q=>dep_of hd <|
 r_new2 (P:Pre J ctl (m+(z2+z)+18+2) s) fun bh l1 s0 P0 x0 f0 f1 ne0 u0 u1 c0 d0=>r_new (P0:Pre _ ctl (m+(z2+z)+17+1) s0) fun l2 s1 N1=>by
 have hd1:=N1.dep.trans (d0.trans hd)
 have x1:=x0.trans (.of N1.x N1.hs)
 have ok1:∀ {s' L},R0 L s1 s'→LabOk (l2 :: l1 :: bh :: J) s' (l1,wt ctl)∧LabOk (l2 :: l1 :: bh :: J) s' (l2,wt ctl)∧LabOk (l2 :: l1 :: bh :: J) s' (bh,wt ctl):=fun x=>⟨⟨x.dp (N1.x.dp (free_dp f1)),.tail _ (.head _)⟩,⟨x.dp (free_dp N1.fr),.head _⟩,x.dp (N1.x.dp (free_dp f0)),.tail _ (.tail _ (.head _))⟩
 refine r_emits [load nm] (N1.P:Pre _ ctl (m+(z2+z)+2+7+7+1) s1) (cd_eq hd1 rfl) (fits_load trivial) fun s2 E2=>?_
 have hd2:s2.depth=some (wt ctl+1):=(E2.op hd1).2.1.trans dep_load
 refine r_test E2.P hd2 (ok1 E2.x).1 fun s3 T3=>?_
 have x23:=E2.x.trans T3.x.r
 refine r_test T3.P T3.hd (ok1 x23).2.1 fun s4 T4=>?_
 have x14:=(R1.of E2.x E2.hs).trans (T3.x.trans T4.x)
 refine r_emits [.pop,.jmp _] (d:=wt ctl+1) T4.P (cd_eq T4.hd rfl) (fits_n rfl rfl add1 (fits_jmp ?_)) fun s5 E5=>?_
 ·exact sw_ix (R:=fun l=>LabOk _ s4 (l,wt ctl)) (ok1 x14.r).1 (ok1 x14.r).2.1 (ok1 x14.r).2.2
 have x15:=x14.trans (.of E5.x E5.hs)
 have cd5:CDep (wt ctl) s5:=E5.cd (fun x h=>nomatch h) (cd_eq T4.hd rfl)
 have ne1:=N1.ne f1
 have ne2:=N1.ne f0
 refine r_stand E5.P (x15.r.free (N1.x.free f1 List.not_mem_nil) List.not_mem_nil) cd5 fun s6 S6=>?_
 have x16:R1 [l1] s1 s6:=x15.trans (.of S6.x S6.hs)
 refine H1 bh _ (m+z2) s6 _ ((S6.P:Pre _ ctl (m+(z2+z)) s6).as.more fun x hx=>List.mem_singleton.mp hx▸(ok1 x16.r).2.2) (by rw [wt_choice]; exact S6.cd) fun s7 D7=>?_
 have x17:=x16.trans D7.x
 have cd7:CDep (wt ctl) s7:=wt_choice▸D7.cd
 refine r_stand (D7.P.fin S6.P D7.x.r fun _=>.inr) (x17.r.free N1.fr (ne_mem ne1.symm)) cd7 fun s8 S8=>?_
 have x18:R1 [l1,l2] s1 s8:=x17.trans (.of S8.x S8.hs)
 refine H2 bh _ m s8 _ (S8.P.more fun x hx=>List.mem_singleton.mp hx▸(ok1 x18.r).2.2) (by rw [wt_choice]; exact S8.cd) fun s9 D9=>?_
 have cd9:CDep (wt ctl) s9:=wt_choice▸D9.cd
 have x19:R1 [l1,l2] s1 s9:=x18.trans D9.x
 refine r_stand (D9.P.fin S8.P D9.x.r fun _=>.inr) (x19.r.free (N1.x.free f0 List.not_mem_nil) fun h=>by rcases List.mem_cons.mp h with h | h; exact ne0 h; exact ne2 (List.mem_singleton.mp h)) cd9 fun sA SA=>?_
 have x9A:R1 [bh] s9 sA:=.of SA.x SA.hs
 have x8A:R1 [bh] s8 sA:=D9.x.trans x9A
 have x7A:R1 [l2,bh] s7 sA:=(R1.of S8.x S8.hs).trans x8A
 have x5A:R1 [l1,l2,bh] s5 sA:=(R1.of S6.x S6.hs).trans (D7.x.trans x7A)
 have xA:R1 [] s sA:=(((x1.trans (x15.trans x5A)).drop u1).drop (x0.r.un N1.un)).drop u0
 refine q sA ⟨SA.P.fin P xA.r (three_has (pos_has SA.at') ((D7.x.trans x7A).r.has (pos_has S6.at')) (x8A.r.has (pos_has S8.at'))),xA,SA.cd,fun _ F X g st Go Y hst C w kp h=>?_⟩
 have Y9:=Y.of SA.x
 have Y8:=Y9.of D9.x.r
 have Y7:=Y8.of S8.x
 have Y6:=Y7.of D7.x.r
 have Y5:=Y6.of S6.x
 have Y4:=Y5.of E5.x
 have Y3:=Y4.of T4.x.r
 have Y2:=Y3.of T3.x.r
 have m2:∀ w kp,s8.depth=some (wt ctl)→endX (exec b) w (fun r w'=>∀ kp',Agr s.locals kp kp'→Go r w' kp')→Rn F X (g+β) ⟨s8.code.length,st,w,kp⟩:=fun w kp hd8 h=>by
  refine D9.sim (hd8.trans (congrArg some wt_choice.symm)) F X g st (fun r=>Go (r.behind [])) Y9 (hst.trans wt_choice.symm) (cx_lab (out:=Res.behind []) C Y (x1.r.trans x18.r).len x9A (.inr rfl) (SA.pl Y) (fun h=>SA.op (.inl h)) (Nat.le_refl _) (fun o e=>beh_brk e) (fun r hr e=>beh_nil hr e) (fun _ _ _ _=>id) fun w kp d hd9 h=>?_) w kp (ex_agr (x1.r.trans x18.r).loc h)
  have key:=C.norm w kp _ (SA.op (.inr (cd_some cd9 hd9))) h
  rw [SA.code] at key
  exact key
 have m1:∀ w kp,s6.depth=some (wt ctl)→thenX (exec a) (exec b) w (fun r w'=>∀ kp',Agr s.locals kp kp'→Go r w' kp')→Rn F X (g+β+α) ⟨s6.code.length,st,w,kp⟩:=fun w kp hd6 h=>by
  refine D7.sim (hd6.trans (congrArg some wt_choice.symm)) F X (g+β) st (fun r w kp=>match r with
   | .norm=>endX (exec b) w fun r w'=>∀ kp',Agr s.locals kp kp'→Go r w' kp'
   | r=>Go (r.behind []) w kp) Y7 (hst.trans wt_choice.symm) (cx_lab (out:=Res.behind []) C Y (x1.r.trans x16.r).len x7A (.inr rfl) (SA.pl Y) (fun h=>SA.op (.inl (D9.x.r.hit (S8.x.hit h)))) (Nat.le_add_right _ _) (fun o e=>beh_brk e) (fun r hr e=>beh_nil hr e) (fun r w kp hr h=>by cases r; exact absurd rfl hr; all_goals exact h) fun w kp d hd7 h=>?_) w kp (exec_mono a _ _ _ (fun r w' h kp' A=>?_) h)
  ·have key:=m2 w kp (S8.op (.inr (cd_some cd7 hd7))) h
   rw [S8.code] at key
   exact key
  ·have A:=A.low (x1.r.trans x16.r).loc
   cases r
   case norm=>exact end_mono (exec_mono b) _ _ _ (fun r w' h kp2 A2=>h kp2 (A.trans A2 (Nat.le_refl _))) h
   all_goals exact h kp' A
 have p1:F.pl l1=s6.code.length:=S6.pl Y6
 have p2:F.pl l2=s8.code.length:=S8.pl Y8
 have flt:∀ {sa sb:CS} {p f w' e},s.code.length≤sa.code.length→R1 [] sb s5→Unc F sa sb p→(∀ kp',Agr s.locals kp kp'→Go (.thr f) w' kp')→Thr F X g p f (e++st) w' kp:=fun hy hz u h=>C.thr _ _ _ kp _ (u.wide hy (hz.trans x5A) Y) (h kp .refl)
 rw [← c0,← N1.code]
 have x45:=R1.of E5.x E5.hs
 refine .load (g:=g+(β+α+14)) (E2.at hd1 Y2 0 _ rfl) (get_mono (fun v w1 h=>?_) (fun f w' h=>(flt x1.r.len ((T3.x.trans T4.x).trans x45) (E2.unc N1.P hd1 Y2 (j:=0) (Nat.zero_lt_succ _)) h (e:=[.nn])).le (Nat.le_add_right _ _)) h)
 show Rn F X (g+(β+α+8)+6) ⟨s1.code.length+1,.s v :: st,w1,kp⟩
 rw [← show s2.code.length=s1.code.length+1 from E2.len hd1]
 refine T3.sim F X _ st w1 kp v _ _ Y3 h (fun hn w2 h=>?_) (fun w2 h=>?_) fun p f w' e u h=>?_
 ·rw [p1]
  exact (m1 w2 kp (S6.op (.inl (E5.x.hit (T4.x.r.hit (T3.hit hn))))) h).le (by lia)
 ·refine T4.sim F X (g+(β+α+2)) st w2 kp v _ _ Y4 h (fun hn w3 h=>?_) (fun w3 h=>?_) fun p f w' e u h=>?_
  ·rw [p2]
   exact (m2 w3 kp (S8.op (.inl (D7.x.r.hit (S6.x.hit (E5.x.hit (T4.hit hn)))))) h).le (by lia)
  ·have a5:=E5.at T4.hd Y5
   refine .step (g:=g+(β+α+1)) (a5 0 _ rfl) (.step (g:=g+(β+α)) (a5 1 _ rfl) ?_)
   refine sw_end (R:=fun l=>s5.hit l→Rn F X (g+(β+α)) ⟨F.pl l,st,w3,kp⟩) hn h (fun h hh=>?_) (fun h hh=>?_) (fun h hh=>?_) (E5.hit T4.hd (.tail _ (.head _)) rfl)
   ·rw [p1]
    exact (m1 w3 kp (S6.op (.inl hh)) h).le (Nat.le_of_eq (Nat.add_assoc _ _ _))
   ·rw [p2]
    exact (m2 w3 kp (S8.op (.inl (D7.x.r.hit (S6.x.hit hh)))) h).le (Nat.add_le_add_left (Nat.le_add_right _ _) _)
   ·rw [SA.pl Y]
    exact (C.norm w3 kp _ (SA.op (.inl (D9.x.r.hit (S8.x.hit (D7.x.r.hit (S6.x.hit hh)))))) (h kp .refl)).le (Nat.le_add_right _ _)
  ·have key:=flt (x1.r.trans x23).len x45 u h (e:=e++[.s v])
   rw [List.append_assoc] at key
   exact key.le (Nat.le_add_right _ _)
 ·have key:=flt (x1.r.trans E2.x).len (T4.x.trans x45) u h (e:=e++[.s v])
  rw [List.append_assoc] at key
  exact key.le (Nat.le_add_right _ _)
end
end
section
structure Hn (J:List Nat) (ctl:List Ctl) (m:Nat) (h:Hd) (d:Int) (s s':CS):Prop where
 P:Pre J ctl m s'
 x:R0 [h.goal] s s'
 at':s'.pos h.goal s.code.length
 code:s'.code=s.code
 dep:s'.depth=some d
 hs:s'.hs=s.hs++[h]
section
variable {L L2 J ls:List Nat} {s s' s0 s1 s1':CS} {l p q' g g1 gA n m z z2 α β k bh ag rest fin:Nat} {d e':Int} {F:Un} {ctl:List Ctl} {c:Ctl} {i:Ins} {is:List Ins} {X C:Kr} {st st1:List SV} {w:W} {kp kp':Kp} {Go Go1:Kg} {ex body:Ex} {a b r t:Tr} {nm sn:Nm} {K:Kc} {o t1 t2:Option Nm} {y:SV} {h:Hd} {hl hc:Bool}
theorem find_app {pl:Nat→Nat}:∀ {a b:List Hd},findH pl p (a++b)=match findH pl p a with
  | none=>findH pl p b
  | some h=>some h
 | [],_=>rfl
 | x :: a,b=>by
  show (match Nat.ble (pl x.start) p&&Nat.blt p (pl x.stop) with
   | true=>some x
   | false=>findH pl p (a++b))=match (match Nat.ble (pl x.start) p&&Nat.blt p (pl x.stop) with
   | true=>some x
   | false=>findH pl p a) with
   | none=>findH pl p b
   | some h=>some h
  cases Nat.ble (pl x.start) p&&Nat.blt p (pl x.stop)
  ·exact find_app (a:=a)
  ·rfl
theorem find_one {pl:Nat→Nat}:findH pl p [h]=match Nat.ble (pl h.start) p&&Nat.blt p (pl h.stop) with
  | true=>some h
  | false=>none:=rfl
theorem find_not {pl:Nat→Nat} (q:p < pl h.start∨pl h.stop≤p):findH pl p [h]=none:=by
 rw [find_one]
 have:(Nat.ble (pl h.start) p&&Nat.blt p (pl h.stop))=false:=by
  rcases q with q | q
  ·have:Nat.ble (pl h.start) p=false:=by
    cases e:Nat.ble (pl h.start) p with
    | false=>rfl
    | true=>exact absurd (Nat.le_of_ble_eq_true e) (Nat.not_le_of_lt q)
   rw [this]; rfl
  ·have:Nat.blt p (pl h.stop)=false:=by
    cases e:Nat.blt p (pl h.stop) with
    | false=>rfl
    | true=>exact absurd (Nat.le_of_ble_eq_true e) (Nat.not_le_of_lt (Nat.lt_succ_of_le q))
   rw [this,Bool.and_false]
 rw [this]
theorem find_yes {pl:Nat→Nat} (q1:pl h.start≤p) (q2:p < pl h.stop):findH pl p [h]=some h:=by
 rw [find_one,Nat.ble_eq_true_of_le q1,show Nat.blt p (pl h.stop)=true from Nat.ble_eq_true_of_le q2]; rfl
theorem r_hand (P:Pre J ctl (m+1) s) (hd:s.depth=none) (hf:s.free h.goal d) {u v:Nat} (h1:s.pos h.start u) (h2:s.pos h.stop v) (hv:v≤s.code.length) (k:∀ s',Hn J ctl m h d s s'→K s'):s.handler h fun s=>s.enter h.goal d K:=by
 unfold CS.handler
 refine ⟨?_,?_⟩
 ·refine Nat.lt_of_lt_of_le (Nat.lt_succ_of_le ?_) P.room
  exact Nat.le_trans (Nat.le_add_left _ _) (Nat.le_add_right _ m)
 have P1:Pre J ctl m s:=P.le (Nat.le_succ m)
 unfold CS.enter
 unfold CS.meet
 obtain ⟨b,e,h3,h4⟩:=hf
 show match s.labels[h.goal]? with
  | none=>False
  | some b=>b.dep=d∧CS.stand ⟨s.code,s.labels.set h.goal ⟨b.dep,true,b.pos⟩,s.depth,s.hs++[h],s.locals⟩ h.goal K
 rw [e]
 refine ⟨h3,?_⟩
 unfold CS.stand
 rw [hd]
 unfold CS.place
 have e2:(s.labels.set h.goal ⟨b.dep,true,b.pos⟩)[h.goal]?=some ⟨b.dep,true,b.pos⟩:=get_set (o:=none) e
 show match (s.labels.set h.goal ⟨b.dep,true,b.pos⟩)[h.goal]? with
  | none=>False
  | some b'=>b'.pos=none∧K ⟨s.code,(s.labels.set h.goal ⟨b.dep,true,b.pos⟩).set h.goal ⟨b'.dep,b'.reached,some s.code.length⟩,(match b'.reached with
   | true=>some b'.dep
   | false=>none),s.hs++[h],s.locals⟩
 rw [e2]
 refine ⟨h4,k _ ?_⟩
 show Hn J ctl m h d s ⟨s.code,(s.labels.set h.goal ⟨b.dep,true,b.pos⟩).set h.goal ⟨b.dep,true,some s.code.length⟩,some b.dep,s.hs++[h],s.locals⟩
 rw [List.set_set,h3]
 have y:=lb_set (L:=[h.goal]) (y:=⟨d,true,some s.code.length⟩) (o:=some d) e ⟨h3.symm,fun _=>rfl,fun _ q=>(nomatch (h4.symm.trans q)),fun q=>absurd (.head _) q⟩
 have at':CS.pos ⟨s.code,s.labels.set h.goal ⟨d,true,some s.code.length⟩,some d,s.hs,s.locals⟩ h.goal s.code.length:=⟨_,get_set (o:=some d) e,rfl⟩
 have P2:Pre J ctl m ⟨s.code,s.labels.set h.goal ⟨d,true,some s.code.length⟩,some d,s.hs,s.locals⟩:=P1.to (k:=0) y rfl size_set (fun _=>id) fun _ q=>.inl q
 refine ⟨⟨?_,P2.plc,fun G E p hp=>?_,fun x hx=>?_,P2.ctl,P2.loc⟩,⟨y.code,y.lab,⟨[h],rfl⟩,y.loc⟩,at',rfl,rfl,rfl⟩
 ·refine Nat.le_trans (Nat.le_of_eq ?_) P.room
  show s.code.length+(s.labels.set _ _).length+(s.hs++[h]).length+m=s.code.length+s.labels.length+s.hs.length+(m+1)
  rw [List.length_set,List.length_append,show [h].length=1 from rfl]; lia
 ·show findH G.pl p (s.hs++[h])=none
  have E2:Ext G s:=⟨E.code,fun l p h=>E.pl l p (y.pos h),by obtain ⟨r,h⟩:=E.hs; exact ⟨[_]++r,fun p=>(h p).trans (congrArg _ (List.append_assoc _ _ _))⟩⟩
  rw [find_app,P1.hok G E2 p hp]
  exact find_not (.inr (by rw [E2.pl _ _ h2]; exact Nat.le_trans hv hp))
 ·rcases List.mem_append.mp hx with hx | hx
  ·exact P2.hpl x hx
  ·cases List.mem_singleton.mp hx; exact ⟨pos_has (y.pos h1),pos_has (y.pos h2),pos_has at'⟩
theorem Hn.cum (H:Hn J ctl m h d s s') (x:R1 L s0 s) {u:Nat} (h1:s.pos h.start u) (hu:s0.code.length≤u):R1 (L++[h.goal]) s0 s':=⟨x.r.trans H.x,fun F p E hp e=>by
 have E1:=E.of H.x
 rw [H.hs,find_app,x.fn F p E1 hp e]
 exact find_not (.inl (by rw [E1.pl _ _ h1]; exact Nat.lt_of_lt_of_le hp hu))⟩
theorem wt_g:wt (gCtl hl rest ctl)=wt ctl:=by
 induction hl using Bool.casesOn
 ·rfl
 ·exact Int.add_zero _
theorem close_none:depAt d (closeG hl rest fin)=none:=by induction hl using Bool.casesOn <;> rfl
theorem close_fits (h1:hl=true→LabOk J s (rest,d+2)) (h2:LabOk J s (fin,d)):Fits J s d (closeG hl rest fin):=by
 induction hl using Bool.casesOn
 ·exact fits_jmp h2
 ·exact fits_t rfl rfl (Int.add_zero _) rfl (h1 rfl) (fits_jmp h2)
theorem close_len:(closeG hl rest fin).length≤2:=by
 induction hl using Bool.casesOn
 ·exact Nat.le_succ _
 ·exact Nat.le_refl _
structure La (J:List Nat) (ctl:List Ctl) (m:Nat) (hl:Bool) (t:Tr) (α rest start:Nat) (s s':CS):Prop where
 P:Pre J ctl m s'
 x:R0 [rest] s s'
 dep:s'.depth=none
 tr:hl=true→∀ C:Prop,(∀ {stop s1 s2 s3 m' m2},Mk J ctl m' s stop s1→Hn J ctl m2 ⟨start,stop,rest,wt ctl,true⟩ (wt ctl+2) s1 s2→R1 [] s2 s3→CDep (wt ctl+2) s3→Sim α (exec t) (⟨.fin,[],0,0⟩ :: ctl) s2 s3→Pre J ctl (m+1) s3→Em J ctl m (wt ctl+2) [.retsub] s3 s'→C)→C
 fa:hl=false→s'=s
theorem r_last {u:Nat} (H:CO (comp t (⟨.fin,[],0,0⟩ :: ctl)) z α (exec t) (⟨.fin,[],0,0⟩ :: ctl)) (P:Pre J ctl (m+(1+z)+2) s) (hd:s.depth=none) (hf:s.free rest (wt ctl+2)) {start:Nat} (h1:s.pos start u)
  (k:∀ s',La J ctl m hl t α rest start s s'→K s'):ifC hl (lastC (comp t (⟨.fin,[],0,0⟩ :: ctl)) rest start (wt ctl)) s K:=by
 induction hl using Bool.casesOn with
 | false=>exact k s ⟨P.le (Nat.le_trans (Nat.le_add_right _ _) (Nat.le_add_right _ 2)),.refl,hd,(fun h=>nomatch h),fun _=>rfl⟩
 | true=>
  refine r_mark (P:Pre J ctl (m+(1+z)+1+1) s) fun stop s1 M=>?_
  refine r_hand (h:=⟨start,stop,rest,wt ctl,true⟩) M.P (M.dep.trans hd) (M.x.free hf List.not_mem_nil) (M.x.pos h1) M.at' (by rw [M.code]; exact Nat.le_refl _) fun s2 N=>?_
  refine H _ (m+1) s2 _ (N.P.as.more fun x h=>nomatch h) (cd_eq N.dep rfl) fun s3 D=>?_
  have cd3:CDep (wt ctl+2) s3:=D.cd
  have P3:Pre J ctl (m+1) s3:=D.P.fin N.P D.x.r fun _=>.inr
  refine r_emits [.retsub] P3 cd3 ⟨fun _ h=>(nomatch h),.inl rfl,trivial⟩ fun s4 E=>k s4 ⟨E.P,M.x.trans (N.x.trans (D.x.r.trans E.x)),?_,fun _ _ k=>k M N D.x cd3 (D.sim N.dep) P3 E,fun h=>nomatch h⟩
  cases e:s3.depth with
  | none=>exact (E.cl e).2
  | some d=>obtain rfl:=cd3 d e; exact (E.op e).2.1
end
end
section
structure Ca (J:List Nat) (ctl:List Ctl) (m:Nat) (em hl:Bool) (t:Tr) (α rest fin start stop:Nat) (s s':CS):Prop where
 P:Pre J ctl m s'
 x:R0 [] s s'
 dep:s'.depth=none
 tr:em=true→∀ C:Prop,(∀ {ha s1 s2 s3 s4 J' m1 m2 m3 m4},Nw J ctl m1 (wt ctl+1) s ha s1→Hn J' ctl m2 ⟨start,stop,ha,wt ctl,false⟩ (wt ctl+1) s1 s2→Em J' ctl m3 (wt ctl+1) [.setloc 9,.pop] s2 s3→s3.depth=some (wt ctl)→R1 [] s3 s4→CDep (wt ctl) s4→Sim α (exec t) (gCtl hl rest ctl) s3 s4→Em J' ctl m4 (wt ctl) (closeG hl rest fin) s4 s'→C)→C
 fa:em=false→s'=s
noncomputable def goF (hl:Bool) (l:Tr) (n:Nat) (Go:Kg):Kg:=fun r w kp=>lastX hl (exec l) r w fun r' w'=>∀ kp',Agr n kp kp'→Go r' w' kp'
noncomputable def FinR (F:Un) (X:Kr) (st:List SV) (g:Nat) (Go:Kg) (t:Tr) (α n rest pR:Nat) (op:Prop):Prop:=∀ g1 q0 v w kp,g≤g1→(exec t w fun r' w'=>∀ kp',Agr n kp kp'→match r' with
  | .norm=>op→Rn F X g1 ⟨pR,.i q0 :: .s v :: st,w',kp'⟩
  | r'=>Go r' w' kp')→Rn F X (g1+α) ⟨F.pl rest,.i q0 :: .s v :: st,w,kp⟩
section
variable {L L2 J ls:List Nat} {s s' s0 s1 s1' s2 s3:CS} {l p pR g g1 gA n m z z2 α β k bh ag rest fin start stop u v:Nat} {d e':Int} {F:Un} {ctl:List Ctl} {c:Ctl} {i:Ins} {is:List Ins} {X C:Kr} {st st1:List SV} {w:W} {kp kp':Kp} {Go Go1:Kg} {ex body:Ex} {a b r t:Tr} {nm sn:Nm} {K:Kc} {o t1 t2:Option Nm} {y:SV} {h:Hd} {hl hc em:Bool} {op:Prop}
theorem pre_g (P:Pre J ctl m s) (h:hl=true→LabOk J s (rest,wt ctl+2)):Pre J (gCtl hl rest ctl) m s:=by
 induction hl using Bool.casesOn
 ·exact P
 ·exact P.more fun x hx=>List.mem_singleton.mp hx▸h rfl
theorem r_catch (H:CO (comp t (gCtl hl rest ctl)) z α (exec t) (gCtl hl rest ctl)) (P:Pre J ctl (m+(2+z)+4) s) (hd:s.depth=none) (h1:hl=true→LabOk J s (rest,wt ctl+2)) (h2:LabOk J s (fin,wt ctl)) (p1:s.pos start u) (p2:s.pos stop v) (hv:v≤s.code.length)
  (k:∀ s',Ca J ctl m em hl t α rest fin start stop s s'→K s'):ifC em (catchC (comp t (gCtl hl rest ctl)) hl rest fin start stop (wt ctl)) s K:=by
 induction em using Bool.casesOn with
 | false=>exact k s ⟨P.le (Nat.le_trans (Nat.le_add_right _ _) (Nat.le_add_right _ 4)),.refl,hd,(fun h=>nomatch h),fun _=>rfl⟩
 | true=>
  refine r_new (P:Pre J ctl (m+(2+z)+3+1) s) fun ha s1 N=>?_
  refine r_hand (h:=⟨start,stop,ha,wt ctl,false⟩) (N.P:Pre _ ctl (m+(2+z)+2+1) s1) (N.dep.trans hd) N.fr (N.x.pos p1) (N.x.pos p2) (by rw [N.code]; exact hv) fun s2 M=>?_
  refine r_emits [.setloc 9,.pop] (M.P:Pre _ ctl (m+(2+z)+2) s2) (cd_eq M.dep rfl) (fits_n rfl rfl (Int.add_zero _) (fits_n rfl rfl add1 trivial)) fun s3 E=>?_
  have hd3:s3.depth=some (wt ctl):=(E.op M.dep).2.1.trans (congrArg some (by show wt ctl+1+0+-1=_; lia))
  have x13:R0 [ha] s s3:=N.x.trans (M.x.trans E.x)
  refine H _ (m+2) s3 _ (pre_g E.P.as (fun q=>(h1 q).to x13 fun _=>.tail _)) (by rw [wt_g]; exact cd_eq hd3 rfl) fun s4 D=>?_
  have cd4:CDep (wt ctl) s4:=wt_g (hl:=hl) (rest:=rest)▸D.cd
  have x14:=x13.trans D.x.r
  refine r_emits (closeG hl rest fin) ((D.P.fin E.P D.x.r fun _=>.inr).le (Nat.add_le_add_left close_len m)) cd4 (close_fits (fun q=>(h1 q).to x14 fun _=>.tail _) (h2.to x14 fun _=>.tail _)) fun s5 E5=>k s5 ⟨?_,(x14.trans E5.x).drop N.un,?_,fun _ _ k=>k N M E hd3 D.x cd4 (D.sim (hd3.trans (congrArg some wt_g.symm))) E5,fun h=>nomatch h⟩
  ·exact E5.P.fin P (x14.trans E5.x) fun j hj=>(List.mem_cons.mp hj).elim (fun e=>.inl (e▸(E.x.trans (D.x.r.trans E5.x)).has (pos_has M.at'))) .inr
  ·cases e:s4.depth with
   | none=>exact (E5.cl e).2
   | some d=>obtain rfl:=cd4 d e; exact (E5.op e).2.1.trans close_none
theorem fin_back (R:FinR F X st g Go t α n rest pR op) (hR:op→F.code[pR]?=some .retsub) (c:F.code[p]?=some (.gosub rest)) {r:Res} (h:goF true t n Go r w kp) (hg:g≤g1+1) (k:∀ w' kp',Agr n kp kp'→Go r w' kp'→Rn F X g1 ⟨p+1,st,w',kp'⟩):Rn F X (g1+1+α+1) ⟨p,st,w,kp⟩:=by
 refine .step c (R (g1+1) (p+1:Nat) 70 w kp hg (exec_mono t _ _ _ (fun r' w' h kp' A=>?_) h))
 induction r' using Res.casesOn
 case norm=>exact fun o=>.step (hR o) (k w' kp' A (h kp' A))
 all_goals exact h kp' A
theorem fin_thr (R:FinR F X st g Go t α n rest pR op) (hR:op→F.code[pR]?=some .retsub) (hst:(st.length:Int)=wt ctl) {f:Nat} {e:List SV} (hf:findH F.pl p F.hs=some ⟨start,stop,rest,wt ctl,true⟩) (h:goF true t n Go (.thr f) w kp) (k:∀ w' kp',op→Go (.thr f) w' kp'→Thr F X g pR f st w' kp'):Thr F X (g+1+α) p f (e++st) w kp:=by
 unfold Thr
 rw [hf]
 refine ⟨by show 0≤wt ctl; rw [← hst]; exact Int.natCast_nonneg _,?_⟩
 have e1:(e++st).drop ((e++st).length - (wt ctl).toNat)=st:=by
  rw [← hst,List.length_append,Int.toNat_natCast,Nat.add_sub_cancel,List.drop_left]
 show Rn F X (g+1+α) ⟨F.pl rest,.i (-1) :: .s f :: (e++st).drop ((e++st).length - (wt ctl).toNat),w,kp⟩
 rw [e1]
 refine R (g+1) (-1) f w kp (Nat.le_succ g) (exec_mono t _ _ _ (fun r' w' h kp' A=>?_) h)
 induction r' using Res.casesOn
 case norm=>exact fun o=>.step (hR o) (k w' kp' o (h kp' A))
 all_goals exact h kp' A
theorem catch_st {f:Nat} {e:List SV} {ha:Nat} (hst:(st.length:Int)=wt ctl) (hf:findH F.pl p F.hs=some ⟨start,stop,ha,wt ctl,false⟩) (h:Rn F X g ⟨F.pl ha,.s f :: st,w,kp⟩):Thr F X g p f (e++st) w kp:=by
 unfold Thr
 rw [hf]
 refine ⟨by show 0≤wt ctl; rw [← hst]; exact Int.natCast_nonneg _,?_⟩
 have e1:(e++st).drop ((e++st).length - (wt ctl).toNat)=st:=by
  rw [← hst,List.length_append,Int.toNat_natCast,Nat.add_sub_cancel,List.drop_left]
 show Rn F X g ⟨F.pl ha,.s f :: (e++st).drop ((e++st).length - (wt ctl).toNat),w,kp⟩
 rw [e1]; exact h
theorem fin_run (C:Cx F X ctl s s' st g Go) (Y:Ext F s') (hst:(st.length:Int)=wt ctl) (S:Sim α (exec t) (⟨.fin,[],0,0⟩ :: ctl) s2 s3) (y:s.code.length≤s2.code.length) (z:R1 L s3 s') (hp:F.pl rest=s2.code.length) (hn:n≤s2.locals):FinR F X st g Go t α n rest s3.code.length (∃ d,s3.depth=some d):=fun g1 q0 v w kp hg h=>by
 rw [hp]
 refine S F X g1 (.i q0 :: .s v :: st) (fun r w kp=>match r with
  | .norm=>(∃ d,s3.depth=some d)→Rn F X g1 ⟨s3.code.length,.i q0 :: .s v :: st,w,kp⟩
  | r=>Go r w kp) (Y.of z.r) (by show ((st.length+1+1:Nat):Int)=wt ctl+2; rw [← hst]; rfl) (C.cons z.r (Nat.le_refl _) (fun o w kp e _ _=>by induction o using Option.casesOn <;> cases e) (fun o w kp e _ _=>by cases e) (fun r p w kp e _ a h k=>?_) (fun w kp d hd h=>h ⟨d,hd⟩) (fun v w kp hg h=>C.bare v w kp hg h) fun f p w kp e u h=>?_) w kp (exec_mono t _ _ _ (fun r' w' h kp' A=>h kp' (A.low hn)) h)
 ·have hG:Go r w kp:=by cases r; cases e; all_goals exact h
  exact (Rn.step (st:=.i q0 :: .s v :: st) (w:=w) (kp:=kp) (a 0 _ rfl) (Rn.step (st:=.s v :: st) (w:=w) (kp:=kp) (a 1 _ rfl) (k w kp .refl hG))).le (Nat.add_le_add_right (Nat.add_le_add_right hg _) 2)
 ·have key:=(C.thr f p w kp (e++[.i q0,.s v]) (u.wide y z Y) h).le hg
  rw [List.append_assoc] at key
  exact key
end
end
section
section
variable {L L2 J ls:List Nat} {s s' s0 s1 s1' s2 s3:CS} {l p pR g g1 gA n m z1 z2 z3 α β γ k bh ag rest fin start stop u v:Nat} {d e':Int} {F:Un} {ctl:List Ctl} {is:List Ins} {X C:Kr} {st st1:List SV} {w:W} {kp kp':Kp} {Go Go1:Kg} {ex body:Ex} {a b c r t:Tr} {nm sn:Nm} {K:Kc} {y:SV} {h:Hd} {hl hc em:Bool} {op:Prop}
theorem last_mono {K K':Kr} {r:Res} (h:∀ r w,K r w→K' r w) (c:lastX hl (exec t) r w K):lastX hl (exec t) r w K':=by
 cases hl
 ·exact h _ _ c
 ·exact exec_mono t _ _ _ (fun r' w' c=>by cases r' <;> exact h _ _ c) c
set_option tactic.hygienic true in
theorem caught_mono {K K':Kr} {r:Res} (h:∀ r w,K r w→K' r w) (q:caughtX hc (exec t) r w K):caughtX hc (exec t) r w K':=by
 cases r
 case thr f=>
  cases hc
  ·exact h _ _ q
  ·exact exec_mono t _ _ _ h q
 all_goals exact h _ _ q
theorem cx_g (C:Cx F X ctl s s' st g Go) (z:R0 L s1' s') (hn:s1'.locals≤n) (R:hl=true→FinR F X st g Go t α n rest pR op) (hR:op→F.code[pR]?=some .retsub)
  (hG:∀ r w kp,r≠.norm→(∀ f,r≠.thr f)→Go1 r w kp→goF hl t n Go r w kp) (q:g+α+3≤g1) (norm:∀ w kp d,s1'.depth=some d→Go1 .norm w kp→Rn F X g1 ⟨s1'.code.length,st,w,kp⟩)
  (thr:∀ f p w kp e,Unc F s1 s1' p→Go1 (.thr f) w kp→Thr F X g1 p f (e++st) w kp):Cx F X (gCtl hl rest ctl) s1 s1' st g1 Go1:=by
 cases hl with
 | false=>
  have q:g+ec ctl≤g1+ec ctl:=Nat.add_le_add_right (Nat.le_trans (Nat.le_trans (Nat.le_add_right g α) (Nat.le_add_right _ 3)) q) _
  exact ⟨norm,fun l p w kp h k=>(C.brk l p w kp (exit_mono (fun _ h=>⟨h.1,h.2.to z⟩) h) (hG (.brk l) w kp (fun h=>nomatch h) (fun _ h=>nomatch h) k kp .refl)).le q,
   fun l p w kp h k=>(C.con l p w kp (exit_mono (fun _ h=>⟨h.1,h.2.to z⟩) h) (hG (.con l) w kp (fun h=>nomatch h) (fun _ h=>nomatch h) k kp .refl)).le q,
   fun k v p w kp h h9 hk e o=>(C.ret k v p w kp h h9 (Nat.lt_of_lt_of_le hk z.loc) e (hG (.ret v) w kp (fun h=>nomatch h) (fun _ h=>nomatch h) o kp .refl)).le q,
   fun v w kp h o=>C.bare v w kp h (hG (.ret v) w kp (fun h=>nomatch h) (fun _ h=>nomatch h) o kp .refl),thr⟩
 | true=>
  refine C.cons z hn (fun o w kp e _ _=>by cases o <;> cases e) (fun o w kp e _ _=>by cases e) (fun r p w kp e hr a h k=>?_) norm (fun v w kp hg h=>nomatch hg) thr
  exact (fin_back (g1:=g+ec ctl) (R rfl) hR (a 0 _ rfl) (hG r w kp (fun h=>by subst h; cases e) hr h) (Nat.le_trans (Nat.le_add_right _ _) (Nat.le_succ _)) k).le (by lia)
theorem close_ok (E:Em J ctl m d (closeG hl rest fin) s1 s1') (hd:s1.depth=some d) (Y:Ext F s1') (R:hl=true→FinR F X st g Go t α n rest pR op) (hR:op→F.code[pR]?=some .retsub) (h:goF hl t n Go .norm w kp)
  (kf:s1'.hit fin→∀ w kp,Go .norm w kp→Rn F X g ⟨F.pl fin,st,w,kp⟩):Rn F X (g+α+3) ⟨s1.code.length,st,w,kp⟩:=by
 cases hl with
 | false=>exact (Rn.step (E.at hd Y 0 _ rfl) (kf (E.hit hd (.head _) rfl) w kp (h kp .refl))).le (by lia)
 | true=>exact (fin_back (g1:=g+1) (R rfl) hR (E.at hd Y 0 _ rfl) h (Nat.le_add_right _ 2) fun w' kp' _ h=>.step (E.at hd Y 1 _ rfl) (kf (E.hit hd (.tail _ (.head _)) rfl) w' kp' h)).le (by lia)
theorem bool_or:∀ b:Bool,b=true∨b=false
 | true=>.inl rfl
 | false=>.inr rfl
theorem no_b {p:Prop} {b:Bool} (h:b=false) (h2:b=true):p:=nomatch h.symm.trans h2
theorem find_at {pre:List Hd} {hd:Hd} (E:Ext F s) (e:s.hs=pre++[hd]) (hn:findH F.pl p pre=none) (q1:F.pl hd.start≤p) (q2:p < F.pl hd.stop):findH F.pl p F.hs=some hd:=by
 obtain ⟨r,h⟩:=E.hs
 rw [h,e,List.append_assoc,find_app,hn,find_app]
 show (match findH F.pl p [hd] with
  | none=>findH F.pl p r
  | some h=>some h)=_
 rw [find_yes q1 q2]
theorem R1.none (x:R1 L s s') (h:∀ j∈L,s.labels[j]?=none):R1 [] s s':=by
 induction L with
 | nil=>exact x
 | cons l L ih=>exact ih (x.drop (h l (.head _))) fun j hj=>h j (.tail _ hj)
noncomputable def rJ (hl:Bool) (rest:Nat) (J:List Nat):List Nat:=match hl with
 | true=>rest :: J
 | false=>J
theorem mem_rJ (h:l∈J):l∈rJ hl rest J:=by
 cases hl
 ·exact h
 ·exact .tail _ h
theorem two_hl (h1:s.has fin) (h2:hl=true→s.has rest):∀ j∈rJ hl rest (fin :: J),s.has j∨j∈J:=by
 rcases hl with _ | _
 ·exact fun j hj=>(List.mem_cons.mp hj).elim (fun e=>.inl (e▸h1)) .inr
 ·exact two_has h1 (h2 rfl)
theorem Pre.sub {k:Nat} {J':List Nat} (P1:Pre J' ctl m s') (P:Pre J ctl k s) (x:R0 L s s') (hc:s'.code=s.code) (hJ:∀ l∈J,l∈L2):Pre L2 ctl m s':=
 ⟨P1.room,fun i hi l e=>(P.plc i (hc▸hi) l e).imp x.has (hJ _),P1.hok,P1.hpl,fun y hy=>(P.ctl y hy).to x hJ,P1.loc⟩
theorem thr_last {J':List Nat} (B:La J' ctl m hl t γ rest start s s1) (C:Cx F X ctl s0 s' st g Go) (Y:Ext F s') (z:R0 L s1 s') (hz:s'.hs=s1.hs) (hst:(st.length:Int)=wt ctl) (R:hl=true→FinR F X st g Go t γ n rest pR op) (hR:op→F.code[pR]?=some .retsub) (hU:op→Unc F s0 s' pR)
  (pu:s.pos start u) (h1:u≤p) (h0:s0.code.length≤p) (h2:p < s.code.length) (hn:findH F.pl p s.hs=none) {f:Nat} {e:List SV} (h:goF hl t n Go (.thr f) w kp):Thr F X (g+γ+3) p f (e++st) w kp:=by
 have Y1:=Y.of z
 refine (bool_or hl).elim (fun e1=>?_) fun e1=>?_
 ·refine B.tr e1 _ fun M N D _ _ _ E=>?_
  have Y2:=Y1.of (D.r.trans E.x)
  have Ya:=Y2.of N.x
  subst e1
  exact (fin_thr (R rfl) hR hst (find_at Y2 N.hs (by rw [M.hs]; exact hn) (by rw [Ya.pl _ _ (M.x.pos pu)]; exact h1) (by rw [Ya.pl _ _ M.at']; exact h2)) h fun w' kp' o h=>C.thr f pR w' kp' [] (hU o) h).le (by lia)
 ·have e2:=B.fa e1
  subst e2 e1
  exact (C.thr f p w kp e ⟨h0,Nat.lt_of_lt_of_le h2 z.len,by rw [hz]; exact hn⟩ (h kp .refl)).le (Nat.le_trans (Nat.le_add_right _ _) (Nat.le_add_right _ 3))
noncomputable def Nl (s s':CS):Prop:=∃ L,R1 L s s'∧∀ j∈L,s.labels[j]?=none
theorem Ca.nl (A:Ca J ctl m em hl t α rest fin start stop s1 s') (y:R1 [] s s1) (ps:s1.pos start u) (h:s.code.length≤u):Nl s s':=
 (bool_or em).elim (fun e=>A.tr e _ fun N H E _ D _ _ E2=>⟨_,((H.cum (y.trans (.of N.x N.hs)) (N.x.pos ps) h).trans ((R1.of E.x E.hs).trans (D.trans (.of E2.x E2.hs)))),fun j hj=>List.mem_singleton.mp hj▸y.r.un N.un⟩) fun e=>A.fa e▸⟨[],y,fun _ h=>nomatch h⟩
theorem La.nl (B:La J ctl m hl t α rest start s1 s') (y:Nl s s1) (ps:s1.pos start u) (h:s.code.length≤u) (hr:s.labels[rest]?=none):Nl s s'∧(hl=true→s'.has rest):=
 (bool_or hl).elim (fun e=>B.tr e _ fun M N D _ _ _ E=>y.elim fun L y=>⟨⟨_,(N.cum (y.1.trans (.of M.x M.hs)) (M.x.pos ps) h).trans (D.trans (.of E.x E.hs)),fun j hj=>by
  rw [List.append_nil,List.append_nil,List.append_nil] at hj
  exact (List.mem_append.mp hj).elim (y.2 j) fun h=>List.mem_singleton.mp h▸hr⟩,fun _=>(D.r.trans E.x).has (pos_has N.at')⟩) fun e=>⟨B.fa e▸y,no_b e⟩
theorem La.rt {s8:CS} (B:La J ctl m hl t α rest start s1 s') (C:Cx F X ctl s s8 st g Go) (Y:Ext F s8) (hst:(st.length:Int)=wt ctl) (z:R1 [fin] s' s8) (l1:s.code.length≤s1.code.length) :
  ∃ pR op,(hl=true→FinR F X st g Go t α s1.locals rest pR op)∧(op→F.code[pR]?=some .retsub)∧(op→Unc F s s8 pR):=
 (bool_or hl).elim (fun e=>B.tr e _ fun M N D cd S P3 E=>by
  have z2:=(R1.of E.x E.hs).trans z
  have Y7:=Y.of z.r
  have l2:=M.x.trans N.x
  exact ⟨_,_,fun _=>fin_run C Y hst S (Nat.le_trans l1 l2.len) z2 (((Y7.of E.x).of D.r).pl _ _ N.at' |>.trans (by rw [N.code])) l2.loc,fun h=>h.elim fun d hd=>E.at (cd_some cd hd) Y7 0 _ rfl,fun h=>h.elim fun d hd=>
   (E.unc P3 (cd_some cd hd) Y7 (j:=0) (Nat.zero_lt_succ _)).wide (Nat.le_trans l1 (l2.trans D.r).len) z Y⟩) fun e=>⟨0,False,no_b e,False.elim,False.elim⟩
set_option tactic.hygienic true in
theorem k_try (Hb:∀ rest,CO (comp b (gCtl hl rest ctl)) z1 α (exec b) (gCtl hl rest ctl)) (Hc:∀ rest,CO (comp c (gCtl hl rest ctl)) z2 β (exec c) (gCtl hl rest ctl)) (Hl:CO (comp t (⟨.fin,[],0,0⟩ :: ctl)) z3 γ (exec t) (⟨.fin,[],0,0⟩ :: ctl)) :
  CO (opC (.try b hc c hl t) ctl) (1+z3+2+(2+z2+4)+3+z1+3) (γ+3+(β+2)+α) (exec (.try b hc c hl t)) ctl:=co_open fun J m s0 K P hd q=>dep_of hd <|
 r_new2 (P:Pre J ctl (m+(1+z3+2+(2+z2+4)+3+z1)+1+2) s0) fun fin rest s1 P1 x1 f1 f2 ne u1 u2 c1 d1=>r_mark (J:=rJ hl rest (fin :: J)) (P1.sub P x1.r c1 fun _ h=>mem_rJ (.tail _ h):Pre _ ctl (m+(1+z3+2+(2+z2+4)+3+z1)+1) s1) fun start s2 M2=>by
 have hd2:=M2.dep.trans (d1.trans hd)
 have lb:∀ {s' L},R0 L s1 s'→(hl=true→LabOk (rJ hl rest (fin :: J)) s' (rest,wt ctl+2))∧LabOk (rJ hl rest (fin :: J)) s' (fin,wt ctl):=fun x=>⟨fun q=>⟨x.dp (free_dp f2),by subst q; exact .head _⟩,x.dp (free_dp f1),mem_rJ (.head _)⟩
 refine Hb rest _ (m+(1+z3+2+(2+z2+4)+3)) s2 _ (pre_g M2.P.as (lb M2.x).1) (by rw [wt_g]; exact cd_eq hd2 rfl) fun s3 D3=>?_
 have cd3:CDep (wt ctl) s3:=wt_g (hl:=hl) (rest:=rest)▸D3.cd
 have x13:=M2.x.trans D3.x.r
 refine r_mark (D3.P.fin (m:=m+(1+z3+2+(2+z2+4))+2+1) M2.P D3.x.r fun _=>.inr) fun stop s4 M4=>?_
 have cd4:CDep (wt ctl) s4:=fun d h=>cd3 d (M4.dep.symm.trans h)
 have x14:=x13.trans M4.x
 refine r_emits (closeG hl rest fin) (M4.P.le (Nat.add_le_add_left close_len _)) cd4 (close_fits (lb x14).1 (lb x14).2) fun s5 E5=>?_
 have hd5:s5.depth=none:=by
  cases e:s4.depth with
  | none=>exact (E5.cl e).2
  | some d=>cases cd4 d e; exact (E5.op e).2.1.trans close_none
 have x15:=x14.trans E5.x
 have x35:=M4.x.trans E5.x
 have hs5:s5.hs=s3.hs:=E5.hs.trans M4.hs
 have pst:s5.pos start s2.code.length:=(D3.x.r.trans x35).pos (M2.code.symm▸M2.at')
 refine r_catch (fin:=fin) (start:=start) (stop:=stop) (Hc rest) E5.P.as hd5 (lb x15).1 (lb x15).2 pst (E5.x.pos M4.at') x35.len fun s6 A=>?_
 have x16:=x15.trans A.x
 refine r_last Hl (A.P:Pre _ ctl (m+(1+z3)+2) s6) A.dep (x16.free f2 List.not_mem_nil) (A.x.pos pst) fun s7 B=>?_
 have x17:R0 [rest] s1 s7:=x16.trans B.x
 refine r_stand B.P (x17.free f1 (ne_mem ne)) (fun d h=>nomatch (B.dep.symm.trans h)) fun s8 S8=>?_
 have x68:=B.x.trans S8.x
 have y5:R1 [] s0 s5:=x1.trans ((R1.of M2.x M2.hs).trans (D3.x.trans (.of x35 hs5)))
 have l02:s0.code.length≤s2.code.length:=(x1.r.trans M2.x).len
 have y7:=B.nl (A.nl y5 pst l02) (A.x.pos pst) l02 u2
 have y8:R1 [] s0 s8:=y7.1.elim fun L y=>(y.1.trans (.of S8.x S8.hs)).none fun j hj=>(List.mem_append.mp hj).elim (y.2 j) fun h=>List.mem_singleton.mp h▸u1
 refine q s8 ⟨S8.P.fin P y8.r (fun j hj=>?_),y8,S8.cd,fun _ F X g st Go Y hst C w kp h=>?_⟩
 ·exact two_hl (pos_has S8.at') (fun e=>S8.x.has (y7.2 e)) j hj
 have Y7:=Y.of S8.x
 have Y6:=Y7.of B.x
 have Y5:=Y6.of A.x
 have Y4:=Y5.of E5.x
 have Y3:=Y4.of M4.x
 have Y2:=Y3.of D3.x.r
 have l06:s0.locals≤s6.locals:=(x1.r.trans x16).loc
 obtain ⟨pR,op,R,hR,hU⟩:=B.rt C Y hst (.of S8.x S8.hs) (x1.r.trans x16).len
 have kf:∀ {sx L},R0 L sx s7→sx.hit fin→∀ w kp,Go .norm w kp→Rn F X g ⟨F.pl fin,st,w,kp⟩:=fun x h w kp k=>by
  rw [S8.pl Y]
  exact C.norm w kp _ (S8.op (.inl (x.hit h))) k
 have pl1:F.pl start=s2.code.length:=Y5.pl _ _ pst
 have thrF:∀ {f p w kp e},s2.code.length≤p→p < s6.code.length→findH F.pl p s6.hs=none→goF hl t s6.locals Go (.thr f) w kp→Thr F X (g+γ+3) p f (e++st) w kp:=fun h1 h2 h3 h=>thr_last B C Y S8.x S8.hs hst R hR hU (A.x.pos pst) h1 (Nat.le_trans l02 h1) h2 h3 h
 have hl3:s3.locals≤s6.locals:=(x35.trans A.x).loc
 rw [← c1,← M2.code]
 refine (D3.sim (hd2.trans (congrArg some wt_g.symm)) F X (g+γ+3+(β+2)) st (fun r w kp=>caughtX hc (exec c) r w fun r' w'=>∀ kp',Agr s3.locals kp kp'→goF hl t s6.locals Go r' w' kp') Y3 (hst.trans wt_g.symm) (cx_g C (x35.trans (A.x.trans x68)) hl3 R hR (fun r w kp h1 h2 h=>?_) (Nat.le_add_right _ _) (fun w kp d hd3 h=>?_) fun f p w kp e u h=>?_) w kp (exec_mono b _ _ _ (fun r w' h kp1 A1=>caught_mono (fun r w' h kp2 A2=>last_mono (fun r w' h kp3 A3=>h kp3 (((A1.low (x1.r.trans M2.x).loc).trans A2 (x1.r.trans x13).loc).trans A3 l06)) h) h) h)).le (by lia)
 ·cases r
  case norm=>exact absurd rfl h1
  case thr f=>exact absurd rfl (h2 f)
  all_goals exact h kp .refl
 ·have key:=close_ok E5 (M4.dep.trans (cd_some cd3 hd3)) Y5 R hR (h kp .refl) (kf (A.x.trans B.x))
  rw [M4.code] at key
  exact key.le (Nat.le_add_right _ _)
 ·refine (bool_or (hc&&!Nat.beq s4.code.length s2.code.length)).elim (fun e1=>A.tr e1 _ fun {ha a1 a2 a3 a4 _ _ _ _ _} N H E hd3 D cd4' S E2=>?_) fun e1=>?_
  ·have h:exec c ⟨w.seen,w.left,f⟩ _:=(and2 e1).1▸h
   have Ya4:=Y6.of E2.x
   have Ya3:=Ya4.of D.r
   have Ya2:=Ya3.of E.x
   have pa:F.pl ha=a2.code.length:=(Ya2.pl _ _ H.at').trans (by rw [H.code])
   have at':=E.at H.dep Ya3
   have x36:=x35.trans (N.x.trans (H.x.trans E.x))
   refine catch_st (g:=g+γ+3+(β+2)) hst (find_at Ya2 H.hs (by rw [N.hs,hs5]; exact u.2.2) (by rw [pl1]; exact u.1) (by rw [Y4.pl _ _ M4.at']; exact u.2.1)) ?_
   rw [pa]
   refine .step (g:=g+γ+3+(β+1)) (at' 0 _ rfl) (.step (g:=g+γ+3+β) (at' 1 _ rfl) ?_)
   show Rn F X (g+γ+3+β) ⟨a2.code.length+2,st,⟨w.seen,w.left,f⟩,kp⟩
   rw [← show a3.code.length=a2.code.length+2 from E.len H.dep]
   refine S F X (g+γ+3) st (goF hl t s6.locals Go) Ya4 (hst.trans wt_g.symm) (cx_g C (E2.x.trans x68) E2.x.loc R hR (fun _ _ _ _ _ h=>h) (Nat.le_refl _) (fun w kp d hd h=>close_ok E2 (cd_some cd4' hd) Y6 R hR h (kf B.x)) fun f p w kp e u h=>?_) _ kp (exec_mono c _ _ _ (fun r w' h kp' A=>h kp' (A.low x36.loc)) h)
   exact thrF (Nat.le_trans (D3.x.r.trans x36).len u.1) (Nat.lt_of_lt_of_le u.2.1 E2.x.len) (by rw [E2.hs]; exact u.2.2) h
  ·refine (bool_or hc).elim (fun e2=>?_) fun e2=>?_
   ·have e3:=Nat.eq_of_beq_eq_true (show Nat.beq s4.code.length s2.code.length=true from (bool_or _).elim id fun e=>by rw [e2,e] at e1; exact nomatch e1)
    rw [M4.code] at e3
    exact absurd u.2.1 (Nat.not_lt_of_le (e3▸u.1))
   ·have h:caughtX false (exec c) (.thr f) w _:=e2▸h
    exact (thrF u.1 (Nat.lt_of_lt_of_le u.2.1 (x35.trans A.x).len) (by rw [A.fa e1,hs5]; exact u.2.2) (h kp .refl)).le (Nat.le_add_right _ _)
end
end
section
noncomputable def Dg (w:W):Prop:=∀ v∈w.left,v≤2
noncomputable def W.pot (w:W):Nat:=w.seen.length+160 * w.left.length
structure Wk (a:Nat) (w w':W):Prop where
 dg:Dg w'
 pot:w'.pot≤w.pot+a
 left:w'.left.length≤w.left.length
noncomputable def Te (ex:Ex) (a:Nat):Prop:=∀ w,Dg w→w.pot+a≤lim→∃ r w',(∀ K:Kr,K r w'→ex w K)∧Wk a w w'
section
variable {α β n a b:Nat} {nm:Nm} {w w1 w2:W} {ex body:Ex} {step:Option Nm} {ls:List Nat}
theorem Wk.trans {k:Nat} (h:Wk a w w1) (h2:Wk b w1 w2) (q:a+b≤k):Wk k w w2:=⟨h2.dg,Nat.le_trans h2.pot (Nat.le_trans (Nat.add_le_add_right h.pot b) (by rw [Nat.add_assoc]; exact Nat.add_le_add_left q _)),Nat.le_trans h2.left h.left⟩
theorem Wk.le {k:Nat} (h:Wk a w w1) (q:a≤k):Wk k w w1:=⟨h.dg,Nat.le_trans h.pot (Nat.add_le_add_left q _),h.left⟩
theorem Wk.refl (h:Dg w):Wk a w w:=⟨h,Nat.le_add_right _ _,Nat.le_refl _⟩
theorem Wk.room {k:Nat} (h:Wk a w w1) (q:w.pot+k≤lim) (e:a+b≤k):w1.pot+b≤lim:=by have:=h.pot; lia
theorem Te.le (h:Te ex a) (q:a≤b):Te ex b:=fun w hd hl=>by
 obtain ⟨r,w',h,k⟩:=h w hd (Nat.le_trans (Nat.add_le_add_left q _) hl)
 exact ⟨r,w',h,k.le q⟩
theorem get_tot (hd:Dg w) (hl:w.pot+1≤lim):(∃ v w',(∀ Y F:Nat→W→Prop,Y v w'→w.get nm Y F)∧Wk 1 w w'∧(nm≠.x→v≤2)∧(nm≠.x→v≠0→w'.pot+159≤w.pot∧w'.left.length+1≤w.left.length))∨∃ f w',(∀ Y F:Nat→W→Prop,F f w'→w.get nm Y F)∧Wk 1 w w':=by
 obtain ⟨sn,lf,x⟩:=w
 have h0:sn.length < lim:=by
  have hl:sn.length+160 * lf.length+1≤lim:=hl
  lia
 unfold W.get
 have wk:∀ {e},Wk 1 ⟨sn,lf,x⟩ ⟨e :: sn,lf.tail,x⟩:=fun {e}=>by
  induction lf using List.casesOn with
  | nil=>exact ⟨hd,Nat.le_of_eq (Nat.add_right_comm _ 1 _),Nat.le_refl _⟩
  | cons y lf=>exact ⟨fun v h=>hd v (.tail _ h),by show sn.length+1+160 * lf.length≤sn.length+160 * (lf.length+1)+1; lia,Nat.le_succ _⟩
 induction nm using Nm.casesOn
 case x=>exact .inl ⟨x,⟨.get 57 :: sn,lf,x⟩,fun Y F h=>⟨h0,h⟩,⟨hd,Nat.le_of_eq (Nat.add_right_comm _ 1 _),Nat.le_refl _⟩,fun h=>absurd rfl h,fun h=>absurd rfl h⟩
 case e=>
  refine .inr ⟨_,⟨.get 3 :: sn,lf.tail,x⟩,fun Y F h=>⟨h0,?_,h⟩,wk⟩
  induction lf using List.casesOn with
  | nil=>exact Nat.zero_le _
  | cons y lf=>exact hd y (.head _)
 all_goals
  refine .inl ⟨_,⟨_ :: sn,lf.tail,x⟩,fun Y F h=>⟨h0,h⟩,wk,fun _=>?_,fun _ h=>?_⟩
  ·induction lf using List.casesOn with
   | nil=>exact Nat.zero_le _
   | cons y lf=>exact hd y (.head _)
  ·induction lf using List.casesOn with
   | nil=>exact absurd rfl h
   | cons y lf=>exact ⟨by show sn.length+1+160 * lf.length+159≤sn.length+160 * (lf.length+1); lia,Nat.le_refl _⟩
theorem set_tot {x v:Nat} (hd:Dg w) (hl:w.pot+1≤lim):∃ w',(∀ K:W→Prop,K w'→w.setK x v K)∧Wk 1 w w':=by
 obtain ⟨sn,lf,y⟩:=w
 have h0:sn.length < lim:=by
  have hl:sn.length+160 * lf.length+1≤lim:=hl
  lia
 unfold W.setK
 exact ⟨_,fun K h=>⟨h0,h⟩,⟨hd,Nat.le_of_eq (Nat.add_right_comm _ 1 _),Nat.le_refl _⟩⟩
theorem step_tot (h:Te ex a):Te (stepX step ex) (a+1):=fun w hd hl=>by
 induction step using Option.casesOn with
 | none=>exact h.le (Nat.le_succ a) w hd hl
 | some s=>
  rcases get_tot (nm:=s) hd (Nat.le_trans (Nat.add_le_add_left (Nat.le_add_left 1 a) _) hl) with ⟨v,w1,h1,k1,_⟩ | ⟨f,w1,h1,k1⟩
  ·obtain ⟨r,w2,h2,k2⟩:=h w1 k1.dg (k1.room hl (Nat.le_of_eq (Nat.add_comm 1 a)))
   exact ⟨r,w2,fun K q=>h1 _ _ (h2 K q),k1.trans k2 (Nat.le_of_eq (Nat.add_comm 1 a))⟩
  ·exact ⟨.thr f,w1,fun K q=>h1 _ _ q,k1.le (Nat.le_add_left 1 a)⟩
noncomputable def Tl (ex:Ex) (a k:Nat):Prop:=∀ w,Dg w→w.left.length+1≤k→w.pot+a≤lim→∃ r w',(∀ K:Kr,K r w'→ex w K)∧Wk a w w'
theorem round_tot {next:Ex} {k:Nat} (hb:Te body α) (hn:Tl next 2 k):Tl (roundX ls body (stepX step next)) (α+3) k:=fun w hd hk hl=>by
 obtain ⟨r,w1,h1,k1⟩:=hb w hd (Nat.le_trans (Nat.add_le_add_left (Nat.le_add_right α 3) _) hl)
 cases e:r.isEnd ls with
 | true=>exact ⟨r.behind ls,w1,fun K q=>h1 _ (by rw [e]; exact q),k1.le (Nat.le_add_right _ _)⟩
 | false=>
  have hl1:=k1.room hl (Nat.le_refl (α+3))
  have key:∃ r2 w',(∀ K:Kr,K r2 w'→stepX step next w1 K)∧Wk 3 w1 w':=by
   induction step using Option.casesOn with
   | none=>
    obtain ⟨r2,w2,h2,k2⟩:=hn w1 k1.dg (Nat.le_trans (Nat.succ_le_succ k1.left) hk) (Nat.le_of_succ_le hl1)
    exact ⟨r2,w2,h2,k2.le (Nat.le_succ 2)⟩
   | some s=>
    rcases get_tot (nm:=s) k1.dg (Nat.le_trans (Nat.add_le_add_left (Nat.le_add_left 1 2) _) hl1) with ⟨v,w2,h2,k2,_⟩ | ⟨f,w2,h2,k2⟩
    ·obtain ⟨r3,w3,h3,k3⟩:=hn w2 k2.dg (Nat.le_trans (Nat.succ_le_succ (Nat.le_trans k2.left k1.left)) hk) (k2.room hl1 (Nat.le_refl 3))
     exact ⟨r3,w3,fun K q=>h2 _ _ (h3 K q),k2.trans k3 (Nat.le_refl 3)⟩
    ·exact ⟨.thr f,w2,fun K q=>h2 _ _ q,k2.le (Nat.le_add_left 1 2)⟩
  obtain ⟨r2,w2,h2,k2⟩:=key
  exact ⟨r2,w2,fun K q=>h1 _ (by rw [e]; exact h2 K q),k1.trans k2 (Nat.le_refl _)⟩
theorem rounds_tot (hx:nm≠.x) (hα:α≤154) (hb:Te body α):∀ k,Tl (rounds ls nm body step k false) 2 k
 | 0=>fun w _ hk _=>nomatch hk
 | k+1=>fun w hd hk hl=>by
  rcases get_tot (nm:=nm) hd (Nat.le_of_succ_le hl) with ⟨v,w1,h1,k1,_,hp⟩ | ⟨f,w1,h1,k1⟩
  ·induction v using Nat.casesOn with
   | zero=>exact ⟨.norm,w1,fun K q=>h1 _ _ q,k1.le (Nat.le_succ 1)⟩
   | succ v=>
    have hp:=hp hx (Nat.succ_ne_zero v)
    obtain ⟨r,w2,h2,k2⟩:=round_tot (ls:=ls) (step:=step) hb (rounds_tot hx hα hb k) w1 k1.dg (Nat.le_trans hp.2 (Nat.le_of_succ_le_succ hk)) (by lia)
    exact ⟨r,w2,fun K q=>h1 _ _ (h2 K q),⟨k2.dg,by have:=k2.pot; lia,Nat.le_trans k2.left k1.left⟩⟩
  ·exact ⟨.thr f,w1,fun K q=>h1 _ _ q,k1.le (Nat.le_succ 1)⟩
theorem keys_tot {x:Nat} (hb:Te body α):∀ k i,Te (keyRounds ls x body k i) (k * (α+1))
 | 0,i=>fun w hd _=>⟨.norm,w,fun K q=>q,.refl hd⟩
 | k+1,i=>fun w hd hl=>by
  rw [Nat.succ_mul] at hl ⊢
  obtain ⟨w1,h1,k1⟩:=set_tot (x:=x) (v:=i+10) hd (Nat.le_trans (Nat.add_le_add_left (Nat.le_trans (Nat.le_add_left 1 α) (Nat.le_add_left _ _)) _) hl)
  obtain ⟨r,w2,h2,k2⟩:=hb w1 k1.dg (k1.room hl (by lia))
  have k2:=k1.trans k2 (Nat.le_of_eq (Nat.add_comm 1 α))
  cases e:r.isEnd ls with
  | true=>exact ⟨r.behind ls,w2,fun K q=>h1 _ (h2 _ (by rw [e]; exact q)),k2.le (Nat.le_add_left _ _)⟩
  | false=>
   obtain ⟨r3,w3,h3,k3⟩:=keys_tot hb k (i+1) w2 k2.dg (k2.room hl (Nat.le_of_eq (Nat.add_comm _ _)))
   exact ⟨r3,w3,fun K q=>h1 _ (h2 _ (by rw [e]; exact h3 K q)),k2.trans k3 (Nat.le_of_eq (Nat.add_comm _ _))⟩
theorem clause_tot {u:Nat} {o:Option Nm} (hd:Dg w) (hl:w.pot+1≤lim):(∃ q w',(∀ (Y:Bool→W→Prop) F,Y q w'→clause u o w Y F)∧Wk 1 w w')∨∃ f w',(∀ Y (F:Nat→W→Prop),F f w'→clause u o w Y F)∧Wk 1 w w':=by
 induction o using Option.casesOn with
 | none=>exact .inl ⟨false,w,fun Y F h=>h,.refl hd⟩
 | some s=>
  rcases get_tot (nm:=s) hd hl with ⟨v,w1,h1,k1,_⟩ | ⟨f,w1,h1,k1⟩
  ·exact .inl ⟨_,w1,fun Y F h=>h1 _ _ h,k1⟩
  ·exact .inr ⟨f,w1,fun Y F h=>h1 _ _ h,k1⟩
theorem end_tot (h:Te ex a):Te (endX ex) a:=fun w hd hl=>by
 obtain ⟨r,w1,h,k⟩:=h w hd hl
 exact ⟨r.behind [],w1,fun K q=>h _ q,k⟩
theorem then_tot {ex2:Ex} (h:Te ex a) (h2:Te ex2 b):Te (thenX ex ex2) (a+b):=fun w hd hl=>by
 obtain ⟨r,w1,h,k⟩:=h w hd (Nat.le_trans (Nat.add_le_add_left (Nat.le_add_right a b) _) hl)
 induction r using Res.casesOn
 case norm=>
  obtain ⟨r2,w2,h2,k2⟩:=end_tot h2 w1 k.dg (k.room hl (Nat.le_refl _))
  exact ⟨r2,w2,fun K q=>h _ (h2 K q),k.trans k2 (Nat.le_refl _)⟩
 all_goals exact ⟨_,w1,fun K q=>h _ q,k.le (Nat.le_add_right _ _)⟩
set_option tactic.hygienic true in
theorem caught_tot {hc:Bool} {r:Res} (h:Te ex a):Te (fun w K=>caughtX hc ex r w K) a:=fun w hd hl=>by
 induction r using Res.casesOn
 case thr f=>induction hc using Bool.casesOn with
  | false=>exact ⟨.thr f,w,fun K q=>q,.refl hd⟩
  | true=>
   obtain ⟨r,w1,h,k⟩:=h ⟨w.seen,w.left,f⟩ hd hl
   exact ⟨r,w1,h,⟨k.dg,k.pot,k.left⟩⟩
 all_goals exact ⟨_,w,fun K q=>q,.refl hd⟩
theorem last_tot {hl':Bool} {r:Res} (h:Te ex a):Te (fun w K=>lastX hl' ex r w K) a:=fun w hd hl=>by
 induction hl' using Bool.casesOn with
 | false=>exact ⟨r,w,fun K q=>q,.refl hd⟩
 | true=>
  obtain ⟨r2,w1,h,k⟩:=h w hd hl
  induction r2 using Res.casesOn
  case norm=>exact ⟨r,w1,fun K q=>h _ q,k⟩
  all_goals exact ⟨_,w1,fun K q=>h _ q,k⟩
theorem bind_tot {f:Res→Ex} (h:Te ex a) (h2:∀ r,Te (f r) b):Te (fun w K=>ex w fun r w=>f r w K) (a+b):=fun w hd hl=>by
 obtain ⟨r,w1,h,k⟩:=h w hd (Nat.le_trans (Nat.add_le_add_left (Nat.le_add_right a b) _) hl)
 obtain ⟨r2,w2,h2,k2⟩:=h2 r w1 k.dg (k.room hl (Nat.le_refl _))
 exact ⟨r2,w2,fun K q=>h _ (h2 K q),k.trans k2 (Nat.le_refl _)⟩
theorem ret_tot {f:Res→Res} (h:Te ex a):Te (fun w K=>ex w fun r w=>K (f r) w) a:=fun w hd hl=>by
 obtain ⟨r,w1,h,k⟩:=h w hd hl
 exact ⟨f r,w1,fun K q=>h _ q,k⟩
theorem val_tot {f:Nat→Ex} (h:∀ v,(nm≠.x→v≤2)→Te (f v) a):Te (fun w K=>w.get nm (fun v w=>f v w K) fun f w=>K (.thr f) w) (1+a):=fun w hd hl=>by
 rcases get_tot (nm:=nm) hd (Nat.le_trans (Nat.add_le_add_left (Nat.le_add_right 1 a) _) hl) with ⟨v,w1,h1,k1,hv,_⟩ | ⟨e,w1,h1,k1⟩
 ·obtain ⟨r,w2,h2,k2⟩:=h v hv w1 k1.dg (k1.room hl (Nat.le_refl _))
  exact ⟨r,w2,fun K q=>h1 _ _ (h2 K q),k1.trans k2 (Nat.le_refl _)⟩
 ·exact ⟨.thr e,w1,fun K q=>h1 _ _ q,k1.le (Nat.le_add_right _ _)⟩
theorem one_tot {r:Res}:Te (fun w K=>K r w) a:=fun w hd _=>⟨r,w,fun K q=>q,.refl hd⟩
theorem nz_tot {v:Nat} {e1 e2:Ex} (h1:Te e1 a) (h2:Te e2 a):Te (fun w K=>nz v (e1 w K) (e2 w K)) a:=by
 induction v using Nat.casesOn
 ·exact h2
 ·exact h1
end
end
section
noncomputable def cA:Nat→Nat
 | 0=>2
 | d+1=>6 * cA d+11
noncomputable def cZ:Nat→Nat
 | 0=>2
 | d+1=>6 * cZ d+30
structure Sc (lo la:List Nat) (ctl:List Ctl):Prop where
 lo:∀ l∈lo,∃ c,c∈ctl∧c.kind.isLoop=true∧isIn l c.labs=true
 la:∀ l∈la,∃ c,c∈ctl∧isIn l c.labs=true
 wf:∀ c∈ctl,c.wf
section
variable {α β γ n a b d z z' α' l:Nat} {nm:Nm} {w w1 w2:W} {ex body:Ex} {step o:Option Nm} {ls lo la:List Nat} {ctl:List Ctl} {c:Ctl} {cx:Bool} {cmp:CS→Kc→Prop} {t:Tr}
theorem CO.le (h:CO cmp z α ex ctl) (q:z≤z') (q2:α≤α'):CO cmp z' α' ex ctl:=fun J m s K P cd k=>h J m s K (P.le (Nat.add_le_add_left q m)) cd fun s' D=>k s' ⟨D.P,D.x,D.cd,fun hd F X g st Go Y hst C w kp h=>(D.sim hd F X g st Go Y hst C w kp h).le (Nat.add_le_add_left q2 g)⟩
theorem Sc.more (h:Sc lo la ctl) (w:c.wf):Sc lo la (c :: ctl) where
 lo l hl:=by obtain ⟨c,h,q⟩:=h.lo l hl; exact ⟨c,.tail _ h,q⟩
 la l hl:=by obtain ⟨c,h,q⟩:=h.la l hl; exact ⟨c,.tail _ h,q⟩
 wf c hc:=by rcases List.mem_cons.mp hc with rfl | hc; exact w; exact h.wf c hc
theorem isIn_self:isIn l [l]=true:=isIn1.trans (Nat.beq_refl l)
theorem Sc.lab (h:Sc lo la ctl) (w:c.wf) (q:isIn l c.labs=true):Sc lo (la++[l]) (c :: ctl):=
 ⟨(h.more w).lo,fun j hj=>(List.mem_append.mp hj).elim ((h.more w).la j) fun e=>List.mem_singleton.mp e▸⟨c,.head _,q⟩,(h.more w).wf⟩
theorem Sc.loop (h:Sc lo la ctl) (w:c.wf) (q:isIn l c.labs=true) (hk:c.kind.isLoop=true):Sc (lo++[l]) (la++[l]) (c :: ctl):=
 ⟨fun j hj=>(List.mem_append.mp hj).elim ((h.more w).lo j) fun e=>List.mem_singleton.mp e▸⟨c,.head _,hk,q⟩,(h.lab w q).la,(h.more w).wf⟩
theorem ec_len:∀ {ctl:List Ctl},ec ctl=2 * ctl.length+2
 | []=>rfl
 | _ :: r=>by show ec r+2=_; rw [ec_len]; rfl
theorem loop_brk {l:Option Nat} (hk:c.kind.isLoop=true) (q:∀ j,l=some j→isIn j c.labs=true):c.brkTo l=true∧c.conTo l=true:=by
 obtain ⟨k,ls,bh,ag⟩:=c
 cases k <;> first | (cases hk; done) | skip
 all_goals
  cases l with
  | none=>exact ⟨rfl,rfl⟩
  | some j=>exact ⟨q j rfl,q j rfl⟩
theorem sc_some (h:Sc lo la ctl) (q:lo≠[]):∃ c,c∈ctl∧c.kind.isLoop=true:=by
 cases lo with
 | nil=>exact absurd rfl q
 | cons l lo=>obtain ⟨c,h,k,_⟩:=h.lo l (.head _); exact ⟨c,h,k⟩
noncomputable def Both (t:Tr) (d:Nat) (ctl:List Ctl):Bool→Prop
 | false=>CO (opC t ctl) (cZ d) (cA d) (exec t) ctl∧Te (exec t) (cA d)
 | true=>CO (comp t ctl) (cZ d * t.len) (cA d * t.len) (exec t) ctl∧Te (exec t) (cA d * t.len)
theorem set_te {x v:Nat}:Te (fun w K=>w.setK x v (K .norm)) 1:=fun w hd hl=>by
 obtain ⟨w1,h,k⟩:=set_tot (x:=x) (v:=v) hd hl
 exact ⟨.norm,w1,fun K q=>h _ q,k⟩
theorem rounds_te (hx:nm≠.x) (hα:α≤154) (hb:Te body α):Te (fun w K=>rounds ls nm body step (w.left.length+2) false w K) 2:=fun w hd hl=>rounds_tot hx hα hb (w.left.length+2) w hd (Nat.le_succ _) hl
theorem two (h:t.len≤2):cZ d * t.len≤cZ d * 2∧cA d * t.len≤cA d * 2:=⟨Nat.mul_le_mul_left _ h,Nat.mul_le_mul_left _ h⟩
theorem cA_le (h:d≤2):cA d≤154:=by
 match d,h with
 | 0,_=>decide
 | 1,_=>decide
 | 2,_=>decide
theorem list_both (h:Both t d ctl true) (q:t.len≤2):CO (comp t ctl) (cZ d * 2) (cA d * 2) (exec t) ctl∧Te (exec t) (cA d * 2):=⟨h.1.le (two q).1 (two q).2,h.2.le (two q).2⟩
theorem gctl_wf {hl:Bool} {rest:Nat} (h:Sc lo la ctl):Sc lo la (gCtl hl rest ctl):=by
 cases hl
 ·exact h
 ·exact h.more rfl
theorem cl_tot {u:Nat} {Y:Bool→Ex} (h:∀ q,Te (Y q) a):Te (fun w K=>clause u o w (fun q w=>Y q w K) fun f w=>K (.thr f) w) (1+a):=fun w hd hl=>by
 rcases clause_tot (u:=u) (o:=o) hd (Nat.le_trans (Nat.add_le_add_left (Nat.le_add_right 1 a) _) hl) with ⟨q,w1,c1,k1⟩ | ⟨f,w1,c1,k1⟩
 ·obtain ⟨r,w2,h2,k2⟩:=h q w1 k1.dg (k1.room hl (Nat.le_refl _))
  exact ⟨r,w2,fun K q=>c1 _ _ (h2 K q),k1.trans k2 (Nat.le_refl _)⟩
 ·exact ⟨.thr f,w1,fun K q=>c1 _ _ q,k1.le (Nat.le_add_right _ _)⟩
theorem bool_te {q:Bool} {e1 e2:Ex} (h1:Te e1 a) (h2:Te e2 a):Te (fun w K=>match q with
  | true=>e1 w K
  | false=>e2 w K) a:=by
 cases q
 ·exact h2
 ·exact h1
theorem sw_te {t1 t2:Option Nm} {e1 e2:Ex} (h1:Te e1 α) (h2:Te e2 β):Te (fun w K=>w.get nm (fun v w=>clause v t1 w (fun q w=>match q with
   | true=>thenX e1 e2 w K
   | false=>clause v t2 w (fun q w=>match q with
    | true=>endX e2 w K
    | false=>(match isNo t1 with
     | true=>thenX e1 e2 w K
     | false=>(match isNo t2 with
      | true=>endX e2 w K
      | false=>K .norm w))) fun f w=>K (.thr f) w) fun f w=>K (.thr f) w) fun f w=>K (.thr f) w) (1+(1+(1+(α+β)))):=by
 have h2':Te (endX e2) (α+β):=(end_tot h2).le (Nat.le_add_left _ _)
 have h1':=then_tot h1 h2
 exact val_tot fun v _=>cl_tot fun q=>bool_te (h1'.le (Nat.le_add_left _ 1)) (cl_tot fun q=>bool_te h2' (bool_te h1' (bool_te h2' one_tot)))
noncomputable def Gb (t:Tr):Prop:=∀ (s:Bool) (d:Nat) (lo la:List Nat) (cx:Bool) (ctl:List Ctl),Wf t s d lo la cx→Sc lo la ctl→ctl.length+d≤3→Both t d ctl s
theorem st_case (h1:∀ d lo la cx,Wf t true d lo la cx→False) (h0:∀ lo la cx,Wf t false 0 lo la cx→False) (k:∀ d lo la cx ctl,Wf t false (d+1) lo la cx→Sc lo la ctl→ctl.length+d+1≤3→Both t (d+1) ctl false):Gb t:=fun s d lo la cx ctl h S hl=>by
 rcases s with _ | _
 ·rcases d with _ | d
  ·exact (h0 lo la cx h).elim
  ·exact k d lo la cx ctl h S hl
 ·exact (h1 d lo la cx h).elim
theorem fit (h:CO (opC t ctl) z α (exec t) ctl) (h2:Te (exec t) β) (q1:z≤6 * cZ d+30) (q2:α≤6 * cA d+11) (q3:β≤6 * cA d+11):Both t (d+1) ctl false:=⟨h.le q1 q2,h2.le q3⟩
theorem ec_le (hl:ctl.length+d+1≤3):ec ctl+3≤11:=by
 rw [ec_len]
 exact Nat.le_trans (Nat.add_le_add_right (Nat.mul_le_mul_left 2 (Nat.le_trans (Nat.le_add_right _ d) (Nat.le_of_succ_le_succ hl))) 5) (by decide)
theorem ge6 {a:Nat} (h:a+3≤11):a+3≤6 * b+11∧a+3≤6 * b+30:=⟨Nat.le_trans h (Nat.le_add_left _ _),Nat.le_trans h (Nat.le_trans (by decide) (Nat.le_add_left _ _))⟩
theorem two_le:2≤cA d:=by
 rcases d with _ | d
 ·exact Nat.le_refl _
 ·exact Nat.le_add_left _ _
theorem cA3 (hl:ctl.length+d+1≤3):cA d≤154:=cA_le (Nat.le_trans (Nat.le_add_left d _) (Nat.le_of_succ_le_succ hl))
theorem up1 (hl:ctl.length+d+1≤3):(c :: ctl).length+d≤3:=by rw [List.length_cons,Nat.add_right_comm]; exact hl
theorem g_cons {a r:Tr} (ha:Gb a) (hr:Gb r):Gb (.cons a r):=fun s d lo la cx ctl h S hl=>by
 rcases s with _ | _
 ·exact h.elim
 ·have h1:=ha _ _ _ _ _ _ h.1 S hl
  have h2:=hr _ _ _ _ _ _ h.2 S hl
  refine ⟨co_cons h1.1 h2.1,Te.le (fun w hd hl=>?_) (Nat.le_of_eq (Nat.add_comm (cA d) _))⟩
  obtain ⟨r2,w2,h,k⟩:=bind_tot (f:=fun q=>match q with
   | .norm=>exec r
   | q=>fun w K=>K q w) h1.2 (b:=cA d * r.len) (fun q=>by rcases q with _ | _ | _ | _ | _; exact h2.2; all_goals exact one_tot) w hd hl
  exact ⟨r2,w2,fun K q=>exec_mono a _ _ _ (fun q w c=>by rcases q with _ | _ | _ | _ | _ <;> exact c) (h K q),k⟩
theorem g_brk {l:Option Nat}:Gb (.brk l):=st_case (fun d lo la cx h=>by rcases l with _ | _ <;> exact h.elim) (fun lo la cx h=>by rcases l with _ | _ <;> exact h.elim) fun d lo la cx ctl h S hl=>by
 have e:=ge6 (b:=cZ d) (ec_le hl)
 have e2:=ge6 (b:=cA d) (ec_le hl)
 refine fit (k_brk ?_ S.wf) one_tot (Nat.le_trans (Nat.le_add_right _ 3) e.2) (Nat.le_trans (Nat.le_add_right _ 3) e2.1) (Nat.zero_le _)
 rcases l with _ | j
 ·obtain ⟨c,hc,hk⟩:=sc_some S h; exact ⟨c,hc,(loop_brk (l:=none) hk fun _ h=>nomatch h).1⟩
 ·exact Or.elim h (S.la j) fun h=>(S.lo j h).imp fun c h=>⟨h.1,h.2.2⟩
theorem g_con {l:Option Nat}:Gb (.con l):=st_case (fun d lo la cx h=>by rcases l with _ | _ <;> exact h.elim) (fun lo la cx h=>by rcases l with _ | _ <;> exact h.elim) fun d lo la cx ctl h S hl=>by
 have e:=ge6 (b:=cZ d) (ec_le hl)
 have e2:=ge6 (b:=cA d) (ec_le hl)
 refine fit (k_con ?_ S.wf) one_tot (Nat.le_trans (Nat.le_add_right _ 3) e.2) (Nat.le_trans (Nat.le_add_right _ 3) e2.1) (Nat.zero_le _)
 rcases l with _ | j
 ·obtain ⟨c,hc,hk⟩:=sc_some S h; exact ⟨c,hc,(loop_brk (l:=none) hk fun _ h=>nomatch h).2⟩
 ·exact (S.lo j h).imp fun c h=>⟨h.1,(loop_brk h.2.1 fun _ e=>Option.some.inj e▸h.2.2).2⟩
theorem g_fi {l:Nat} {iv:Bool} (hb:Gb t):Gb (.fi l iv nm t):=st_case (fun _ _ _ _ h=>h) (fun _ _ _ h=>h) fun d lo la cx ctl h S hl=>by
 have h1:=fun bh ag=>hb false d _ _ _ (⟨.keys,[l],bh,ag⟩ :: ctl) h.2 (S.loop trivial isIn_self rfl) (up1 hl)
 have hd:2≤cA d:=two_le
 refine fit (k_fi fun bh ag=>(h1 bh ag).1) (β:=1+2 * (cA d+1)) (val_tot (f:=fun v w K=>v≤2∧keyRounds [l] (cond iv 59 60) (exec t) v 0 w fun r w=>K (r.out l) w) fun v hv w hg hr=>?_) (by lia) (by lia) (by lia)
 obtain ⟨r,w2,k1,k2⟩:=((ret_tot (f:=Res.out l) (keys_tot (ls:=[l]) (x:=cond iv 59 60) (h1 0 0).2 v 0)).le (Nat.mul_le_mul_right _ (hv h.1))) w hg hr
 exact ⟨r,w2,fun K q=>⟨hv h.1,k1 K q⟩,k2⟩
theorem opt_both {hc:Bool} (h:match hc with
  | true=>Both t d ctl true∧t.len≤2
  | false=>t=.nil):CO (comp t ctl) (cZ d * 2) (cA d * 2) (exec t) ctl∧Te (exec t) (cA d * 2):=by
 rcases hc with _ | _
 ·exact (show t=.nil from h)▸⟨co_nil.le (Nat.zero_le _) (Nat.zero_le _),one_tot⟩
 ·exact list_both h.1 h.2
theorem g_len {hl:Bool} {rest:Nat} (q:ctl.length+d+1≤3):(gCtl hl rest ctl).length+d≤3:=by
 rcases hl with _ | _
 ·exact Nat.le_of_succ_le q
 ·exact up1 q
theorem g_try {hc hl:Bool} {b c l:Tr} (hb:Gb b) (hc':Gb c) (hl':Gb l):Gb (.try b hc c hl l):=st_case (fun _ _ _ _ h=>h) (fun _ _ _ h=>h) fun d lo la cx ctl h S q=>by
 have h1:=fun rest=>list_both (hb _ _ _ _ _ (gCtl hl rest ctl) h.2.1.2 (gctl_wf S) (g_len q)) h.2.1.1.2
 have h2:=fun rest=>opt_both (hc:=hc) (t:=c) (d:=d) (ctl:=gCtl hl rest ctl) (by
  have h:=h.2.2.1
  rcases hc with _ | _
  ·exact h
  ·exact ⟨hc' _ _ _ _ _ _ h.2 (gctl_wf S) (g_len q),h.1.2⟩)
 have h3:=opt_both (hc:=hl) (t:=l) (d:=d) (ctl:=⟨.fin,[],0,0⟩ :: ctl) (by
  have h:=h.2.2.2
  rcases hl with _ | _
  ·exact h
  ·exact ⟨hl' _ _ _ _ _ _ h.2 (S.more rfl) (up1 q),h.1.2⟩)
 have hd:=two_le (d:=d)
 exact fit (k_try (fun rest=>(h1 rest).1) (fun rest=>(h2 rest).1) h3.1) (bind_tot (h1 0).2 fun r=>bind_tot (caught_tot (h2 0).2) fun r=>last_tot h3.2 :) (by lia) (by lia) (by lia)
theorem all_both:∀ t:Tr,Gb t:=by
 intro t
 induction t with
 | nil=>
  exact fun s d lo la cx ctl h S hl=>by
   rcases s with _ | _
   ·exact h.elim
   ·exact ⟨co_nil,one_tot⟩
 | cons a r ha hr=>exact g_cons ha hr
 | expr nm=>
  exact fun s d lo la cx ctl h S hl=>by
   rcases s with _ | _
   ·exact ⟨k_expr.le (by rcases d with _ | _; exact Nat.le_refl _; exact Nat.le_add_left _ _) two_le,(val_tot (f:=fun _ w K=>K .norm w) fun _ _=>one_tot (a:=1)).le two_le⟩
   ·exact h.elim
 | var nm=>exact st_case (fun _ _ _ _ h=>h) (fun _ _ _ h=>h) fun d lo la cx ctl h S hl=>fit k_var (val_tot fun _ _=>set_te) (Nat.le_add_left _ _) (Nat.le_add_left _ _) (Nat.le_add_left _ _)
 | thr j=>exact st_case (fun _ _ _ _ h=>h) (fun _ _ _ h=>h) fun d lo la cx ctl h S hl=>fit (k_thr h) one_tot (Nat.le_add_left _ _) (Nat.le_add_left _ _) (Nat.zero_le _)
 | ret o=>
  exact st_case (fun _ _ _ _ h=>h) (fun _ _ _ h=>h) fun d lo la cx ctl h S hl=>fit (k_ret S.wf) (β:=1) (by
    rcases o with _ | nm
    ·exact one_tot
    ·exact val_tot (a:=0) fun _ _=>one_tot) (ge6 (ec_le hl)).2 (ge6 (ec_le hl)).1 (Nat.le_add_left _ _)
 | brk o=>exact g_brk
 | con o=>exact g_con
 | if1 nm a ha=>
  exact st_case (fun _ _ _ _ h=>h) (fun _ _ _ h=>h) fun d lo la cx ctl h S hl=>by
   have h1:=ha false _ _ _ _ _ h.2 S (Nat.le_of_succ_le hl)
   exact fit (k_if1 h.1 h1.1) (val_tot fun v _=>nz_tot h1.2 one_tot) (by lia) (by lia) (by lia)
 | if2 nm a b ha hb=>
  exact st_case (fun _ _ _ _ h=>h) (fun _ _ _ h=>h) fun d lo la cx ctl h S hl=>by
   have h1:=ha false _ _ _ _ _ h.2.1 S (Nat.le_of_succ_le hl)
   have h2:=hb false _ _ _ _ _ h.2.2 S (Nat.le_of_succ_le hl)
   exact fit (k_if2 h.1 h1.1 h2.1) (val_tot fun v _=>nz_tot h1.2 h2.2) (by lia) (by lia) (by lia)
 | wh l nm b hb=>
  exact st_case (fun _ _ _ _ h=>h) (fun _ _ _ h=>h) fun d lo la cx ctl h S hl=>by
   have h1:=fun bh ag=>hb false d _ _ _ (⟨.loop,[l],bh,ag⟩ :: ctl) h.2 (S.loop trivial isIn_self rfl) (up1 hl)
   exact fit (k_wh h.1 (cA3 hl) fun bh ag=>(h1 bh ag).1) (ret_tot (f:=Res.out l) (rounds_te h.1 (cA3 hl) (h1 0 0).2)) (by lia) (by lia) (by lia)
 | dw l b nm hb=>
  exact st_case (fun _ _ _ _ h=>h) (fun _ _ _ h=>h) fun d lo la cx ctl h S hl=>by
   have h1:=fun bh ag=>hb false d _ _ _ (⟨.loop,[l],bh,ag⟩ :: ctl) h.2 (S.loop trivial isIn_self rfl) (up1 hl)
   exact fit (k_dw h.1 (cA3 hl) fun bh ag=>(h1 bh ag).1) (ret_tot (f:=Res.out l) (ex:=fun w K=>rounds [l] nm (exec b) none (w.left.length+2) true w K) (a:=cA d+3) fun w hg hr=>round_tot (h1 0 0).2 (rounds_tot h.1 (cA3 hl) (h1 0 0).2 (w.left.length+1)) w hg (Nat.le_refl _) hr) (by lia) (by lia) (by lia)
 | fr l o nm sn b hb=>
  exact st_case (fun _ _ _ _ h=>h) (fun _ _ _ h=>h) fun d lo la cx ctl h S hl=>by
   have h1:=fun bh ag=>hb false d _ _ _ (⟨.loop,[l],bh,ag⟩ :: ctl) h.2.2.2 (S.loop trivial isIn_self rfl) (up1 hl)
   exact fit (k_fr h.2.1 (cA3 hl) fun bh ag=>(h1 bh ag).1) (ret_tot (f:=Res.out l) (step_tot (rounds_te h.2.1 (cA3 hl) (h1 0 0).2))) (by lia) (by lia) (by lia)
 | fi l iv nm b hb=>exact g_fi hb
 | blk l b hb=>
  exact st_case (fun _ _ _ _ h=>h) (fun _ _ _ h=>h) fun d lo la cx ctl h S hl=>by
   have h1:=fun bh=>list_both (hb true d _ _ _ (⟨.label,[l],bh,0⟩ :: ctl) h.2 (S.lab trivial isIn_self) (up1 hl)) h.1.2
   exact fit (k_blk fun bh=>(h1 bh).1) (ret_tot (f:=Res.out l) (h1 0).2) (by lia) (by lia) (by lia)
 | sw nm t1 a t2 b ha hb=>
  exact st_case (fun _ _ _ _ h=>h) (fun _ _ _ h=>h) fun d lo la cx ctl h S hl=>by
   have h1:=fun bh=>list_both (ha true d _ _ _ (⟨.choice,[],bh,0⟩ :: ctl) h.2.2.2.2.1.2 (S.more trivial) (up1 hl)) h.2.2.2.2.1.1.2
   have h2:=fun bh=>list_both (hb true d _ _ _ (⟨.choice,[],bh,0⟩ :: ctl) h.2.2.2.2.2.2 (S.more trivial) (up1 hl)) h.2.2.2.2.2.1.2
   have hd:=two_le (d:=d)
   exact fit (k_sw h.2.2.2.1 (fun bh=>(h1 bh).1) fun bh=>(h2 bh).1) (sw_te (h1 0).2 (h2 0).2) (by lia) (by lia) (by lia)
 | «try» b hc c hl l hb hc' hl'=>exact g_try hb hc' hl'
end
end
section
theorem find_filter {pl:Nat→Nat} {p:Nat}:∀ {hs:List Hd},findH pl p (hs.filter fun h=>Nat.blt (pl h.start) (pl h.stop))=findH pl p hs
 | []=>rfl
 | h :: r=>by
  have ih:=find_filter (pl:=pl) (p:=p) (hs:=r)
  show findH pl p (match Nat.blt (pl h.start) (pl h.stop) with
   | true=>h :: r.filter _
   | false=>r.filter _)=match Nat.ble (pl h.start) p&&Nat.blt p (pl h.stop) with
   | true=>some h
   | false=>findH pl p r
  cases e:Nat.blt (pl h.start) (pl h.stop) with
  | true=>
   show (match Nat.ble (pl h.start) p&&Nat.blt p (pl h.stop) with
    | true=>some h
    | false=>findH pl p (r.filter _))=_
   rw [ih]
  | false=>
   rw [ih]
   have:(Nat.ble (pl h.start) p&&Nat.blt p (pl h.stop))=false:=by
    cases e2:(Nat.ble (pl h.start) p&&Nat.blt p (pl h.stop)) with
    | false=>rfl
    | true=>
     have h2:=and2 e2
     rw [show Nat.blt (pl h.start) (pl h.stop)=true from Nat.ble_eq_true_of_le (Nat.lt_of_le_of_lt (Nat.le_of_ble_eq_true h2.1) (Nat.le_of_ble_eq_true h2.2))] at e
     cases e
   rw [this]
theorem plain2 {ts:Tr} (hl:Ln ts) (hw:Wf ts true 3 [] [] false):comp ts [] CS.init (GoodC ts):=by
 have key:=list_both (all_both ts true 3 [] [] false [] hw ⟨fun _ h=>(nomatch h),fun _ h=>(nomatch h),fun _ h=>(nomatch h)⟩ (by decide)) hl.2
 have P:Pre [] [] (1+cZ 3 * 2) CS.init:=⟨by decide,fun _ h=>(nomatch h),fun _ _ _ _=>rfl,fun _ h=>(nomatch h),fun _ h=>(nomatch h),Nat.le_refl _⟩
 refine key.1 [] 1 CS.init _ P (fun d h=>by cases h; rfl) fun s D=>?_
 have h1:s.code.length+s.labels.length+s.hs.length < lim:=D.P.room
 refine ⟨by lia,by lia,fun i hi l e=>(D.P.plc i hi l e).resolve_right (List.not_mem_nil),D.P.hpl,fun ds h12 hd=>?_⟩
 have hp:(W.mk [] ds 70).pot+cA 3 * 2≤lim:=by
  show 0+160 * ds.length+1810≤100000
  lia
 obtain ⟨r,w,h,k⟩:=key.2 ⟨[],ds,70⟩ hd hp
 refine ⟨r,w,h _ ⟨rfl,rfl⟩,?_⟩
 have pl:∀ l p,s.pos l p→s.unit.pl l=p:=fun l p ⟨b,e,q⟩=>by
  show ((s.labels[l]?).bind (·.pos)).getD 0=p
  rw [e]
  show (b.pos).getD 0=p
  rw [q]; rfl
 have fd:∀ p,findH s.unit.pl p s.unit.hs=findH s.unit.pl p s.hs:=fun p=>find_filter
 have E:Ext s.unit s:=⟨⟨[],(List.append_nil _).symm⟩,pl,⟨[],fun p=>by rw [List.append_nil]; exact fd p⟩⟩
 have C:Cx s.unit (fun r' w'=>r'=r∧w'=w) [] CS.init s [] 1 fun r' w' _=>r'=r∧w'=w:=by
  refine ⟨fun w' kp d hd h n hn hk=>?_,fun _ _ _ _ h=>h.elim,fun _ _ _ _ h=>h.elim,fun k v p w' kp a h9 _ e h=>?_,fun v w' kp _ h=>h,fun f p w' kp e u h=>?_⟩
  ·cases n with
   | zero=>exact absurd hn (by lia)
   | succ n=>
    show match s.code[s.code.length]? with
     | none=>s.code.length=s.code.length∧([]:List SV)=[]∧Res.norm=r∧w'=w
     | some i=>_
    rw [List.getElem?_eq_none (Nat.le_refl _)]
    exact ⟨rfl,rfl,h⟩
  ·refine .step (g:=2) (a 0 _ rfl) ?_
   show match Nat.beq k 9 with
    | true=>_
    | false=>(match lookN k kp with
     | some v=>Rn s.unit (fun r' w'=>r'=r∧w'=w) 2 ⟨p+1,[.s v],w',kp⟩
     | none=>False)
   rw [h9,e]
   exact .step (g:=1) (a 1 _ rfl) h
  ·unfold Thr
   rw [fd,u.2.2]
   exact h
 have hr:=D.sim rfl s.unit _ 1 [] _ E rfl C ⟨[],ds,70⟩ [] (h _ fun _ _=>⟨rfl,rfl⟩)
 refine hr 4000 ?_ (show 4000≤lim by decide)
 show 1+1810+160 * ds.length≤4000
 lia
theorem main3 {ns:List Int}:callN (txt (scrOf ns)) 61 1003 [.gl 1004] (fun v _=>v=.bool true) ⟨[],fun _=>none⟩:=main2 fun ts=>plain2
end
end Mine
namespace Snd
open Mine Hd PySem PySem.W PySem.Calls PyProof.Rows
section
noncomputable def liO (vs:List Value) (n:Nat):Obj:={ cls:=.type "list",data:=.seq vs.toArray n }
noncomputable def tuO (vs:List Value) (n:Nat):Obj:={ cls:=.type "tuple",data:=.seq vs.toArray n }
noncomputable def inO (c d:Addr):Obj:={ cls:=.ref c,dict:=some d,data:=.plain }
noncomputable def diO (es:List DictEntry) (n:Nat):Obj:={ cls:=.type "dict",data:=.dict es.toArray n }
noncomputable def meO (f self:Addr):Obj:={ cls:=.type "method",data:=.fields #[.ref f,.ref self] }
noncomputable def attrNames:List String:=[
 "text","pc","name","params","code","consts","units","handlers","lines","local_count",
 "cell_count","captures","is_strict","uses_arguments","self_slot","arguments_place","param_places","line","places","made",
 "depth","depths","scope","view","controls","result","kind","labels","behind","again",
 "parts","sort","find","is_constant","caught","place",
 "here","emit","label","jump","const","handler","place_of","placed_code","placed_handlers","unit",
 "is_open","set_line","new_label","meet","add","add_const","add_named","jump_to","stand","enter",
 "mark","new_local","get_name","set_place","set_name","keep","copy_local","is_loop","value","statements",
 "statement","drop_result","variables","condition","labelled","loop","body","while_loop","do_loop","for_loop",
 "keys_loop","take_key","leave_function","guarded","kept_result","close_guarded","last",
 "append","pop","extend","call","assign","other_value","element","__init__"]
noncomputable def aS (f:Nat):Str:=Str.ofString (attrNames.getD f "")
noncomputable def tb (n:Nat):Str:=Str.ofString (tab.getD n "")
set_option genCtorIdx true in
inductive Sl where
 | r (n:Nat)
 | d (a:Addr)
set_option genCtorIdx true in
inductive Ro where
 | no
 | fz (o:Obj)
 | ob (s:Sl)
 | di (s:Sl)
 | tab
noncomputable def _root_.Mine.NH.at (σ:NH):Sl→Option Ob
 | .r n=>σ.reg[n]?
 | .d a=>σ.dyn a
noncomputable abbrev Ka:=Addr→Ro
noncomputable def okc (c:Nat):Bool:=(lkp c mthL).isSome
noncomputable def lamP (k:Nat):Arguments × PySem.Expr × Scope:=match (sBody (st 140))[k+2]? with
 | some (.Assign _ (.Lambda a b sc _) _)=>(a,b,sc)
 | _=>(⟨[],[],none,[],[],none,[]⟩,.Constant .none 0 default,{ kind:=.function,names:=[],isGenerator:=false,isCoroutine:=false })
structure LamAt (κ:Ka) (k:Nat) (a:Addr) (fd:FuncData):Prop where
 at':κ a=.fz { cls:=.type "function",data:=.func fd }
 params:fd.params=(lamP k).1
 body:fd.body=.expr (lamP k).2.1
 scope:fd.scope=(lamP k).2.2
 glo:fd.globals=mainGlobals
 clo:fd.closure=[]
 dfl:fd.defaults=.none
 kwd:fd.kwdefaults=.none
 bui:fd.builtins=builtinsNs
 code:∃ c o vs t,fd.code=.ref c∧κ c=.fz o∧o.data=.fields vs∧vs[1]?=some (.str fd.qualname t)
noncomputable def DObj {K:Type} [DecidableEq K] {w:World} (knd:KeyKind p w K) (o:Obj) (kvs:List (K × Value)):Prop:=
 ∃ es ep,o.ExactDict∧o.data=.dict es ep∧KeysOf knd es∧Pairs knd es.toList kvs∧(kvs.map (·.1)).Nodup
inductive All2 (R:NV→Value→Prop):List NV→List Value→Prop
 | nil:All2 R [] []
 | cons {x:NV} {v:Value} {xs:List NV} {vs:List Value}:R x v→All2 R xs vs→All2 R (x :: xs) (v :: vs)
inductive AllF (R:NV→Value→Prop):List Nat→List NV→List DictEntry→Prop
 | nil:AllF R [] [] []
 | cons {k:Nat} {x:NV} {e:DictEntry} {ks:List Nat} {xs:List NV} {es:List DictEntry} (t:Tok):e.key=.str (aS k) t→k < 36→R x e.val→AllF R ks xs es→AllF R (k :: ks) (x :: xs) (e :: es)
inductive VR (w:World) (κ:Ka):NV→Value→Prop
 | none:VR w κ .none .none
 | bool (b:Bool):VR w κ (.bool b) (.bool b)
 | int (i:Int) (t:Tok):VR w κ (.int i) (.int i t)
 | str {n:Nat} (t:Tok):n < tab.length→VR w κ (.str n) (.str (tb n) t)
 | tup {l:List NV} {a:Addr} {vs:List Value} {m:Nat}:κ a=.fz (tuO vs m)→All2 (VR w κ) l vs→VR w κ (.tup l) (.ref a)
 | fl {l:List NV} {a:Addr} {vs:List Value} {m:Nat}:κ a=.fz (liO vs m)→All2 (VR w κ) l vs→l.length≤cap→VR w κ (.fl l) (.ref a)
 | fi {c:Nat} {ks:List Nat} {l:List NV} {a d:Addr} {es:List DictEntry} {m:Nat}:κ a=.fz (inO c d)→κ d=.fz (diO es m)→AllF (VR w κ) ks l es→okc c=true→VR w κ (.fi c ks l) (.ref a)
 | fd {ks:List Nat} {l:List NV} {a:Addr} {o:Obj} {kvs:List (Str × Value)}:κ a=.fz o→DObj (PySem.strKind p w) o kvs→kvs.map (·.1)=ks.map tb→(∀ k∈ks,k < tab.length)→All2 (VR w κ) l (kvs.map (·.2))→VR w κ (.fd ks l) (.ref a)
 | lst {n:Nat} {a:Addr}:κ a=.ob (.r n)→VR w κ (.lst n) (.ref a)
 | ins {n:Nat} {a:Addr}:κ a=.ob (.r n)→VR w κ (.ins n) (.ref a)
 | dct {n:Nat} {a:Addr}:κ a=.ob (.r n)→VR w κ (.dct n) (.ref a)
 | dl (a:Addr):VR w κ (.dl a) (.ref a)
 | di (a:Addr):VR w κ (.di a) (.ref a)
 | fn {a:Addr}:a < 2000→VR w κ (.fn a) (.ref a)
 | cls (a:Addr):VR w κ (.cls a) (.ref a)
 | gl (a:Addr):VR w κ (.gl a) (.ref a)
 | lam {k:Nat} {a:Addr} {fd:FuncData}:LamAt κ k a fd→VR w κ (.lam k) (.ref a)
 | bnd {n f:Nat} {x q:Addr}:f < 2000→κ q=.fz (meO f x)→κ x=.ob (.r n)→VR w κ (.bnd n f) (.ref q)
noncomputable abbrev VRs (w:World) (κ:Ka):List NV→List Value→Prop:=All2 (VR w κ)
noncomputable abbrev VFs (w:World) (κ:Ka):List Nat→List NV→List DictEntry→Prop:=AllF (VR w κ)
structure Le (κ κ':Ka):Prop where
 fz:∀ b o,κ b=.fz o→κ' b=.fz o
 ob:∀ b n,κ b=.ob (.r n)→κ' b=.ob (.r n)
section
variable {w:World} {κ κ' κ'':Ka}
theorem Le.refl:Le κ κ:=⟨fun _ _ h=>h,fun _ _ h=>h⟩
theorem Le.trans (k:Le κ κ') (k2:Le κ' κ''):Le κ κ'':=⟨fun b o h=>k2.fz b o (k.fz b o h),fun b o h=>k2.ob b o (k.ob b o h)⟩
theorem LamAt.mono (k:Le κ κ') {j:Nat} {a:Addr} {fd:FuncData} (h:LamAt κ j a fd):LamAt κ' j a fd:=by
 refine (h.code).elim fun c y0=>y0.elim fun o y0=>y0.elim fun vs y0=>y0.elim fun t y0=>?_
 exact ⟨k.fz _ _ h.at',h.params,h.body,h.scope,h.glo,h.clo,h.dfl,h.kwd,h.bui,c,o,vs,t,y0.1,k.fz _ _ y0.2.1,y0.2.2⟩
theorem VR.mono (k:Le κ κ') {x:NV} {v:Value} (h:VR w κ x v):VR w κ' x v:=
 VR.rec (motive_1:=fun x v _=>VR w κ' x v) (motive_2:=fun l vs _=>All2 (VR w κ') l vs) (motive_3:=fun ks l es _=>AllF (VR w κ') ks l es)
  .none .bool .int .str (fun e _ r=>.tup (k.fz _ _ e) r) (fun e _ h r=>.fl (k.fz _ _ e) r h) (fun e e2 _ h r=>.fi (k.fz _ _ e) (k.fz _ _ e2) r h) (fun e d q g _ r=>.fd (k.fz _ _ e) d q g r)
  (fun e=>.lst (k.ob _ _ e)) (fun e=>.ins (k.ob _ _ e)) (fun e=>.dct (k.ob _ _ e)) .dl .di .fn .cls .gl (fun h=>.lam (h.mono k)) (fun h e e2=>.bnd h (k.fz _ _ e) (k.ob _ _ e2))
  .nil (fun _ _ a b=>.cons a b) .nil (fun t e h _ _ a b=>.cons t e h a b) h
theorem All2.mono (k:Le κ κ') {x:List NV} {v:List Value} (r:All2 (VR w κ) x v):All2 (VR w κ') x v:=by
 induction r with
 | nil=>exact .nil
 | cons a _ ih=>exact .cons (a.mono k) ih
theorem AllF.mono (k:Le κ κ') {ks:List Nat} {x:List NV} {v:List DictEntry} (r:AllF (VR w κ) ks x v):AllF (VR w κ') ks x v:=by
 induction r with
 | nil=>exact .nil
 | cons t e h a _ ih=>exact .cons t e h (a.mono k) ih
variable {R:NV→Value→Prop} {xs ys:List NV} {vs us:List Value}
theorem All2.length (r:All2 R xs vs):xs.length=vs.length:=by
 induction r with
 | nil=>rfl
 | cons _ _ ih=>exact congrArg (·+1) ih
theorem All2.append (r:All2 R ys us) (q:All2 R xs vs):All2 R (xs++ys) (vs++us):=by
 induction q with
 | nil=>exact r
 | cons a _ ih=>exact .cons a ih
theorem All2.get (r:All2 R xs vs):∀ (i:Nat) {x:NV},xs[i]?=some x→∃ v,vs[i]?=some v∧R x v:=by
 induction r with
 | nil=>exact fun i x e=>by cases e
 | cons a _ ih=>
  intro i x e
  induction i using Nat.casesOn with
  | zero=>obtain rfl:=Option.some.inj e; exact ⟨_,rfl,a⟩
  | succ i=>exact ih i e
theorem All2.take (r:All2 R xs vs):∀ n:Nat,All2 R (xs.take n) (vs.take n):=by
 induction r with
 | nil=>exact fun n=>by rw [List.take_nil,List.take_nil]; exact .nil
 | cons a _ ih=>
  intro n
  induction n using Nat.casesOn with
  | zero=>exact .nil
  | succ n=>exact .cons a (ih n)
theorem All2.drop (r:All2 R xs vs):∀ n:Nat,All2 R (xs.drop n) (vs.drop n):=by
 induction r with
 | nil=>exact fun n=>by rw [List.drop_nil,List.drop_nil]; exact .nil
 | cons a b ih=>
  intro n
  induction n using Nat.casesOn with
  | zero=>exact .cons a b
  | succ n=>exact ih n
theorem All2.reverse (r:All2 R xs vs):All2 R xs.reverse vs.reverse:=by
 induction r with
 | nil=>exact .nil
 | cons a _ ih=>rw [List.reverse_cons,List.reverse_cons]; exact (All2.cons a .nil).append ih
theorem All2.set (r:All2 R xs vs) {x:NV} {v:Value} (q:R x v):∀ i:Nat,All2 R (xs.set i x) (vs.set i v):=by
 induction r with
 | nil=>exact fun i=>.nil
 | cons a b ih=>
  intro i
  induction i using Nat.casesOn with
  | zero=>exact .cons q b
  | succ i=>exact .cons a (ih i)
theorem All2.split:∀ {xs:List NV} {us:List Value},All2 R (xs++ys) us→∃ a b,us=a++b∧All2 R xs a∧All2 R ys b:=by
 intro xs
 induction xs with
 | nil=>exact fun {us} r=>⟨[],us,rfl,.nil,r⟩
 | cons x xs ih=>
  intro us r
  cases r with
  | cons a r=>
   refine (ih r).elim fun u y0=>y0.elim fun v y0=>?_
   exact ⟨_ :: u,v,by rw [y0.1]; rfl,.cons a y0.2.1,y0.2.2⟩
end
end
section
noncomputable abbrev tabP:Addr:=899
noncomputable def lamQual:Str := "_law_view.<locals>.<lambda>"
structure Z where
 h:Heap
 t:Nat
 σ:NH
 κ:Ka
noncomputable abbrev Z.s (z:Z) (s₀:Shared):Shared:=⟨z.h,s₀.gens,s₀.drawn,z.t,s₀.os⟩
noncomputable def TabAt (κ:Ka) (h:Heap):Prop:=∃ ps:Array Value,h.get? tabP=some (tabObj ps)∧TriplesOk ps.toList∧∀ pos cv,codeAmong pos ps.toList=some cv→∃ c o vs t,cv=.ref c∧κ c=.fz o∧o.data=.fields vs∧vs[1]?=some (.str lamQual t)
noncomputable def OR (w:World) (κ:Ka) (h:Heap) (b:Addr) (s:Sl):Ob→Prop
 | .L l=>l.length≤cap∧∃ vs m,h.get? b=some (liO vs m)∧VRs w κ l vs
 | .I c ks l=>okc c=true∧ks.Nodup∧∃ d es m,h.get? b=some (inO c d)∧κ d=.di s∧h.get? d=some (diO es m)∧VFs w κ ks l es
 | .D ks l=>∃ kvs,h.DictOf (PySem.strKind p w) b kvs∧kvs.map (·.1)=ks.map tb∧(∀ k∈ks,k < tab.length)∧VRs w κ l (kvs.map (·.2))∧kvs.length≤cap
 | .E l=>∃ kvs,h.DictOf (intKind p w) b kvs∧kvs.map (·.1)=l.map (·.1)∧VRs w κ (l.map (·.2)) (kvs.map (·.2))∧kvs.length≤cap
structure Rel (w:World) (h₀:Heap) (z:Z):Prop where
 base:∀ b o,h₀.get? b=some o→z.κ b=.fz o
 fz:∀ b o,z.κ b=.fz o→z.h.get? b=some o
 own:∀ s ob,z.σ.at s=some ob→∃ b,z.κ b=.ob s∧OR w z.κ z.h b s ob
 inj:∀ a b,z.κ a=z.κ b→(∀ o,z.κ a≠.fz o)→z.κ a≠.no→a=b
 dyn:∀ b a,z.κ b=.ob (.d a)→b=a
 cov:∀ b s,z.κ b=.ob s→(z.σ.at s).isSome=true
 ddl:∀ b s,z.κ b=.di s→∃ c ks l,z.σ.at s=some (.I c ks l)
 live:∀ b,z.κ b≠.no→(z.h.get? b).isSome=true
 tab:z.κ tabP=.tab∧TabAt z.κ z.h
structure Go (X:Addr→Prop) (z z':Z):Prop where
 le:Le z.κ z'.κ
 no:∀ b o,z.κ b=.no→z.h.get? b=some o→¬ X b→z'.κ b=.no∧z'.h.get? b=some o
 live:∀ b,(z.h.get? b).isSome=true→(z'.h.get? b).isSome=true∨X b
noncomputable abbrev X0:Addr→Prop:=fun _=>False
noncomputable def kset (κ:Ka) (a:Addr) (ρ:Ro):Ka:=fun b=>if b=a then ρ else κ b
section
variable {w:World} {h₀:Heap} {z z' z'':Z} {κ κ':Ka} {h h':Heap} {X Y:Addr→Prop} {a b d:Addr} {s:Sl} {ob ob':Ob} {o od:Obj} {t:Nat} {ρ:Ro}
theorem kset_self:kset κ a ρ a=ρ:=if_pos rfl
theorem kset_ne (h:b≠a):kset κ a ρ b=κ b:=if_neg h
theorem Go.refl:Go X z z:=⟨.refl,fun _ _ e e2 _=>⟨e,e2⟩,fun _ e=>.inl e⟩
theorem Go.trans (g:Go X z z') (k:Go X z' z''):Go X z z'':=⟨g.le.trans k.le,fun b o e e2 nx=>k.no b o (g.no b o e e2 nx).1 (g.no b o e e2 nx).2 nx,fun b e=>(g.live b e).elim (k.live b) .inr⟩
theorem Go.weaken (g:Go X z z') (h:∀ b,X b→Y b∨z.h.get? b=none):Go Y z z':=⟨g.le,fun b o e e2 ny=>g.no b o e e2 fun x=>(h b x).elim ny fun q=>(nomatch (q.symm.trans e2)),fun b e=>(g.live b e).elim .inl fun x=>(h b x).elim .inr fun q=>(by rw [q] at e; cases e)⟩
theorem Rel.noOf (R:Rel w h₀ z) (e:z.h.get? a=none):z.κ a=.no:=by
 cases q:z.κ a with
 | no=>rfl
 | _=>have:=R.live a (by rw [q]; exact fun h=>nomatch h); rw [e] at this; cases this
theorem Rel.keep0 (R:Rel w h₀ z):∀ b o,h₀.get? b=some o→z.h.get? b=some o:=fun b o e=>R.fz b o (R.base b o e)
theorem OR.keep (q:OR w κ h b s ob) (k:Le κ κ') (hd:∀ d,κ d=.di s→κ' d=.di s∧∀ o,h.get? d=some o→h'.get? d=some o) (hb:∀ o,h.get? b=some o→h'.get? b=some o):OR w κ' h' b s ob:=by
 cases ob with
 | L l=>obtain ⟨c,vs,m,e,r⟩:=q; exact ⟨c,vs,m,hb _ e,r.mono k⟩
 | I c ks l=>obtain ⟨c,nd,d,es,m,e,q,e2,r⟩:=q; exact ⟨c,nd,d,es,m,hb _ e,(hd d q).1,(hd d q).2 _ e2,r.mono k⟩
 | D ks l=>obtain ⟨kvs,⟨o,es,ep,e,q⟩,e2,g,r,c⟩:=q; exact ⟨kvs,⟨o,es,ep,hb _ e,q⟩,e2,g,r.mono k,c⟩
 | E l=>obtain ⟨kvs,⟨o,es,ep,e,q⟩,e2,r,c⟩:=q; exact ⟨kvs,⟨o,es,ep,hb _ e,q⟩,e2,r.mono k,c⟩
theorem TabAt.mono (q:TabAt κ h) (k:Le κ κ') (e:∀ o,h.get? tabP=some o→h'.get? tabP=some o):TabAt κ' h':=by
 obtain ⟨ps,g,tr,q⟩:=q
 refine ⟨ps,e _ g,tr,fun pos cv hc=>?_⟩
 obtain ⟨c,o,vs,t,e1,e2,r⟩:=q pos cv hc
 exact ⟨c,o,vs,t,e1,k.fz _ _ e2,r⟩
theorem Rel.turn (R:Rel w h₀ z) (hz:∀ b,X b→z.κ b=.no) (sb:∀ b,¬ X b→b≠tabP→∀ o,z.h.get? b=some o→h'.get? b=some o) (ht:TabAt z.κ h'):Rel w h₀ ⟨h',t,z.σ,z.κ⟩∧Go X z ⟨h',t,z.σ,z.κ⟩:=by
 have key:∀ b,z.κ b≠.no→z.κ b≠.tab→∀ o,z.h.get? b=some o→h'.get? b=some o:=fun b n n2 o e=>sb b (fun x=>n (hz b x)) (fun q=>n2 (q▸R.tab.1)) o e
 refine ⟨⟨R.base,fun b o e=>key b (by rw [e]; exact fun h=>nomatch h) (by rw [e]; exact fun h=>nomatch h) o (R.fz b o e),fun s ob e=>?_,R.inj,R.dyn,R.cov,R.ddl,fun b e=>?_,R.tab.1,ht⟩,⟨.refl,fun b o e e2 nx=>⟨e,sb b nx (fun q=>by rw [q,R.tab.1] at e; cases e) o e2⟩,fun b e=>?_⟩⟩
 ·obtain ⟨b,e1,q⟩:=R.own s ob e
  exact ⟨b,e1,q.keep .refl (fun d e=>⟨e,key d (by rw [e]; exact fun h=>nomatch h) (by rw [e]; exact fun h=>nomatch h)⟩) (key b (by rw [e1]; exact fun h=>nomatch h) (by rw [e1]; exact fun h=>nomatch h))⟩
 ·by_cases q:z.κ b=.tab
  ·have:=R.inj b tabP (q.trans R.tab.1.symm) (by rw [q]; exact fun _ h=>nomatch h) e
   obtain ⟨ps,g,_⟩:=ht
   rw [this,show (Z.mk h' t z.σ z.κ).h.get? tabP=some (tabObj ps) from g]; rfl
  ·obtain ⟨o,ho⟩:=Option.isSome_iff_exists.mp (R.live b e)
   rw [show (Z.mk h' t z.σ z.κ).h.get? b=some o from key b e q o ho]; rfl
 ·by_cases x:X b
  ·exact .inr x
  ·by_cases q:b=tabP
   ·obtain ⟨ps,g,_⟩:=ht
    exact .inl (by rw [q,show (Z.mk h' t z.σ z.κ).h.get? tabP=some (tabObj ps) from g]; rfl)
   ·obtain ⟨o,ho⟩:=Option.isSome_iff_exists.mp e
    exact .inl (by rw [show (Z.mk h' t z.σ z.κ).h.get? b=some o from sb b x q o ho]; rfl)
theorem Rel.apart (R:Rel w h₀ z) (hz:∀ b,X b→z.κ b=.no) (sb:∀ b,¬ X b→∀ o,z.h.get? b=some o→h'.get? b=some o):Rel w h₀ ⟨h',t,z.σ,z.κ⟩∧Go X z ⟨h',t,z.σ,z.κ⟩:=
 R.turn hz (fun b n _=>sb b n) (R.tab.2.mono .refl fun o e=>sb _ (fun x=>by have:=hz _ x; rw [R.tab.1] at this; cases this) o e)
theorem Rel.grow (R:Rel w h₀ z) (k:∀ b o,z.h.get? b=some o→h'.get? b=some o):Rel w h₀ ⟨h',t,z.σ,z.κ⟩∧Go X0 z ⟨h',t,z.σ,z.κ⟩:=R.apart (X:=X0) (fun _ x=>x.elim) fun b _ o=>k b o
theorem Rel.tagF (R:Rel w h₀ z) (n:z.κ a=.no) (e:z.h.get? a=some o):Rel w h₀ ⟨z.h,t,z.σ,kset z.κ a (.fz o)⟩∧Le z.κ (kset z.κ a (.fz o)):=by
 have ne:∀ {b ρ},z.κ b=ρ→ρ≠.no→b≠a:=fun {b ρ} e q h=>q (by rw [← e,h,n])
 have k:Le z.κ (kset z.κ a (.fz o)):=⟨fun b o' e=>(kset_ne (ne e fun h=>nomatch h)).trans e,fun b n e=>(kset_ne (ne e fun h=>nomatch h)).trans e⟩
 have inv:∀ {b},(∀ o,kset z.κ a (.fz o) b≠.fz o)→b≠a:=fun {b} h q=>h o (by rw [q,kset_self])
 have back:∀ {b ρ},kset z.κ a (.fz o) b=ρ→(∀ o,ρ≠.fz o)→z.κ b=ρ∧b≠a:=fun {b ρ} e q=>by
  have:b≠a:=fun h=>by rw [h,kset_self] at e; exact q o e.symm
  exact ⟨(kset_ne this).symm.trans e,this⟩
 refine ⟨⟨fun b o' h=>k.fz b o' (R.base b o' h),fun b o' h=>?_,fun s ob h=>?_,fun x y h h1 h2=>?_,fun b x h=>R.dyn b x (back h fun _ h=>nomatch h).1,fun b s h=>R.cov b s (back h fun _ h=>nomatch h).1,fun b s h=>R.ddl b s (back h fun _ h=>nomatch h).1,fun b h=>?_,?_,R.tab.2.mono k fun _ e=>e⟩,k⟩
 ·by_cases q:b=a
  ·subst q
   have h:kset z.κ b (.fz o) b=.fz o':=h
   rw [kset_self] at h; cases h; exact e
  ·exact R.fz b o' ((kset_ne q).symm.trans h)
 ·obtain ⟨b,e1,q⟩:=R.own s ob h
  exact ⟨b,(kset_ne (ne e1 fun h=>nomatch h)).trans e1,q.keep k (fun d e=>⟨(kset_ne (ne e fun h=>nomatch h)).trans e,fun _ e=>e⟩) fun _ e=>e⟩
 ·have hx:=back (rfl:kset z.κ a (.fz o) x=_) h1
  have hy:=back (rfl:kset z.κ a (.fz o) y=_) (fun o' q=>h1 o' (h.trans q))
  exact R.inj x y (hx.1.trans (h.trans hy.1.symm)) (by rw [hx.1]; exact h1) (by rw [hx.1]; exact h2)
 ·by_cases q:b=a
  ·subst q; show (z.h.get? b).isSome=true; rw [e]; rfl
  ·exact R.live b fun h2=>h ((kset_ne q).trans h2)
 ·exact (kset_ne (ne R.tab.1 fun h=>nomatch h)).trans R.tab.1
noncomputable def kob (κ:Ka) (a d:Addr) (s:Sl):Ka:=fun b=>if b=a then .ob s else if b=d then .di s else κ b
theorem Rel.tagO {σ':NH} (R:Rel w h₀ z) (n:z.κ a=.no) (nd:z.κ d=.no) (ns:z.σ.at s=none) (e:(z.h.get? a).isSome=true) (ed:(z.h.get? d).isSome=true) (hx:∀ x,s=.d x→a=x) (e1:σ'.at s=some ob) (e2:∀ s',s'≠s→σ'.at s'=z.σ.at s')
  (hI:d=a∨∃ c ks l,ob=.I c ks l) (q:OR w (kob z.κ a d s) z.h a s ob):Rel w h₀ ⟨z.h,t,σ',kob z.κ a d s⟩∧Le z.κ (kob z.κ a d s):=by
 have ne:∀ {b ρ},z.κ b=ρ→ρ≠.no→kob z.κ a d s b=ρ:=fun {b ρ} e q=>by
  unfold kob
  rw [if_neg fun h=>q (by rw [← e,h,n]),if_neg fun h=>q (by rw [← e,h,nd]),e]
 have k:Le z.κ (kob z.κ a d s):=⟨fun b o' e=>ne e (fun h=>nomatch h),fun b n e=>ne e (fun h=>nomatch h)⟩
 have back:∀ {b ρ},kob z.κ a d s b=ρ→(b=a∧ρ=.ob s)∨(b≠a∧b=d∧ρ=.di s)∨z.κ b=ρ:=fun {b ρ} e=>by
  unfold kob at e
  by_cases h1:b=a
  ·rw [if_pos h1] at e; exact .inl ⟨h1,e.symm⟩
  ·rw [if_neg h1] at e
   by_cases h2:b=d
   ·rw [if_pos h2] at e; exact .inr (.inl ⟨h1,h2,e.symm⟩)
   ·rw [if_neg h2] at e; exact .inr (.inr e)
 have nos:∀ b,z.κ b≠.ob s:=fun b h=>by have:=R.cov b s h; rw [ns] at this; cases this
 have nod:∀ b,z.κ b≠.di s:=fun b h=>by obtain ⟨_,_,_,h⟩:=R.ddl b s h; rw [ns] at h; cases h
 refine ⟨⟨fun b o' h=>k.fz b o' (R.base b o' h),fun b o' h=>?_,fun s' ob' h=>?_,fun x y h h1 h2=>?_,fun b x h=>?_,fun b s' h=>?_,fun b s' h=>?_,fun b h=>?_,ne R.tab.1 (fun h=>nomatch h),R.tab.2.mono k fun _ e=>e⟩,k⟩
 ·rcases back h with ⟨_,h⟩ | ⟨_,_,h⟩ | h
  ·cases h
  ·cases h
  ·exact R.fz b o' h
 ·by_cases hs:s'=s
  ·subst hs
   have h:σ'.at s'=some ob':=h
   rw [e1] at h; cases h
   exact ⟨a,if_pos rfl,q⟩
  ·have h:σ'.at s'=some ob':=h
   rw [e2 s' hs] at h
   obtain ⟨b,e3,q⟩:=R.own s' ob' h
   exact ⟨b,ne e3 (fun h=>nomatch h),q.keep k (fun d' e=>⟨ne e (fun h=>nomatch h),fun _ e=>e⟩) fun _ e=>e⟩
 ·have hh:kob z.κ a d s x=kob z.κ a d s y:=h
  rcases back (rfl:kob z.κ a d s x=_) with ⟨p1,p2⟩ | ⟨p0,p1,p2⟩ | p2 <;> rcases back (rfl:kob z.κ a d s y=_) with ⟨q1,q2⟩ | ⟨q0,q1,q2⟩ | q2
  ·rw [p1,q1]
  ·rw [p2,q2] at hh; cases hh
  ·rw [p2] at hh; exact absurd (q2.trans hh.symm) (nos y)
  ·rw [p2,q2] at hh; cases hh
  ·rw [p1,q1]
  ·rw [p2] at hh; exact absurd (q2.trans hh.symm) (nod y)
  ·rw [q2] at hh; exact absurd (p2.trans hh) (nos x)
  ·rw [q2] at hh; exact absurd (p2.trans hh) (nod x)
  ·exact R.inj x y (p2.trans (hh.trans q2.symm)) (by rw [p2]; exact h1) (by rw [p2]; exact h2)
 ·rcases back h with ⟨h1,h⟩ | ⟨_,_,h⟩ | h
  ·cases h; rw [h1]; exact hx x rfl
  ·cases h
  ·exact R.dyn b x h
 ·show (σ'.at s').isSome=true
  rcases back h with ⟨_,h⟩ | ⟨_,_,h⟩ | h
  ·cases h; rw [e1]; rfl
  ·cases h
  ·rw [e2 s' fun q=>nos b (q▸h)]; exact R.cov b s' h
 ·show ∃ c ks l,σ'.at s'=some (.I c ks l)
  rcases back h with ⟨_,h⟩ | ⟨h0,h1,h⟩ | h
  ·cases h
  ·cases h
   rcases hI with hI | ⟨c,ks,l,hI⟩
   ·exact absurd (h1.trans hI) h0
   ·exact ⟨c,ks,l,by rw [e1,hI]⟩
  ·rw [e2 s' fun q=>nod b (q▸h)]; exact R.ddl b s' h
 ·show (z.h.get? b).isSome=true
  rcases back (rfl:kob z.κ a d s b=_) with ⟨h1,_⟩ | ⟨_,h1,_⟩ | h1
  ·rw [h1]; exact e
  ·rw [h1]; exact ed
  ·exact R.live b (by rw [h1]; exact h)
theorem Rel.upd {σ':NH} {x:Addr} (R:Rel w h₀ z) (hx:z.κ x=.ob s∨z.κ x=.di s) (hb:z.κ b=.ob s) (sb:∀ y,y≠x→∀ o,z.h.get? y=some o→h'.get? y=some o) (hl:(h'.get? x).isSome=true) (e1:σ'.at s=some ob') (e2:∀ s',s'≠s→σ'.at s'=z.σ.at s')
  (hI:∀ c ks l,z.σ.at s=some (.I c ks l)→∃ c ks l,ob'=.I c ks l) (q:OR w z.κ h' b s ob'):Rel w h₀ ⟨h',t,σ',z.κ⟩∧Go X0 z ⟨h',t,σ',z.κ⟩:=by
 have key:∀ {y ρ},z.κ y=ρ→ρ≠.ob s→ρ≠.di s→∀ o,z.h.get? y=some o→h'.get? y=some o:=fun {y ρ} e n1 n2=>sb y fun q=>hx.elim (fun h=>n1 (by rw [← e,q,h])) fun h=>n2 (by rw [← e,q,h])
 refine ⟨⟨R.base,fun y o e=>key e (fun h=>nomatch h) (fun h=>nomatch h) o (R.fz y o e),fun s' ob'' h=>?_,R.inj,R.dyn,fun y s' h=>?_,fun y s' h=>?_,fun y h=>?_,R.tab.1,R.tab.2.mono .refl (key R.tab.1 (fun h=>nomatch h) fun h=>nomatch h)⟩,⟨.refl,fun y o e e3 _=>⟨e,key e (fun h=>nomatch h) (fun h=>nomatch h) o e3⟩,fun y e=>?_⟩⟩
 ·by_cases hs:s'=s
  ·subst hs
   have h:σ'.at s'=some ob'':=h
   rw [e1] at h; cases h
   exact ⟨b,hb,q⟩
  ·have h:σ'.at s'=some ob'':=h
   rw [e2 s' hs] at h
   obtain ⟨y,e3,q⟩:=R.own s' ob'' h
   exact ⟨y,e3,q.keep .refl (fun d e=>⟨e,key e (fun h=>nomatch h) fun h=>hs (by cases h; rfl)⟩) (key e3 (fun h=>hs (by cases h; rfl)) fun h=>nomatch h)⟩
 ·show (σ'.at s').isSome=true
  by_cases hs:s'=s
  ·rw [hs,e1]; rfl
  ·rw [e2 s' hs]; exact R.cov y s' h
 ·show ∃ c ks l,σ'.at s'=some (.I c ks l)
  by_cases hs:s'=s
  ·subst hs
   obtain ⟨c,ks,l,h⟩:=R.ddl y s' h
   obtain ⟨c,ks,l,h⟩:=hI c ks l h
   exact ⟨c,ks,l,by rw [e1,h]⟩
  ·rw [e2 s' hs]; exact R.ddl y s' h
 ·show (h'.get? y).isSome=true
  by_cases hy:y=x
  ·rw [hy]; exact hl
  ·obtain ⟨o,ho⟩:=Option.isSome_iff_exists.mp (R.live y h)
   rw [sb y hy o ho]; rfl
 ·by_cases hy:y=x
  ·exact .inl (by rw [hy]; exact hl)
  ·obtain ⟨o,ho⟩:=Option.isSome_iff_exists.mp e
   exact .inl (by show (h'.get? y).isSome=true; rw [sb y hy o ho]; rfl)
noncomputable def kfr (κ:Ka) (a d:Addr) (o od:Obj):Ka:=fun b=>if b=a then .fz o else if b=d then .fz od else κ b
theorem Rel.free {σ':NH} (R:Rel w h₀ z) (n:z.κ a=.ob (.d a)) (nd:d=a∨z.κ d=.di (.d a)) (e:z.h.get? a=some o) (ed:z.h.get? d=some od) (e1:σ'.at (.d a)=none) (e2:∀ s',s'≠.d a→σ'.at s'=z.σ.at s') (hI:d=a→∀ c ks l,z.σ.at (.d a)≠some (.I c ks l)) :
  Rel w h₀ ⟨z.h,t,σ',kfr z.κ a d o od⟩∧Go X0 z ⟨z.h,t,σ',kfr z.κ a d o od⟩:=by
 have ne:∀ {b ρ},z.κ b=ρ→ρ≠.ob (.d a)→ρ≠.di (.d a)→kfr z.κ a d o od b=ρ:=fun {b ρ} e q q2=>by
  have h1:b≠a:=fun h=>q (by rw [← e,h,n])
  have h2:b≠d:=fun h=>nd.elim (fun h3=>h1 (h.trans h3)) fun h3=>q2 (by rw [← e,h,h3])
  unfold kfr
  rw [if_neg h1,if_neg h2,e]
 have k:Le z.κ (kfr z.κ a d o od):=⟨fun b o' e=>ne e (fun h=>nomatch h) (fun h=>nomatch h),fun b n e=>ne e (fun h=>nomatch h) (fun h=>nomatch h)⟩
 have back:∀ {b ρ},kfr z.κ a d o od b=ρ→(b=a∧ρ=.fz o)∨(b=d∧ρ=.fz od)∨(z.κ b=ρ∧ρ≠.ob (.d a)∧ρ≠.di (.d a)):=fun {b ρ} e=>by
  unfold kfr at e
  by_cases h1:b=a
  ·rw [if_pos h1] at e; exact .inl ⟨h1,e.symm⟩
  ·rw [if_neg h1] at e
   by_cases h2:b=d
   ·rw [if_pos h2] at e; exact .inr (.inl ⟨h2,e.symm⟩)
   ·rw [if_neg h2] at e
    refine .inr (.inr ⟨e,fun q=>h1 (R.dyn b a (e.trans q)),fun q=>?_⟩)
    rcases nd with h3 | h3
    ·obtain ⟨c,ks,l,q⟩:=R.ddl b _ (e.trans q)
     exact hI h3 c ks l q
    ·exact h2 (R.inj b d (e.trans (q.trans h3.symm)) (by rw [e,q]; exact fun _ h=>nomatch h) (by rw [e,q]; exact fun h=>nomatch h))
 refine ⟨⟨fun b o' h=>k.fz b o' (R.base b o' h),fun b o' h=>?_,fun s' ob' h=>?_,fun x y h h1 h2=>?_,fun b x h=>?_,fun b s' h=>?_,fun b s' h=>?_,fun b h=>?_,ne R.tab.1 (fun h=>nomatch h) (fun h=>nomatch h),R.tab.2.mono k fun _ e=>e⟩,⟨k,fun b o' h h2 _=>⟨ne h (fun h=>nomatch h) (fun h=>nomatch h),h2⟩,fun _ h=>.inl h⟩⟩
 ·rcases back h with ⟨h1,h⟩ | ⟨h1,h⟩ | ⟨h,_⟩
  ·cases h; rw [h1]; exact e
  ·cases h; rw [h1]; exact ed
  ·exact R.fz b o' h
 ·have h:σ'.at s'=some ob':=h
  have hs:s'≠.d a:=fun q=>by rw [q,e1] at h; cases h
  rw [e2 s' hs] at h
  obtain ⟨b,e3,q⟩:=R.own s' ob' h
  exact ⟨b,ne e3 (fun h=>hs (by cases h; rfl)) (fun h=>nomatch h),q.keep k (fun d' e=>⟨ne e (fun h=>nomatch h) fun h=>hs (by cases h; rfl),fun _ e=>e⟩) fun _ e=>e⟩
 ·have hh:kfr z.κ a d o od x=kfr z.κ a d o od y:=h
  rcases back (rfl:kfr z.κ a d o od x=_) with ⟨_,p⟩ | ⟨_,p⟩ | ⟨p,_⟩
  ·exact absurd p (h1 o)
  ·exact absurd p (h1 od)
  ·rcases back (rfl:kfr z.κ a d o od y=_) with ⟨_,q⟩ | ⟨_,q⟩ | ⟨q,_⟩
   ·exact absurd (hh.trans q) (h1 o)
   ·exact absurd (hh.trans q) (h1 od)
   ·exact R.inj x y (p.trans (hh.trans q.symm)) (by rw [p]; exact h1) (by rw [p]; exact h2)
 ·rcases back h with ⟨_,h⟩ | ⟨_,h⟩ | ⟨h,_⟩
  ·cases h
  ·cases h
  ·exact R.dyn b x h
 ·rcases back h with ⟨_,h⟩ | ⟨_,h⟩ | ⟨h,h1,_⟩
  ·cases h
  ·cases h
  ·show (σ'.at s').isSome=true
   rw [e2 s' fun q=>h1 (by rw [q])]; exact R.cov b s' h
 ·rcases back h with ⟨_,h⟩ | ⟨_,h⟩ | ⟨h,_,h1⟩
  ·cases h
  ·cases h
  ·show ∃ c ks l,σ'.at s'=some (.I c ks l)
   rw [e2 s' fun q=>h1 (by rw [q])]; exact R.ddl b s' h
 ·show (z.h.get? b).isSome=true
  rcases back (rfl:kfr z.κ a d o od b=_) with ⟨h1,_⟩ | ⟨h1,_⟩ | ⟨h1,_⟩
  ·rw [h1,e]; rfl
  ·rw [h1,ed]; rfl
  ·exact R.live b (by rw [h1]; exact h)
end
end
section
structure TC where
 kd:Str→Option NameKind
 ns:List (Option Str)
 lam:Bool
section
noncomputable section
noncomputable def nm (c:TC) (i:Nat):Str:=((c.ns[i]?).getD none).getD ""
noncomputable def hasN (c:TC) (i:Nat):Bool:=((c.ns[i]?).getD none).isSome&&!(nm c i==("__debug__" : Str))
noncomputable def gn (x:Nat):Str:=Str.ofString ((gtab[x]?).getD ("",.none)).1
noncomputable def lx (l:List PySem.Expr):PySem.Expr:=.List l default
noncomputable def px:PySem.Expr→List PySem.Expr
 | .BoolOp _ vs _=>vs
 | .BinOp a _ b _=>[a,b]
 | .UnaryOp _ a _=>[a]
 | .IfExp t a b _=>[t,a,b]
 | .Dict _ vs _=>vs
 | .ListComp e _ _ _=>[e]
 | .Compare a _ bs _=>a :: bs
 | .Call f as _ _=>f :: as
 | .Attribute o _ _=>[o]
 | .Subscript o i _=>[o,i]
 | .List es _=>es
 | .Tuple es _ _=>es
 | .Slice l u s _=>l.toList++u.toList++s.toList
 | _=>[]
noncomputable def pk:PySem.Expr→List PySem.Expr
 | .Dict ks _ _=>ks.map fun k=>k.getD default
 | _=>[]
noncomputable def ko (e:PySem.Expr) (i:Nat):PySem.Expr:=((px e)[i]?).getD default
noncomputable def tl (e:PySem.Expr):PySem.Expr:=lx (px e).tail
noncomputable def nk:PySem.Expr→Nat
 | .Constant _ k _=>k
 | .Tuple _ k _=>k
 | _=>0
noncomputable def psc:PySem.Expr→Scope
 | .ListComp _ _ sc _=>sc
 | _=>default
noncomputable def pg (e:PySem.Expr) (i:Nat):Comprehension:=match e with
 | .ListComp _ gs _ _=>(gs[i]?).getD ⟨default,default,[],0⟩
 | _=>⟨default,default,[],0⟩
noncomputable def bopB:BOp→Operator
 | .add=>.Add | .sub=>.Sub | .mul=>.Mult | .div=>.FloorDiv | .mod=>.Mod
noncomputable def copB:COp→CmpOp
 | .eq=>.Eq | .ne=>.NotEq | .lt=>.Lt | .le=>.LtE | .gt=>.Gt | .ge=>.GtE | .is=>.Is | .isn=>.IsNot | .inn=>.In | .nin=>.NotIn
noncomputable def biN:Bi→String
 | .len => "len" | .abs => "abs" | .str => "str" | .int => "int" | .list _ => "list" | .any => "any" | .isstr => "isinstance"
noncomputable def biS:Bi→Bool
 | .isstr=>true
 | _=>false
noncomputable def itN:IK→String
 | .enum => "enumerate"
 | _ => "range"
noncomputable def tn:PySem.Expr→List Str
 | .Name x _=>[x]
 | .Tuple es _ _=>es.flatMap fun e=>match e with
  | .Name x _=>[x]
  | _=>[]
 | _=>[]
noncomputable def kdI (sc:Scope) (x:Str):Option NameKind:=match sc.names.lookup x with
 | some .free=>some .cell
 | k=>k
noncomputable def TC.inner (c:TC) (sc:Scope) (xs:List Str):TC:=⟨kdI sc,(c.ns.map fun n=>n.filter fun x=>sc.names.lookup x==some .free)++xs.map some,false⟩
noncomputable def compOk (c:TC) (sc:Scope) (xs:List Str) (k:Nat):Bool:=
 sc.kind==.function&&decide ((sc.names.map (·.1)).Nodup)&&sc.names.all (fun y=>y.2 != .cell&&(y.2 != .free || c.kd y.1==some .cell))&&decide xs.Nodup&&xs.all (fun x=>sc.names.lookup x==some .local)&&Nat.beq xs.length k
noncomputable def rbLit (v:NV) (e:PySem.Expr):PySem.Expr:=match v with
 | .none=>.Constant .none (nk e) e.pos
 | .bool b=>.Constant (.bool b) (nk e) e.pos
 | .int i=>(match i with
  | .ofNat n=>.Constant (.int n) (nk e) e.pos
  | .negSucc n=>.UnaryOp .USub (.Constant (.int (n+1)) (nk (ko e 0)) (ko e 0).pos) e.pos)
 | .str n=>.Constant (.str (tb n)) (nk e) e.pos
 | _=>e
noncomputable def litOk:NV→Bool
 | .none=>true
 | .bool _=>true
 | .int _=>true
 | .str n=>decide (n < tab.length)
 | _=>false
noncomputable def fcode:NV→Option (Nat × Int)
 | .int i=>some (0,i)
 | .str i=>some (1,i)
 | .fn i=>some (2,i)
 | .cls i=>some (3,i)
 | .gl i=>some (4,i)
 | _=>none
noncomputable def flatB (u v:NV):Bool:=(fcode u).isSome&&fcode u==fcode v
noncomputable def gbOk (x:Nat) (v:NV):Bool:=match gtab[x]? with
 | some u=>flatB u.2 v
 | none=>false
noncomputable def rbP (c:TC):Pt→PySem.Expr→PySem.Expr
 | .loc i,e=>.Name (nm c i) e.pos
 | .nil,e=>lx []
 | .cons p r,e=>.Tuple (rbP c p (ko e 0) :: px (rbP c r (tl e))) (nk e) e.pos
noncomputable def ptOk (c:TC) (n:Nat):Pt→Bool→Bool
 | .loc i,l=>!l&&hasN c i&&decide (n≤i)
 | .nil,l=>l
 | .cons p r,_=>ptOk c n p false&&ptOk c n r true
noncomputable def rbI (g:IK) (it e:PySem.Expr):PySem.Expr:=match g with
 | .over=>ko it 0
 | g=>.Call (.Name (Str.ofString (itN g)) (ko e 0).pos) (px it) [] e.pos
noncomputable def rbIA (g:IK) (e:PySem.Expr):PySem.Expr:=match g with
 | .over=>lx [e]
 | _=>tl e
noncomputable def kys (ks:List Nat) (l:List PySem.Expr):List (Option PySem.Expr):=(ks.zip l).map fun x=>some (.Constant (.str (tb x.1)) (nk x.2) x.2.pos)
noncomputable def isE0:E→Bool
 | .e0=>true
 | _=>false
noncomputable def tgs (e:PySem.Expr):PySem.Expr:=lx [(pg e 0).target,(pg e 1).target]
noncomputable def in1 (c:TC) (e:PySem.Expr):TC:=c.inner (psc e) (tn (pg e 0).target)
noncomputable def in2 (c:TC) (e:PySem.Expr):TC:=c.inner (psc e) (tn (pg e 0).target++tn (pg e 1).target)
noncomputable def rb:E→TC→PySem.Expr→PySem.Expr
 | .li v,c,e=>rbLit v e
 | .gb x v,c,e=>.Name (gn x) e.pos
 | .lo i,c,e=>.Name (nm c i) e.pos
 | .ar o f,c,e=>.Attribute (rb o c (ko e 0)) (aS f) e.pos
 | .bm o f,c,e=>.Attribute (rb o c (ko e 0)) (aS f) e.pos
 | .sb o i,c,e=>.Subscript (rb o c (ko e 0)) (rb i c (ko e 1)) e.pos
 | .tk o k,c,e=>.Subscript (rb o c (ko e 0)) (.Slice none (some (rb k c (ko (ko e 1) 0))) none (ko e 1).pos) e.pos
 | .dp o k,c,e=>.Subscript (rb o c (ko e 0)) (.Slice (some (rb k c (ko (ko e 1) 0))) none none (ko e 1).pos) e.pos
 | .rv o,c,e=>.Subscript (rb o c (ko e 0)) (.Slice none none (some (.UnaryOp .USub (.Constant (.int 1) (nk (ko (ko (ko e 1) 0) 0)) (ko (ko (ko e 1) 0) 0).pos) (ko (ko e 1) 0).pos)) (ko e 1).pos) e.pos
 | .ca f as,c,e=>.Call (rb f c (ko e 0)) (px (rb as c (tl e))) [] e.pos
 | .nw f as,c,e=>.Call (rb f c (ko e 0)) (px (rb as c (tl e))) [] e.pos
 | .mt o m as,c,e=>.Call (.Attribute (rb o c (ko (ko e 0) 0)) (aS m) (ko e 0).pos) (px (rb as c (tl e))) [] e.pos
 | .bu b as,c,e=>.Call (.Name (Str.ofString (biN b)) (ko e 0).pos) (px (rb as c (tl e))++(match biS b with
  | true=>[.Name "str" (ko e 2).pos]
  | false=>[])) [] e.pos
 | .bn o a b,c,e=>.BinOp (rb a c (ko e 0)) (bopB o) (rb b c (ko e 1)) e.pos
 | .ng a,c,e=>.UnaryOp .Not (rb a c (ko e 0)) e.pos
 | .bo k m a b,c,e=>.BoolOp (match k with
  | true=>.And
  | false=>.Or) (rb a c (ko e 0) :: (match m with
  | true=>px (rb b c (tl e))
  | false=>[rb b c (ko e 1)])) e.pos
 | .cp o a b,c,e=>.Compare (rb a c (ko e 0)) [copB o] [rb b c (ko e 1)] e.pos
 | .ch a o1 b o2 d,c,e=>.Compare (rb a c (ko e 0)) [copB o1,copB o2] [rb b c (ko e 1),rb d c (ko e 2)] e.pos
 | .ie t a b,c,e=>.IfExp (rb t c (ko e 0)) (rb a c (ko e 1)) (rb b c (ko e 2)) e.pos
 | .ls _ as,c,e=>.List (px (rb as c e)) e.pos
 | .tp as,c,e=>.Tuple (px (rb as c e)) (nk e) e.pos
 | .dc _ ks as,c,e=>.Dict (kys ks (pk e)) (px (rb as c e)) e.pos
 | .cm _ _ p g it cs elt,c,e=>.ListComp (rb elt (in1 c e) (ko e 0)) [⟨rbP (in1 c e) p (pg e 0).target,rbI g (rb it c (rbIA g (pg e 0).iter)) (pg e 0).iter,(match isE0 cs with
  | true=>[]
  | false=>[rb cs (in1 c e) (ko (lx (pg e 0).ifs) 0)]),0⟩] (psc e) e.pos
 | .c2 _ p g it p2 it2 elt,c,e=>.ListComp (rb elt (in2 c e) (ko e 0)) [⟨rbP (in2 c e) p (pg e 0).target,rbI g (rb it c (rbIA g (pg e 0).iter)) (pg e 0).iter,[],0⟩,⟨rbP (in2 c e) p2 (pg e 1).target,rb it2 (in2 c e) (pg e 1).iter,[],0⟩] (psc e) e.pos
 | .lm k,c,e=>.Lambda (lamP k).1 (lamP k).2.1 (lamP k).2.2 e.pos
 | .fz _ a,c,e=>rb a c e
 | .e0,c,e=>lx []
 | .ec a r,c,e=>lx (rb a c (ko e 0) :: px (rb r c (tl e)))
noncomputable def okBase:PySem.Expr→Bool
 | .Call (.Name _ _) [] [] _=>false
 | _=>true
noncomputable def isName:PySem.Expr→Bool
 | .Name _ _=>true
 | _=>false
noncomputable def good:PySem.Expr→Bool
 | .Starred _ _=>false
 | .Slice ..=>false
 | .Set ..=>false
 | .SetComp ..=>false
 | .DictComp ..=>false
 | _=>true
noncomputable def isComp:PySem.Expr→Bool
 | .ListComp ..=>true
 | _=>false
noncomputable def isArg:E→Bool
 | .e0=>true
 | .ec _ _=>true
 | _=>false
noncomputable def isOne:E→Bool
 | .ec _ .e0=>true
 | _=>false
noncomputable def isCp:E→Bool
 | .cp ..=>true
 | .e0=>true
 | _=>false
noncomputable def isBo (k:Bool):E→Bool
 | .bo k' ..=>k==k'
 | _=>false
noncomputable def isTup:Pt→Bool
 | .loc _=>false
 | _=>true
noncomputable def itOk (g:IK) (it:E) (p:Pt) (c:TC):Bool:=match g with
 | .over=>isOne it
 | .enum=>isTup p&&c.kd "enumerate" == some .globalImplicit
 | _=>c.kd "range" == some .globalImplicit
noncomputable def oke (m:E) (e:PySem.Expr):Bool:=good e&&!isArg m
noncomputable def ok:E→TC→PySem.Expr→Bool
 | .li v,c,e=>litOk v
 | .gb x v,c,e=>c.kd (gn x)==some .globalImplicit&&gbOk x v&&!(gn x==("__debug__" : Str))
 | .lo i,c,e=>hasN c i
 | .ar o f,c,e=>ok o c (ko e 0)&&!isArg o&&okBase (rb o c (ko e 0))
 | .bm o f,c,e=>ok o c (ko e 0)&&!isArg o&&okBase (rb o c (ko e 0))&&decide (f < 90)
 | .sb o i,c,e=>ok o c (ko e 0)&&!isArg o&&ok i c (ko e 1)&&!isArg i
 | .tk o k,c,e=>ok o c (ko e 0)&&!isArg o&&ok k c (ko (ko e 1) 0)&&!isArg k
 | .dp o k,c,e=>ok o c (ko e 0)&&!isArg o&&ok k c (ko (ko e 1) 0)&&!isArg k
 | .rv o,c,e=>ok o c (ko e 0)&&!isArg o
 | .ca f as,c,e=>ok f c (ko e 0)&&!isArg f&&isName (rb f c (ko e 0))&&ok as c (tl e)&&isArg as
 | .nw f as,c,e=>ok f c (ko e 0)&&!isArg f&&isName (rb f c (ko e 0))&&ok as c (tl e)&&isArg as
 | .mt o m as,c,e=>ok o c (ko (ko e 0) 0)&&!isArg o&&ok as c (tl e)&&isArg as&&okBase (rb o c (ko (ko e 0) 0))&&(Nat.beq (ko e 0).pos.endLine e.pos.line)&&decide ((px (rb as c (tl e))).length < 30)&&decide (m < 90)
 | .bu b as,c,e=>c.kd (Str.ofString (biN b))==some .globalImplicit&&(!biS b || (c.kd "str" == some .globalImplicit&&isOne as))&&ok as c (tl e)&&isArg as
 | .bn o a b,c,e=>ok a c (ko e 0)&&!isArg a&&ok b c (ko e 1)&&!isArg b
 | .ng a,c,e=>ok a c (ko e 0)&&!isArg a
 | .bo k m a b,c,e=>ok a c (ko e 0)&&!isArg a&&(match m with
  | true=>isBo k b&&ok b c (tl e)
  | false=>ok b c (ko e 1)&&!isArg b)
 | .cp o a b,c,e=>ok a c (ko e 0)&&!isArg a&&ok b c (ko e 1)&&!isArg b
 | .ch a o1 b o2 d,c,e=>ok a c (ko e 0)&&!isArg a&&ok b c (ko e 1)&&!isArg b&&ok d c (ko e 2)&&!isArg d
 | .ie t a b,c,e=>ok t c (ko e 0)&&!isArg t&&ok a c (ko e 1)&&!isArg a&&ok b c (ko e 2)&&!isArg b
 | .ls _ as,c,e=>ok as c e&&isArg as&&decide ((px (rb as c e)).length≤1000)
 | .tp as,c,e=>ok as c e&&isArg as&&decide ((px (rb as c e)).length≤1000)
 | .dc _ ks as,c,e=>ok as c e&&isArg as&&Nat.beq ks.length (px (rb as c e)).length&&decide (ks.length≤15)&&decide (ks.map tb).Nodup&&ks.all (fun n=>decide (n < tab.length))&&Nat.beq (pk e).length ks.length
 | .cm _ k p g it cs elt,c,e=>compOk c (psc e) (tn (pg e 0).target) k&&ptOk (in1 c e) c.ns.length p false&&itOk g it p c&&ok it c (rbIA g (pg e 0).iter)&&isArg it&&isCp cs&&ok cs (in1 c e) (ko (lx (pg e 0).ifs) 0)&&ok elt (in1 c e) (ko e 0)&&!isArg elt
 | .c2 k p g it p2 it2 elt,c,e=>compOk c (psc e) (tn (pg e 0).target++tn (pg e 1).target) k&&ptOk (in2 c e) c.ns.length p false&&ptOk (in2 c e) c.ns.length p2 false&&itOk g it p c&&ok it c (rbIA g (pg e 0).iter)&&isArg it&&ok it2 (in2 c e) (pg e 1).iter&&!isArg it2&&ok elt (in2 c e) (ko e 0)&&!isArg elt
 | .lm k,c,e=>c.lam&&decide (k < 2)
 | .fz _ a,c,e=>ok a c e&&!isArg a&&isName (rb a c e)
 | .e0,c,e=>true
 | .ec a r,c,e=>ok a c (ko e 0)&&!isArg a&&ok r c (tl e)&&isArg r
noncomputable def sp (l:List Stmt):Pos:=match l with
 | x :: _=>x.pos
 | _=>default
noncomputable def sv (l:List Stmt):List PySem.Expr:=match l with
 | .Assign ts v _ :: _=>v :: ts
 | .AugAssign t _ v _ :: _=>[v,t]
 | .For t i _ _ _ :: _=>[i,t]
 | .While t _ _ _ :: _=>[t]
 | .If t _ _ _ :: _=>[t]
 | .Return v _ :: _=>v.toList
 | .Expr v _ :: _=>[v]
 | _=>[]
noncomputable def sve (l:List Stmt) (i:Nat):PySem.Expr:=((sv l)[i]?).getD default
noncomputable def sb1 (l:List Stmt):List Stmt:=match l with
 | .For _ _ b _ _ :: _=>b
 | .While _ b _ _ :: _=>b
 | .If _ a _ _ :: _=>a
 | _=>[]
noncomputable def sb2 (l:List Stmt):List Stmt:=match l with
 | .If _ _ b _ :: _=>b
 | _=>[]
noncomputable def rbT (c:TC):List Tg→PySem.Expr→List PySem.Expr
 | [],_=>[]
 | .loc i :: r,e=>.Name (nm c i) (ko e 0).pos :: rbT c r (tl e)
 | .attr i f :: r,e=>.Attribute (.Name (nm c i) (ko (ko e 0) 0).pos) (aS f) (ko e 0).pos :: rbT c r (tl e)
noncomputable def rbN (c:TC):List Nat→PySem.Expr→List PySem.Expr
 | [],_=>[]
 | i :: r,e=>.Name (nm c i) (ko e 0).pos :: rbN c r (tl e)
noncomputable def tgOk (c:TC):List Tg→Bool
 | []=>true
 | .loc i :: r=>hasN c i&&tgOk c r
 | .attr i f :: r=>hasN c i&&tgOk c r
noncomputable def isTupE:PySem.Expr→Bool
 | .Tuple ..=>true
 | _=>false
noncomputable def rbL:S→TC→List Stmt→List Stmt
 | .sk,c,l=>[]
 | .sq a b,c,l=>rbL a c (l.take 1)++rbL b c l.tail
 | .st i e,c,l=>[.Assign [.Name (nm c i) (sve l 1).pos] (rb e c (sve l 0)) (sp l)]
 | .sa o f e,c,l=>[.Assign [.Attribute (rb o c (ko (sve l 1) 0)) (aS f) (sve l 1).pos] (rb e c (sve l 0)) (sp l)]
 | .si o i e,c,l=>[.Assign [.Subscript (rb o c (ko (sve l 1) 0)) (rb i c (ko (sve l 1) 1)) (sve l 1).pos] (rb e c (sve l 0)) (sp l)]
 | .up ts e,c,l=>[.Assign [.Tuple (rbT c ts (sve l 1)) (nk (sve l 1)) (sve l 1).pos] (rb e c (sve l 0)) (sp l)]
 | .sw is e,c,l=>[.Assign [.Tuple (rbN c is (sve l 1)) (nk (sve l 1)) (sve l 1).pos] (.Tuple (px (rb e c (sve l 0))) (nk (sve l 0)) (sve l 0).pos) (sp l)]
 | .au o f e,c,l=>[.AugAssign (.Attribute (rb o c (ko (sve l 1) 0)) (aS f) (sve l 1).pos) .Add (rb e c (sve l 0)) (sp l)]
 | .ex e,c,l=>[.Expr (rb e c (sve l 0)) (sp l)]
 | .ie t a b,c,l=>[.If (rb t c (sve l 0)) (rbL a c (sb1 l)) (rbL b c (sb2 l)) (sp l)]
 | .wh t b,c,l=>[.While (rb t c (sve l 0)) (rbL b c (sb1 l)) [] (sp l)]
 | .fo p g it b,c,l=>[.For (rbP c p (sve l 1)) (rbI g (rb it c (rbIA g (sve l 0))) (sve l 0)) (rbL b c (sb1 l)) [] (sp l)]
 | .re e,c,l=>[.Return (match (sv l).isEmpty with
  | true=>none
  | false=>some (rb e c (sve l 0))) (sp l)]
 | .co,c,l=>[.Continue (sp l)]
 | .fa,c,l=>l
noncomputable def isS1:S→Bool
 | .sk=>false
 | .sq _ _=>false
 | .fa=>false
 | _=>true
noncomputable def isNoneL:E→Bool
 | .li .none=>true
 | _=>false
noncomputable def okS:S→TC→List Stmt→Bool
 | .sk,c,l=>true
 | .sq a b,c,l=>isS1 a&&okS a c (l.take 1)&&okS b c l.tail
 | .st i e,c,l=>hasN c i&&ok e c (sve l 0)&&!isArg e
 | .sa o f e,c,l=>ok o c (ko (sve l 1) 0)&&!isArg o&&ok e c (sve l 0)&&!isArg e
 | .si o i e,c,l=>ok o c (ko (sve l 1) 0)&&!isArg o&&ok i c (ko (sve l 1) 1)&&!isArg i&&ok e c (sve l 0)&&!isArg e
 | .up ts e,c,l=>tgOk c ts&&ok e c (sve l 0)&&!isArg e&&(!isTupE (rb e c (sve l 0)) || (rbT c ts (sve l 1)).any (fun e=>!isName e))
 | .sw is e,c,l=>is.all (hasN c)&&decide is.Nodup&&ok e c (sve l 0)&&isArg e&&decide ((px (rb e c (sve l 0))).length≤1000)&&!((px (rb e c (sve l 0))).all (constantsAlone 8))
 | .au o f e,c,l=>ok o c (ko (sve l 1) 0)&&!isArg o&&ok e c (sve l 0)&&!isArg e&&decide (f < 34)
 | .ex e,c,l=>ok e c (sve l 0)&&!isArg e&&!isComp (rb e c (sve l 0))
 | .ie t a b,c,l=>ok t c (sve l 0)&&!isArg t&&okS a c (sb1 l)&&okS b c (sb2 l)
 | .wh t b,c,l=>ok t c (sve l 0)&&!isArg t&&okS b c (sb1 l)
 | .fo p g it b,c,l=>ptOk c 0 p false&&itOk g it p c&&ok it c (rbIA g (sve l 0))&&isArg it&&okS b c (sb1 l)
 | .re e,c,l=>ok e c (sve l 0)&&!isArg e&&(!(sv l).isEmpty || isNoneL e)
 | .co,c,l=>true
 | .fa,c,l=>true
end
end
end
section
noncomputable section
noncomputable def Ef:Value→Shared→Prop:=fun _ _=>False
noncomputable def zW (c:TC) (env:Env) (x:Str) (b:Addr):Prop:=(c.kd x=some .local∧b=env.locals)∨(c.kd x=some .cell∧env.cells.lookup x=some b)
noncomputable def ZE (env:Env) (b:Addr):Prop:=b=env.locals∨∃ y,env.cells.lookup y=some b
inductive At (c:TC) (env:Env) (h:Heap) (x:Str):Option Value→Prop
 | loc {m:Str→Option Value}:c.kd x=some .local→h.Ns env.locals m→At c env h x (m x)
 | cell {a:Addr} {u:Option Value}:c.kd x=some .cell→env.cells.lookup x=some a→h.IsCell a u→At c env h x u
structure EnvS (c:TC) (env:Env):Prop where
 kind:env.scope.kind=.function
 glo:env.globals=mainGlobals
 bui:env.builtins=builtinsNs
 kd:∀ x,env.kindOf x=c.kd x
 inj:∀ (i j:Nat) x,c.ns[i]?=some (some x)→c.ns[j]?=some (some x)→i=j
 sl:∀ (i:Nat) x,c.ns[i]?=some (some x)→c.kd x=some .local∨c.kd x=some .cell
 cel:∀ x,c.kd x=some .cell→∃ a,env.cells.lookup x=some a
 cinj:∀ x y a,env.cells.lookup x=some a→env.cells.lookup y=some a→x=y
 lam:c.lam=true→env.code=.ref 903∧env.qual++ "<lambda>" = lamQual
structure EnvR (w:World) (c:TC) (env:Env) (z:Z) (fr:Fr):Prop where
 s:EnvS c env
 len:c.ns.length=fr.length
 loc:z.κ env.locals=.no
 ns:∃ m,z.h.Ns env.locals m
 cl:∀ y a,env.cells.lookup y=some a→z.κ a=.no∧∃ v,z.h.IsCell a v
 val:∀ (i:Nat) x v,c.ns[i]?=some (some x)→fr[i]?=some (some v)→∃ u,At c env z.h x (some u)∧VR w z.κ v u
noncomputable def attrOk (K:Frag) (T:Tx) (cc:Addr) (f:Nat):Bool:=match T.mth cc f with
 | none=>findIn K (.ref cc) (aS f)==some none
 | some i=>findIn K (.ref cc) (aS f)==some (some (.ref i))&&isFn K (.ref i)&&fnIn K i&&(specialIn K (.ref i) "__get__" == some (some (.builtin "function.__get__")))&&(takesIn K (.ref i)==some false)&&!copiedNames.contains (aS f)&&decide (i < 2000)
noncomputable def clsOk (K:Frag) (T:Tx) (cc:Addr):Bool:=
 findIn K (.ref cc) "__getattribute__" == some (some (.builtin "object.__getattribute__"))&&findIn K (.ref cc) "__getattr__" == some none&&hasDictIn K cc &&
 findIn K (.ref cc) "__setattr__" == some (some (.builtin "object.__setattr__"))&&plainOver K cc&&makesIn K cc&&keepIn K (.ref cc) &&
 (match T.mth cc 90 with
  | some i=>findIn K (.ref cc) "__init__" == some (some (.ref i))&&isFn K (.ref i)&&decide (i < 2000)
  | none=>false)&&(List.range 90).all (attrOk K T cc)
structure PlainArgs (fd:FuncData) (ns:List Str):Prop where
 pos:fd.params.posonlyargs=[]
 args:fd.params.args.map (·.arg)=ns
 kwo:fd.params.kwonlyargs=[]
 var:fd.params.vararg=none
 kw:fd.params.kwarg=none
 nd:ns.Nodup
noncomputable def Dflt (h:Heap) (fd:FuncData):List Value→Prop
 | []=>fd.defaults=.none
 | [d]=>∃ T n,fd.defaults=.ref T∧h.get? T=some (tuO [d] n)
 | _=>False
noncomputable def scTC (sc:Scope) (l:Bool):TC:={ kd:=fun x=>sc.names.lookup x,ns:=(sc.names.filter fun y=>y.2==.local || y.2==.cell).map fun y=>some y.1,lam:=l }
noncomputable def isV (fd:FuncData):Bool:=fd.qualname==("_law_view" : Str)
structure ScOk (sc:Scope) (l:Bool) (ns:List Str) (d:FD):Prop where
 kind:sc.kind=.function
 co:sc.isCoroutine=false
 gen:sc.isGenerator=false
 nd:(sc.names.map (·.1)).Nodup
 his:(scTC sc l).ns.take d.na=ns.map some
 na:ns.length=d.na
 n:d.n=(scTC sc l).ns.length
structure FnIs (w:World) (h₀:Heap) (i:Nat) (d:FD) (fd:FuncData) (body:List Stmt) (ns:List Str) (ds:List Value):Prop where
 at_:h₀.get? i=some { cls:=.type "function",data:=.func fd }
 bod:fd.body=.stmts body
 args:PlainArgs fd ns
 dfl:Dflt h₀ fd ds
 dv:∀ κ,VRs w κ d.dfl ds
 dle:ds.length≤ns.length
 code:h₀.CodeRec fd.code fd.qualname
 glo:fd.globals=mainGlobals
 clo:fd.closure=[]
 bui:fd.builtins=builtinsNs
 sc:ScOk fd.scope (isV fd) ns d
 tr:rbL d.body (scTC fd.scope (isV fd)) body=body
 ok:okS d.body (scTC fd.scope (isV fd)) body=true
 lam:isV fd=true→fd.code=.ref 903
structure LamIs (j:Nat) (d:FD) (ns:List Str):Prop where
 args:∀ fd:FuncData,fd.params=(lamP j).1→PlainArgs fd ns
 dfl:d.dfl=[]
 sc:ScOk (lamP j).2.2 false ns d
 bod:∃ m,d.body=.re m∧isArg m=false∧rb m (scTC (lamP j).2.2 false) (lamP j).2.1=(lamP j).2.1∧ok m (scTC (lamP j).2.2 false) (lamP j).2.1=true
noncomputable def plainNames:List Str:=["len","abs","str","int","list","any","range","enumerate","isinstance"]
structure Cx where
 T:Tx
 w:World
 h₀:Heap
 mg:Str→Option Value
 hg:h₀.Ns mainGlobals mg
 hgv:∀ (x:Nat) (u:String × NV),gtab[x]?=some u→∃ v,mg (Str.ofString u.1)=some v∧∀ κ,VR w κ u.2 v
 hgn:∀ x∈plainNames,mg x=none
 mb:Str→Option Value
 hb:h₀.Ns builtinsNs mb
 hbv:∀ x:Str,x≠("__name__" : Str)→mb x=bootBuiltins x
 nolim:h₀.NoLimit
 seq:∀ g b l,T.glv g=some (.seq b l)→∃ vs m,h₀.get? g=some (cond b (liO vs m) (tuO vs m))∧l.length≤cap∧∀ κ,(∀ b o,h₀.get? b=some o→κ b=.fz o)→VRs w κ l vs
 scr:∀ g l,T.scr g=some l→l.length≤cap∧∃ vs:List Value,h₀.IsList g vs.toArray∧∀ κ,VRs w κ l vs
 dict:∀ g ks l,T.glv g=some (.dict ks l)→∃ kvs,h₀.DictOf (PySem.strKind p w) g kvs∧kvs.map (·.1)=ks.map tb∧(∀ k∈ks,k < tab.length)∧∀ κ,VRs w κ l (kvs.map (·.2))
 K:Frag
 kin:K.In h₀
 kok:∀ cc,okc cc=true→clsOk K T cc=true
 mok:∀ cc f i,T.mth cc f=some i→okc cc=true
 fok:∀ cc f,fOk cc f=true→T.mth cc f=none
 fns:∀ i d,i < 2000→T.fd i=some d→∃ fd body ns ds,FnIs w h₀ i d fd body ns ds
 lam:∀ j d,T.fd (2000+j)=some d→∃ ns,LamIs j d ns
 lmd:∀ k < 2,defaultsOf (lamP k).1=(fun _=>([],[]))∧(∀ x∈(lamP k).2.2.names,x.2≠.free)
 code:CodeHd h₀ 903 tabP
 bmain:∀ h:Heap,(∀ b o,h₀.get? b=some o→h.get? b=some o)→h.BuiltinsAt mg tabP
 ng:mainGlobals≠tabP
end
structure Room (A:Around) (k:Nat):Prop where
 h:A.handled=none
 d:A.depth+4 * k+8 < recursionLimit
 u:A.units+16 * k+200 < cLine
structure Tr (X:Cx) (P:Addr→Prop) (z z':Z):Prop where
 R:Rel X.w X.h₀ z'
 g:Go P z z'
structure St (X:Cx) (k:Nat) (A:Around) (c:TC) (env:Env) (fr:Fr) (z:Z):Prop where
 rm:Room A k
 E:EnvR X.w c env z fr
 R:Rel X.w X.h₀ z
noncomputable abbrev Post (X:Cx) (Q:Po) (z:Z) (s₀:Shared) (Qc:Value→Shared→Prop):Prop:=
 ∀ v u z',Q v z'.σ→Tr X X0 z z'→VR X.w z'.κ v u→Qc u (z'.s s₀)
noncomputable abbrev SE (X:Cx) (k:Nat) (c:TC) (e:PySem.Expr) (m:E):Prop:=
 ∀ ⦃A:Around⦄ ⦃env:Env⦄ ⦃fr:Fr⦄ ⦃Q:Po⦄ ⦃Qc:Value→Shared→Prop⦄ ⦃z:Z⦄ ⦃s₀:Shared⦄,St X k A c env fr z→wE X.T (callN X.T k) m fr Q z.σ→Post X Q z s₀ Qc→wpAny (model p X.w) A (eval e env) Qc Ef (z.s s₀)
noncomputable abbrev PostT (X:Cx) (P1 P0:NH→Prop) (z:Z) (s₀:Shared) (Qc:Bool→Shared→Prop):Prop:=
 ∀ b z',cond b (P1 z'.σ) (P0 z'.σ)→Tr X X0 z z'→Qc b (z'.s s₀)
noncomputable abbrev STr (X:Cx) (k:Nat) (c:TC) (e:PySem.Expr) (m:E):Prop:=
 ∀ ⦃A:Around⦄ ⦃env:Env⦄ ⦃fr:Fr⦄ ⦃P1 P0:NH→Prop⦄ ⦃Qc:Bool→Shared→Prop⦄ ⦃z:Z⦄ ⦃s₀:Shared⦄,St X k A c env fr z→wE X.T (callN X.T k) m fr (fun v σ=>ifT (P1 σ) (P0 σ) v) z.σ→PostT X P1 P0 z s₀ Qc→wpAny (model p X.w) A (isTrue e env (eval e env)) Qc Ef (z.s s₀)
section
variable {X:Cx} {k:Nat} {A:Around} {c:TC} {env:Env} {fr:Fr} {z z' z'':Z} {s₀:Shared} {P:Addr→Prop} {Q:Po} {Qc:Value→Shared→Prop}
theorem Tr.refl (R:Rel X.w X.h₀ z):Tr X P z z:=⟨R,.refl⟩
theorem Tr.trans (t:Tr X P z z') (t':Tr X P z' z''):Tr X P z z'':=⟨t'.R,t.g.trans t'.g⟩
theorem Post.step (hk:Post X Q z s₀ Qc) (t:Tr X X0 z z'):Post X Q z' s₀ Qc:=fun v u z₁ hq t₁ r=>hk v u z₁ hq (t.trans t₁) r
theorem PostT.step {P1 P0:NH→Prop} {Qc:Bool→Shared→Prop} (hk:PostT X P1 P0 z s₀ Qc) (t:Tr X X0 z z'):PostT X P1 P0 z' s₀ Qc:=fun b z₁ hq t₁=>hk b z₁ hq (t.trans t₁)
theorem VR.go {v:NV} {u:Value} (r:VR X.w z.κ v u) (t:Tr X P z z'):VR X.w z'.κ v u:=r.mono t.g.le
theorem All2.go {v:List NV} {u:List Value} (r:VRs X.w z.κ v u) (t:Tr X P z z'):VRs X.w z'.κ v u:=r.mono t.g.le
theorem At.keep {h h':Heap} {x:Str} {u:Option Value} (a:At c env h x u) (kp:∀ b,ZE env b→∀ o,h.get? b=some o→h'.get? b=some o):At c env h' x u:=by
 cases a with
 | loc e n=>obtain ⟨o,es,ep,ho,r⟩:=n; exact .loc e ⟨o,es,ep,kp _ (.inl rfl) _ ho,r⟩
 | cell e l n=>obtain ⟨o,ho,r⟩:=n; exact .cell e l ⟨o,kp _ (.inr ⟨x,l⟩) _ ho,r⟩
theorem EnvR.keep {w:World} (E:EnvR w c env z fr) (le:Le z.κ z'.κ) (nk:∀ b o,ZE env b→z.κ b=.no→z.h.get? b=some o→z'.κ b=.no∧z'.h.get? b=some o):EnvR w c env z' fr:=by
 refine (E.ns).elim fun m y2=>y2.elim fun o y2=>y2.elim fun es y2=>y2.elim fun ep y2=>?_
 have kp:∀ b,ZE env b→∀ o,z.h.get? b=some o→z'.h.get? b=some o:=fun b q o e=>(nk b o q (q.elim (fun q=>q▸E.loc) fun ⟨y,q⟩=>(E.cl y b q).1) e).2
 refine ⟨E.s,E.len,(nk _ o (.inl rfl) E.loc y2.1).1,⟨m,o,es,ep,kp _ (.inl rfl) _ y2.1,y2.2⟩,fun y a e=>?_,fun i x v e1 e2=>?_⟩
 ·refine (E.cl y a e).elim fun a1 y1=>y1.elim fun v y1=>y1.elim fun oc y1=>?_
  exact ⟨(nk _ _ (.inr ⟨y,e⟩) a1 y1.1).1,v,oc,kp _ (.inr ⟨y,e⟩) _ y1.1,y1.2⟩
 ·refine (E.val i x v e1 e2).elim fun u y0=>?_
  exact ⟨u,y0.1.keep kp,y0.2.mono le⟩
theorem EnvR.go {w:World} (E:EnvR w c env z fr) (g:Go P z z') (hP:∀ b,P b→¬ ZE env b):EnvR w c env z' fr:=E.keep g.le fun b o q n e=>g.no b o n e fun x=>hP b x q
theorem St.go (S:St X k A c env fr z) (t:Tr X X0 z z'):St X k A c env fr z':=⟨S.rm,S.E.go t.g fun _ h=>h.elim,t.R⟩
theorem EnvR.live {w:World} (E:EnvR w c env z fr) {b:Addr} (q:ZE env b):z.κ b=.no∧(z.h.get? b).isSome=true:=by
 rcases q with rfl | ⟨y,q⟩
 ·refine (E.ns).elim fun m y1=>y1.elim fun o y1=>y1.elim fun es y1=>y1.elim fun ep y1=>?_
  exact ⟨E.loc,by rw [y1.1]; rfl⟩
 ·refine (E.cl y b q).elim fun a1 y0=>y0.elim fun v y0=>y0.elim fun oc y0=>?_
  exact ⟨a1,by rw [y0.1]; rfl⟩
theorem se_lit {v:NV} {e:PySem.Expr} (o:litOk v=true):SE X k c (rbLit v e) (.li v):=fun _ _ _ _ _ _ _ S hw hk=>by
 induction v using NV.casesOn with
 | none=>exact wpAny_Constant_none (hk _ _ _ hw (.refl S.R) .none)
 | bool b=>exact wpAny_Constant_bool (hk _ _ _ hw (.refl S.R) (.bool b))
 | int i=>
  induction i using Int.casesOn with
  | ofNat n=>exact wpAny_Constant_int (hk _ _ ⟨_,_,_,_⟩ hw ⟨(S.R.grow fun _ _ h=>h).1,(S.R.grow fun _ _ h=>h).2⟩ (.int _ _))
  | negSucc n=>exact wpAny_UnaryOp (wpAny_Constant_int (PyProof.Rows.neg_int (hk _ _ ⟨_,_,_,_⟩ hw ⟨(S.R.grow fun _ _ h=>h).1,(S.R.grow fun _ _ h=>h).2⟩ (.int _ _))))
 | str n=>exact wpAny_Constant_str (hk _ _ ⟨_,_,_,_⟩ hw ⟨(S.R.grow fun _ _ h=>h).1,(S.R.grow fun _ _ h=>h).2⟩ (.str _ (of_decide_eq_true (show decide (n < tab.length)=true from o))))
 | _=>cases o
theorem name_at {x:Str} {q:Pos} {s:Shared} {u:Value} (E:EnvS c env) (hd:(x==("__debug__" : Str))=false) (a:At c env s.heap x (some u)) (hq:Qc u s):wpAny (model p X.w) A (eval (.Name x q) env) Qc Ef s:=by
 generalize e:some u=uu at a
 cases a with
 | loc k n=>exact wpAny_Name (wpAny_loadName_local E.kind ((E.kd x).trans k) n e.symm hq) hd
 | cell k l n=>subst e; exact wpAny_Name (wpAny_loadName_cell E.kind ((E.kd x).trans k) l n hq) hd
theorem getv_inv:∀ {fr:Fr} {i:Nat} {K:NV→Prop},getv fr i K→∃ v,fr[i]?=some (some v)∧K v
 | some v :: _,0,_,h=>⟨v,rfl,h⟩
 | _ :: l,n+1,_,h=>getv_inv (fr:=l) (i:=n) h
theorem hasN_of {i:Nat} (h:hasN c i=true):c.ns[i]?=some (some (nm c i))∧(nm c i==("__debug__" : Str))=false:=by
 unfold hasN at h
 simp only [Bool.and_eq_true] at h
 refine ⟨?_,by simpa using h.2⟩
 unfold nm
 rcases q:c.ns[i]? with _ | _ | x
 ·rw [q] at h; cases h.1
 ·rw [q] at h; cases h.1
 ·rfl
theorem se_lo {i:Nat} {q:Pos} (o:hasN c i=true):SE X k c (.Name (nm c i) q) (.lo i):=fun _ _ _ _ _ _ _ S hw hk=>by
 refine (getv_inv hw).elim fun v y1=>?_
 refine (S.E.val i _ v (hasN_of o).1 y1.1).elim fun u y0=>?_
 exact name_at S.E.s (hasN_of o).2 y0.1 (hk _ _ _ y1.2 (.refl S.R) y0.2)
noncomputable def fdec:Nat × Int→NV
 | (0,i)=>.int i
 | (1,i)=>.str i.toNat
 | (2,i)=>.fn i.toNat
 | (3,i)=>.cls i.toNat
 | (_,i)=>.gl i.toNat
theorem fdec_eq {u:NV} {c:Nat × Int} (h:fcode u=some c):u=fdec c:=by
 induction u using NV.casesOn <;> first | exact (Option.some_ne_none _ h.symm).elim | exact Option.some.inj h▸rfl
theorem flatB_eq {u v:NV} (h:flatB u v=true):u=v:=by
 refine ((Bool.and_eq_true _ _).mp h).elim fun h1 y1=>?_
 refine (Option.isSome_iff_exists.mp h1).elim fun c y0=>?_
 exact (fdec_eq y0).trans (fdec_eq ((eq_of_beq y1).symm.trans y0)).symm
theorem se_gb {x:Nat} {v:NV} {q:Pos} (o:(c.kd (gn x)==some .globalImplicit&&gbOk x v&&!(gn x==("__debug__" : Str)))=true):SE X k c (.Name (gn x) q) (.gb x v):=fun _ _ _ _ _ _ _ S hw hk=>by
 simp only [Bool.and_eq_true,beq_iff_eq,Bool.not_eq_true'] at o
 obtain ⟨⟨o1,o2⟩,o3⟩:=o
 unfold gbOk at o2
 refine wpAny_Name ?_ o3
 rw [loadName_read S.E.s.kind ((S.E.s.kd _).trans o1)]
 cases e:gtab[x]? with
 | none=>rw [e] at o2; cases o2
 | some u=>
  rw [e] at o2
  refine (X.hgv x u e).elim fun y y0=>?_
  refine loadGlobal_global (by rw [S.E.s.glo]; exact X.hg.keeps S.R.keep0) (show X.mg (gn x)=some y from ?_) (hk _ _ _ hw (.refl S.R) (flatB_eq o2▸y0.2 _))
  unfold gn; rw [e]; exact y0.1
end
end
section
section
variable {w:World} {κ:Ka} {x:Value}
noncomputable def VI (w:World) (κ:Ka) (x:Value):NV→Prop
 | .none=>x=.none
 | .bool b=>x=.bool b
 | .int i=>∃ t,x=.int i t
 | .str n=>∃ t,x=.str (tb n) t∧n < tab.length
 | .tup l=>∃ a vs m,x=.ref a∧κ a=.fz (tuO vs m)∧VRs w κ l vs
 | .fl l=>∃ a vs m,x=.ref a∧κ a=.fz (liO vs m)∧VRs w κ l vs∧l.length≤cap
 | .fi c ks l=>∃ a d es m,x=.ref a∧κ a=.fz (inO c d)∧κ d=.fz (diO es m)∧VFs w κ ks l es∧okc c=true
 | .fd ks l=>∃ a o kvs,x=.ref a∧κ a=.fz o∧DObj (PySem.strKind p w) o kvs∧kvs.map (·.1)=ks.map tb∧(∀ k∈ks,k < tab.length)∧VRs w κ l (kvs.map (·.2))
 | .lst n=>∃ a,x=.ref a∧κ a=.ob (.r n)
 | .ins n=>∃ a,x=.ref a∧κ a=.ob (.r n)
 | .dct n=>∃ a,x=.ref a∧κ a=.ob (.r n)
 | .dl n=>x=.ref n
 | .di n=>x=.ref n
 | .gl n=>x=.ref n
 | _=>True
theorem VR.inv {v:NV} (h:VR w κ v x):VI w κ x v:=by
 cases h with
 | none=>exact rfl
 | bool=>exact rfl
 | int i t=>exact ⟨t,rfl⟩
 | str t h=>exact ⟨t,rfl,h⟩
 | tup e r=>exact ⟨_,_,_,rfl,e,r⟩
 | fl e r h=>exact ⟨_,_,_,rfl,e,r,h⟩
 | fi e e2 r h=>exact ⟨_,_,_,_,rfl,e,e2,r,h⟩
 | fd e d q g r=>exact ⟨_,_,_,rfl,e,d,q,g,r⟩
 | lst e=>exact ⟨_,rfl,e⟩
 | ins e=>exact ⟨_,rfl,e⟩
 | dct e=>exact ⟨_,rfl,e⟩
 | dl=>exact rfl
 | di=>exact rfl
 | gl=>exact rfl
 | _=>exact trivial
theorem VR.int_inv {i:Int} (h:VR w κ (.int i) x):∃ t,x=.int i t:=h.inv
theorem VR.str_inv {n:Nat} (h:VR w κ (.str n) x):∃ t,x=.str (tb n) t∧n < tab.length:=h.inv
theorem VR.bool_inv {b:Bool} (h:VR w κ (.bool b) x):x=.bool b:=h.inv
theorem VR.none_inv (h:VR w κ .none x):x=.none:=h.inv
theorem VR.tup_inv {l:List NV} (h:VR w κ (.tup l) x):∃ a vs m,x=.ref a∧κ a=.fz (tuO vs m)∧VRs w κ l vs:=h.inv
theorem VR.fl_inv {l:List NV} (h:VR w κ (.fl l) x):∃ a vs m,x=.ref a∧κ a=.fz (liO vs m)∧VRs w κ l vs∧l.length≤cap:=h.inv
theorem VR.fi_inv {c:Nat} {ks:List Nat} {l:List NV} (h:VR w κ (.fi c ks l) x):∃ a d es m,x=.ref a∧κ a=.fz (inO c d)∧κ d=.fz (diO es m)∧VFs w κ ks l es∧okc c=true:=h.inv
theorem VR.fd_inv {ks:List Nat} {l:List NV} (h:VR w κ (.fd ks l) x):∃ a o kvs,x=.ref a∧κ a=.fz o∧DObj (PySem.strKind p w) o kvs∧kvs.map (·.1)=ks.map tb∧(∀ k∈ks,k < tab.length)∧VRs w κ l (kvs.map (·.2)):=h.inv
theorem VR.lst_inv {n:Nat} (h:VR w κ (.lst n) x):∃ a,x=.ref a∧κ a=.ob (.r n):=h.inv
theorem VR.ins_inv {n:Nat} (h:VR w κ (.ins n) x):∃ a,x=.ref a∧κ a=.ob (.r n):=h.inv
theorem VR.dct_inv {n:Nat} (h:VR w κ (.dct n) x):∃ a,x=.ref a∧κ a=.ob (.r n):=h.inv
theorem VR.dl_inv {n:Nat} (h:VR w κ (.dl n) x):x=.ref n:=h.inv
theorem VR.di_inv {n:Nat} (h:VR w κ (.di n) x):x=.ref n:=h.inv
theorem VR.gl_inv {n:Nat} (h:VR w κ (.gl n) x):x=.ref n:=h.inv
end
theorem onI_inv {K:Int→Prop}:∀ {v:NV},onI K v→∃ i,v=.int i∧K i
 | .int i,h=>⟨i,rfl,h⟩
theorem onN_inv {K:Prop}:∀ {v:NV},onN K v→v=.none∧K
 | .none,h=>⟨rfl,h⟩
theorem onT_inv {K:List NV→Prop}:∀ {v:NV},onT K v→∃ l,v=.tup l∧K l
 | .tup l,h=>⟨l,rfl,h⟩
theorem opK_inv {α:Type} {K:α→Prop}:∀ {o:Option α},opK K o→∃ x,o=some x∧K x
 | some x,h=>⟨x,rfl,h⟩
theorem bK_inv {P:Prop}:∀ {b:Bool},bK P b→b=true∧P
 | true,h=>⟨rfl,h⟩
theorem regK_inv {K:Ob→Prop}:∀ {l:List Ob} {n:Nat},regK l n K→∃ o,l[n]?=some o∧K o
 | o :: _,0,h=>⟨o,rfl,h⟩
 | _ :: l,n+1,h=>regK_inv (l:=l) (n:=n) h
theorem obL_inv {K:List NV→Prop}:∀ {o:Ob},obL K o→∃ l,o=.L l∧K l
 | .L l,h=>⟨l,rfl,h⟩
theorem obI_inv {K:Nat→List Nat→List NV→Prop}:∀ {o:Ob},obI K o→∃ c ks l,o=.I c ks l∧K c ks l
 | .I c ks l,h=>⟨c,ks,l,rfl,h⟩
inductive LS (σ:NH) (l:List NV):NV→Prop
 | fl:LS σ l (.fl l)
 | lst {n:Nat}:σ.at (.r n)=some (.L l)→LS σ l (.lst n)
 | dl {a:Nat}:σ.at (.d a)=some (.L l)→LS σ l (.dl a)
theorem getL_inv {σ:NH} {K:List NV→Prop}:∀ {v:NV},getL σ K v→∃ l,LS σ l v∧K l
 | .fl l,h=>⟨l,.fl,h⟩
 | .lst n,h=>by
  obtain ⟨o,e,h⟩:=regK_inv h
  obtain ⟨l,rfl,h⟩:=obL_inv h
  exact ⟨l,.lst e,h⟩
 | .dl a,h=>by
  obtain ⟨o,e,h⟩:=opK_inv h
  obtain ⟨l,rfl,h⟩:=obL_inv h
  exact ⟨l,.dl e,h⟩
inductive IS (σ:NH) (c:Nat) (ks:List Nat) (l:List NV):NV→Prop
 | fi:IS σ c ks l (.fi c ks l)
 | ins {n:Nat}:σ.at (.r n)=some (.I c ks l)→IS σ c ks l (.ins n)
 | di {a:Nat}:σ.at (.d a)=some (.I c ks l)→IS σ c ks l (.di a)
theorem getI_inv {σ:NH} {K:Nat→List Nat→List NV→Prop}:∀ {v:NV},getI σ K v→∃ c ks l,IS σ c ks l v∧K c ks l
 | .fi c ks l,h=>⟨c,ks,l,.fi,h⟩
 | .ins n,h=>by
  obtain ⟨o,e,h⟩:=regK_inv h
  obtain ⟨c,ks,l,rfl,h⟩:=obI_inv h
  exact ⟨c,ks,l,.ins e,h⟩
 | .di a,h=>by
  obtain ⟨o,e,h⟩:=opK_inv h
  obtain ⟨c,ks,l,rfl,h⟩:=obI_inv h
  exact ⟨c,ks,l,.di e,h⟩
section
variable {w:World} {h₀:Heap} {z:Z} {a b:Addr} {s:Sl} {ob:Ob} {v:NV} {x:Value}
theorem Rel.at (R:Rel w h₀ z) (e:z.κ a=.ob s) (h:z.σ.at s=some ob):OR w z.κ z.h a s ob:=by
 refine (R.own s ob h).elim fun b y0=>?_
 rw [R.inj a b (e.trans y0.1.symm) (by rw [e]; exact fun _ h=>nomatch h) (by rw [e]; exact fun h=>nomatch h)]; exact y0.2
theorem Rel.atD (R:Rel w h₀ z) (h:z.σ.at (.d a)=some ob):z.κ a=.ob (.d a)∧OR w z.κ z.h a (.d a) ob:=by
 refine (R.own _ ob h).elim fun b y0=>?_
 have:=R.dyn b a y0.1
 subst this
 exact ⟨y0.1,y0.2⟩
noncomputable def slotOf:NV→Option Sl
 | .lst n=>some (.r n)
 | .ins n=>some (.r n)
 | .dct n=>some (.r n)
 | .dl a=>some (.d a)
 | .di a=>some (.d a)
 | _=>none
theorem LS.at {l:List NV} (L:LS z.σ l v) (R:Rel w h₀ z) (r:VR w z.κ v x):∃ a us m,x=.ref a∧z.h.get? a=some (liO us m)∧VRs w z.κ l us∧l.length≤cap∧∀ s,slotOf v=some s→z.κ a=.ob s∧z.σ.at s=some (.L l):=by
 cases L with
 | fl=>obtain ⟨a,us,m,rfl,e,rs,c⟩:=r.fl_inv; exact ⟨a,us,m,rfl,R.fz _ _ e,rs,c,fun s q=>(nomatch q)⟩
 | lst h=>
  obtain ⟨a,rfl,e⟩:=r.lst_inv
  refine (R.at e h).elim fun c y0=>y0.elim fun us y0=>y0.elim fun m y0=>?_
  exact ⟨a,us,m,rfl,y0.1,y0.2,c,fun s q=>by obtain rfl:=Option.some.inj q; exact ⟨e,h⟩⟩
 | dl h=>
  obtain ⟨e,c,us,m,g,rs⟩:=R.atD h
  exact ⟨_,us,m,r.dl_inv,g,rs,c,fun s q=>by obtain rfl:=Option.some.inj q; exact ⟨e,h⟩⟩
theorem IS.at {c:Nat} {ks:List Nat} {l:List NV} (I:IS z.σ c ks l v) (R:Rel w h₀ z) (r:VR w z.κ v x):okc c=true∧∃ a d es m,x=.ref a∧z.h.get? a=some (inO c d)∧z.h.get? d=some (diO es m)∧VFs w z.κ ks l es∧∀ s,slotOf v=some s→z.κ a=.ob s∧z.κ d=.di s∧z.σ.at s=some (.I c ks l)∧ks.Nodup:=by
 cases I with
 | fi=>obtain ⟨a,d,es,m,rfl,e,e2,rs,k⟩:=r.fi_inv; exact ⟨k,a,d,es,m,rfl,R.fz _ _ e,R.fz _ _ e2,rs,fun s q=>(nomatch q)⟩
 | ins h=>
  obtain ⟨a,rfl,e⟩:=r.ins_inv
  refine (R.at e h).elim fun k y1=>y1.elim fun nd y1=>y1.elim fun d y1=>y1.elim fun es y1=>y1.elim fun m y1=>?_
  exact ⟨k,a,d,es,m,rfl,y1.1,y1.2.2.1,y1.2.2.2,fun s t=>by obtain rfl:=Option.some.inj t; exact ⟨e,y1.2.1,h,nd⟩⟩
 | di h=>
  refine (R.atD h).elim fun e y0=>y0.elim fun k y0=>y0.elim fun nd y0=>y0.elim fun d y0=>y0.elim fun es y0=>y0.elim fun m y0=>?_
  exact ⟨k,_,d,es,m,r.di_inv,y0.1,y0.2.2.1,y0.2.2.2,fun s t=>by obtain rfl:=Option.some.inj t; exact ⟨e,y0.2.1,h,nd⟩⟩
theorem IS.atC {c:Nat} {ks:List Nat} {l:List NV} {C:Value→Prop} (I:IS z.σ c ks l v) (R:Rel w h₀ z) (r:VR w z.κ v x) (kk:∀ {a d:Addr} {es:List DictEntry} {m:Nat},okc c=true→z.h.get? a=some (inO c d)→z.h.get? d=some (diO es m)→VFs w z.κ ks l es→(∀ s,slotOf v=some s→z.κ a=.ob s∧z.κ d=.di s∧z.σ.at s=some (.I c ks l)∧ks.Nodup)→VR w z.κ v (.ref a)→C (.ref a)):C x:=by
 obtain ⟨ok,a,d,es,m,rfl,g,g2,rs,hs⟩:=I.at R r
 exact kk ok g g2 rs hs r
theorem LS.atC {l:List NV} {C:Value→Prop} (L:LS z.σ l v) (R:Rel w h₀ z) (r:VR w z.κ v x) (kk:∀ {a:Addr} {us:List Value} {m:Nat},z.h.get? a=some (liO us m)→VRs w z.κ l us→l.length≤cap→C (.ref a)):C x:=by
 obtain ⟨a,us,m,rfl,g,rs,sz,_⟩:=L.at R r
 exact kk g rs sz
theorem getI_C {K:Nat→List Nat→List NV→Prop} {D:Prop} (h:getI z.σ K v) (kk:∀ {c:Nat} {ks:List Nat} {l:List NV},IS z.σ c ks l v→K c ks l→D):D:=by
 obtain ⟨c,ks,l,I,h⟩:=getI_inv h
 exact kk I h
theorem getL_C {K:List NV→Prop} {D:Prop} (h:getL z.σ K v) (kk:∀ {l:List NV},LS z.σ l v→K l→D):D:=by
 obtain ⟨l,L,h⟩:=getL_inv h
 exact kk L h
theorem put_at {σ:NH} {n:Nat} {o o':Ob} (h:σ.at (.r n)=some o):(σ.put n o').at (.r n)=some o'∧∀ s,s≠.r n→(σ.put n o').at s=σ.at s:=by
 refine ⟨?_,fun s ne=>?_⟩
 ·show (σ.reg.set n o')[n]?=some o'
  rw [List.getElem?_set_self (List.getElem?_eq_some_iff.mp h).1]
 ·induction s using Sl.casesOn with
  | d a=>rfl
  | r m=>show (σ.reg.set n o')[m]?=σ.reg[m]?; rw [List.getElem?_set_ne fun e=>ne (by rw [e])]
theorem dput_at {σ:NH} {a:Nat} {o:Option Ob}:(σ.dput a o).at (.d a)=o∧∀ s,s≠.d a→(σ.dput a o).at s=σ.at s:=by
 refine ⟨if_pos rfl,fun s ne=>?_⟩
 induction s using Sl.casesOn with
 | r m=>rfl
 | d b=>exact if_neg fun e=>ne (by rw [e])
theorem setL_inv {σ:NH} {l l':List NV} {K:NH→Prop} (L:LS σ l v) (h:setL σ l' K v):∃ s σ',slotOf v=some s∧σ'.at s=some (.L l')∧(∀ s',s'≠s→σ'.at s'=σ.at s')∧K σ':=by
 cases L with
 | fl=>exact h.elim
 | lst e=>exact ⟨_,_,rfl,(put_at e).1,(put_at e).2,h⟩
 | dl e=>exact ⟨_,_,rfl,dput_at.1,dput_at.2,h⟩
theorem setI_inv {σ:NH} {c c':Nat} {ks ks':List Nat} {l l':List NV} {K:NH→Prop} (L:IS σ c ks l v) (h:setI σ c' ks' l' K v):∃ s σ',slotOf v=some s∧σ'.at s=some (.I c' ks' l')∧(∀ s',s'≠s→σ'.at s'=σ.at s')∧K σ':=by
 cases L with
 | fi=>exact h.elim
 | ins e=>exact ⟨_,_,rfl,(put_at e).1,(put_at e).2,h⟩
 | di e=>exact ⟨_,_,rfl,dput_at.1,dput_at.2,h⟩
theorem size_none (h:Heap):h.get? h.objs.size=none:=by
 cases q:h.get? h.objs.size with
 | none=>rfl
 | some o=>exact absurd (Heap.lt_size q) (Nat.lt_irrefl _)
theorem at_push {σ:NH} {o:Ob}:(σ.push o).at (.r σ.next)=some o∧σ.at (.r σ.next)=none∧∀ s,s≠.r σ.next→(σ.push o).at s=σ.at s:=by
 refine ⟨List.getElem?_concat_length,List.getElem?_eq_none (Nat.le_refl _),fun s ne=>?_⟩
 induction s using Sl.casesOn with
 | d a=>rfl
 | r n=>
  show (σ.reg++[o])[n]?=σ.reg[n]?
  have ne:n≠σ.reg.length:=fun e=>ne (by rw [e]; rfl)
  rcases Nat.lt_or_gt_of_ne ne with q | q
  ·exact List.getElem?_append_left q
  ·rw [List.getElem?_eq_none (by rw [List.length_append]; exact q),List.getElem?_eq_none (Nat.le_of_lt q)]
end
section
variable {X:Cx} {z z':Z} {D:Addr} {Q:Po} {P:Addr→Prop}
theorem Tr.tag {κ':Ka} {σ':NH} {t:Nat} (R':Rel X.w X.h₀ ⟨z.h,t,σ',κ'⟩) (le:Le z.κ κ') (hP:∀ b,¬ P b→z.κ b=.no→κ' b=.no):Tr X P z ⟨z.h,t,σ',κ'⟩:=⟨R',le,fun b o e e2 nx=>⟨hP b nx e,e2⟩,fun _ h=>.inl h⟩
theorem kob_le {κ:Ka} {a d:Addr} {s:Sl} (n:κ a=.no) (nd:κ d=.no):Le κ (kob κ a d s):=by
 have ne:∀ b ρ,κ b=ρ→ρ≠.no→kob κ a d s b=ρ:=fun b ρ e q=>by
  unfold kob
  rw [if_neg fun h=>q (by rw [← e,h,n]),if_neg fun h=>q (by rw [← e,h,nd]),e]
 exact ⟨fun b o e=>ne b _ e (fun h=>nomatch h),fun b n e=>ne b _ e (fun h=>nomatch h)⟩
theorem slot_ok {s:Sl} {σ':NH} {ob:Ob} {d:Addr} {t:Nat} (R:Rel X.w X.h₀ z) (n:z.κ D=.no) (nd:z.κ d=.no) (e:(z.h.get? D).isSome=true) (ed:(z.h.get? d).isSome=true) (ns:z.σ.at s=none) (hx:∀ x,s=.d x→D=x) (e1:σ'.at s=some ob) (e2:∀ s',s'≠s→σ'.at s'=z.σ.at s')
  (hI:d=D∨∃ c ks l,ob=.I c ks l) (q:OR X.w (kob z.κ D d s) z.h D s ob) (hP:∀ b,b=D∨b=d→P b):Tr X P z ⟨z.h,t,σ',kob z.κ D d s⟩:=
 Tr.tag (R.tagO n nd ns e ed hx e1 e2 hI q).1 (kob_le n nd) fun b nb q=>by
  unfold kob
  rw [if_neg fun h=>nb (hP b (.inl h)),if_neg fun h=>nb (hP b (.inr h))]; exact q
theorem alloc_ok {p:Pol} {l:List NV} {us:List Value} {m:Nat} (R:Rel X.w X.h₀ z) (n:z.κ D=.no) (e:z.h.get? D=some (liO us m)) (r:VRs X.w z.κ l us) (sz:l.length≤cap) (hw:alloc p l Q z.σ) :
  ∃ v σ' κ',Q v σ'∧Tr X (fun b=>b=D) z ⟨z.h,z.t,σ',κ'⟩∧VR X.w κ' v (.ref D):=by
 have e':(z.h.get? D).isSome=true:=by rw [e]; rfl
 have ob:∀ s,OR X.w (kob z.κ D D s) z.h D s (.L l):=fun s=>⟨sz,us,m,e,r.mono (kob_le n n)⟩
 induction p using Pol.casesOn with
 | f=>
  have z0:=R.tagF (t:=z.t) n e
  exact ⟨_,_,_,hw,Tr.tag z0.1 z0.2 fun b nb q=>(kset_ne nb).trans q,.fl kset_self (r.mono z0.2) sz⟩
 | r=>exact ⟨_,_,_,hw,slot_ok R n n e' e' (at_push (o:=.L l)).2.1 (fun _ h=>nomatch h) at_push.1 at_push.2.2 (.inl rfl) (ob _) fun b h=>h.elim id id,.lst (if_pos rfl)⟩
 | d=>
  have nd:z.σ.dyn D=none:=by
   cases q:z.σ.dyn D with
   | none=>rfl
   | some o=>have:=(R.atD (a:=D) q).1; rw [n] at this; cases this
  exact ⟨_,_,_,hw D nd,slot_ok (s:=.d D) R n n e' e' nd (fun _ h=>by cases h; rfl) dput_at.1 dput_at.2 (.inl rfl) (ob _) fun b h=>h.elim id id,.dl D⟩
theorem Tr.fresh (t:Tr X P z z') (h:∀ b,P b→z.h.get? b=none):Tr X X0 z z':=⟨t.R,t.g.weaken fun b x=>.inr (h b x)⟩
theorem Tr.weak {P':Addr→Prop} (t:Tr X P z z') (h:∀ b,P b→P' b∨z.h.get? b=none):Tr X P' z z':=⟨t.R,t.g.weaken h⟩
theorem Tr.up (t:Tr X X0 z z'):Tr X P z z':=⟨t.R,t.g.weaken fun b x=>x.elim⟩
theorem Tr.grow {h':Heap} {t:Nat} (R:Rel X.w X.h₀ z) (k:∀ b o,z.h.get? b=some o→h'.get? b=some o):Tr X X0 z ⟨h',t,z.σ,z.κ⟩:=⟨(R.grow k).1,(R.grow k).2⟩
theorem new_ok {p:Pol} {l:List NV} {us:List Value} {m:Nat} {h':Heap} {t:Nat} {s₀:Shared} {Qc:Value→Shared→Prop} (R:Rel X.w X.h₀ z) (up:∀ b o,z.h.get? b=some o→h'.get? b=some o) (g:h'.get? z.h.objs.size=some (liO us m)) (r:VRs X.w z.κ l us) (sz:l.length≤cap) (hw:alloc p l Q z.σ) (hk:Post X Q z s₀ Qc) :
  Qc (.ref z.h.objs.size) ⟨h',s₀.gens,s₀.drawn,t,s₀.os⟩:=by
 have e:=size_none z.h
 have t₁:Tr X X0 z ⟨h',t,z.σ,z.κ⟩:=.grow R up
 refine (alloc_ok (z:=⟨h',t,z.σ,z.κ⟩) (D:=z.h.objs.size) t₁.R (R.noOf e) g r sz hw).elim fun v y0=>y0.elim fun σ' y0=>y0.elim fun κ' y0=>?_
 exact hk v _ _ y0.1 (((t₁.up (P:=fun b=>b=z.h.objs.size)).trans y0.2.1).fresh fun b q=>by rw [q]; exact e) y0.2.2
theorem push_ok {p:Pol} {l:List NV} {us:List Value} {s₀:Shared} {Qc:Value→Shared→Prop} (R:Rel X.w X.h₀ z) (r:VRs X.w z.κ l us) (sz:l.length≤cap) (hw:alloc p l Q z.σ) (hk:Post X Q z s₀ Qc) :
  Qc (.ref z.h.objs.size) ⟨z.h.push (liO us 0),s₀.gens,s₀.drawn,z.t,s₀.os⟩:=new_ok R (fun b o q=>Heap.get?_push_of_some _ q) (Heap.get?_push_size _ rfl) r sz hw hk
end
end
section
noncomputable section
mutual
noncomputable def pP:PD→PyData
 | .none=>.none
 | .int i=>.int i
 | .str n=>.str (tb n)
 | .tup l=>.tuple (pPs l)
 | .fl l=>.list (pPs l)
noncomputable def pPs:List PD→List PyData
 | []=>[]
 | d :: l=>pP d :: pPs l
end
mutual
noncomputable def inR:PD→Bool
 | .none=>true
 | .int _=>true
 | .str n=>decide (n < tab.length)
 | .tup l=>inRs l
 | .fl l=>inRs l
noncomputable def inRs:List PD→Bool
 | []=>true
 | d :: l=>inR d&&inRs l
end
end
theorem tb_all:((List.range tab.length).all fun n=>PyData.strOk (tb n)&&(List.range tab.length).all fun m=>(tb n==tb m)==Nat.beq n m)=true:=by decide+kernel
theorem tb_ok {n:Nat} (h:n < tab.length):PyData.strOk (tb n)=true∧∀ m < tab.length,(tb n==tb m)=Nat.beq n m:=by
 have:=List.all_eq_true.mp tb_all n (List.mem_range.mpr h)
 simp only [Bool.and_eq_true] at this
 exact ⟨this.1,fun m hm=>eq_of_beq (List.all_eq_true.mp this.2 m (List.mem_range.mpr hm))⟩
theorem inR_s {n:Nat} (h:inR (.str n)=true):n < tab.length:=of_decide_eq_true (show decide (n < tab.length)=true from h)
mutual
theorem eqv_ok:∀ (d e:PD),inR d=true→inR e=true→PyData.eqv (pP d) (pP e)=PD.beq d e∧PyData.eqv (pP e) (pP d)=PD.beq d e
 | .none,e,_,_=>by obtain ⟨⟩:=e <;> exact ⟨rfl,rfl⟩
 | .int i,.int j,_,_=>⟨rfl,by show (j==i)=decide (i=j); rw [Bool.beq_comm]; rfl⟩
 | .str i,.str j,h,k=>⟨(tb_ok (inR_s h)).2 j (inR_s k),((tb_ok (inR_s k)).2 i (inR_s h)).trans (by show Nat.beq j i=Nat.beq i j; rw [Bool.eq_iff_iff,Nat.beq_eq,Nat.beq_eq]; exact eq_comm)⟩
 | .tup l,.tup r,h,k=>eqvs_ok l r h k
 | .fl l,.fl r,h,k=>eqvs_ok l r h k
 | .int i,.none,_,_=>⟨rfl,rfl⟩
 | .int i,.str _,_,_=>⟨rfl,rfl⟩
 | .int i,.tup _,_,_=>⟨rfl,rfl⟩
 | .int i,.fl _,_,_=>⟨rfl,rfl⟩
 | .str i,.none,_,_=>⟨rfl,rfl⟩
 | .str i,.int _,_,_=>⟨rfl,rfl⟩
 | .str i,.tup _,_,_=>⟨rfl,rfl⟩
 | .str i,.fl _,_,_=>⟨rfl,rfl⟩
 | .tup i,.none,_,_=>⟨rfl,rfl⟩
 | .tup i,.int _,_,_=>⟨rfl,rfl⟩
 | .tup i,.str _,_,_=>⟨rfl,rfl⟩
 | .tup i,.fl _,_,_=>⟨rfl,rfl⟩
 | .fl i,.none,_,_=>⟨rfl,rfl⟩
 | .fl i,.int _,_,_=>⟨rfl,rfl⟩
 | .fl i,.str _,_,_=>⟨rfl,rfl⟩
 | .fl i,.tup _,_,_=>⟨rfl,rfl⟩
theorem eqvs_ok:∀ (l r:List PD),inRs l=true→inRs r=true→PyData.eqvAll (pPs l) (pPs r)=PD.beqs l r∧PyData.eqvAll (pPs r) (pPs l)=PD.beqs l r
 | [],[],_,_=>⟨rfl,rfl⟩
 | [],_ :: _,_,_=>⟨rfl,rfl⟩
 | _ :: _,[],_,_=>⟨rfl,rfl⟩
 | d :: l,e :: r,h,k=>by
  have h:=(Bool.and_eq_true _ _).mp (show (inR d&&inRs l)=true from h)
  have k:=(Bool.and_eq_true _ _).mp (show (inR e&&inRs r)=true from k)
  have a:=eqv_ok d e h.1 k.1
  have b:=eqvs_ok l r h.2 k.2
  refine ⟨?_,?_⟩
  ·show (PyData.eqv (pP d) (pP e)&&PyData.eqvAll (pPs l) (pPs r))=_
   rw [a.1,b.1]; show _=(match PD.beq d e with | true=>PD.beqs l r | false=>false)
   cases PD.beq d e <;> rfl
  ·show (PyData.eqv (pP e) (pP d)&&PyData.eqvAll (pPs r) (pPs l))=_
   rw [a.2,b.2]; show _=(match PD.beq d e with | true=>PD.beqs l r | false=>false)
   cases PD.beq d e <;> rfl
end
theorem mem_ok (d:PD) (h:inR d=true):∀ ds,inRs ds=true→((pPs ds).any fun y=>PyData.eqv y (pP d))=PD.mem d ds
 | [],_=>rfl
 | e :: ds,k=>by
  have k:=(Bool.and_eq_true _ _).mp (show (inR e&&inRs ds)=true from k)
  show (PyData.eqv (pP e) (pP d) || (pPs ds).any _)=(match PD.beq d e with | true=>true | false=>PD.mem d ds)
  rw [(eqv_ok d e h k.1).2,mem_ok d h ds k.2]
  cases PD.beq d e <;> rfl
structure Rd (h:Heap) (n:Nat) (x:Value) (d:PD):Prop where
 lay:(pP d).canLay0=true
 dep:(pP d).depth≤n
 inr:inR d=true
 rd:∃ as,Reads h x (pP d) as
structure Rds (h:Heap) (n:Nat) (xs:List Value) (ds:List PD):Prop where
 lay:PyData.canLayAll0 (pPs ds)=true
 dep:PyData.depthAll (pPs ds)≤n
 inr:inRs ds=true
 rd:∃ as,ReadsAll h xs (pPs ds) as
theorem optC_inv {α:Type} {a:Option α} {l:Option (List α)} {r:List α} (h:optC a l=some r):∃ x xs,a=some x∧l=some xs∧r=x :: xs:=by
 cases a with
 | none=>cases h
 | some x=>induction l using Option.casesOn with
  | none=>cases h
  | some xs=>obtain rfl:=Option.some.inj h; exact ⟨x,xs,rfl,rfl,rfl⟩
section
variable {w:World} {h₀:Heap} {z:Z}
theorem rds_of {n:Nat} (one:∀ v x d,VR w z.κ v x→pd z.σ n v=some d→Rd z.h n x d):∀ {vs:List NV} {xs:List Value} {ds:List PD},VRs w z.κ vs xs→pds (pd z.σ n) vs=some ds→Rds z.h n xs ds
 | _,_,_,.nil,e=>by obtain rfl:=Option.some.inj e; exact ⟨rfl,Nat.zero_le _,rfl,_,.nil⟩
 | _,_,_,.cons r rs,e=>by
  obtain ⟨d,ds,e1,e2,rfl⟩:=optC_inv e
  refine cps fun C kk=>?_
  obtain ⟨a1,a2,a3,_,a4⟩:=one _ _ _ r e1
  obtain ⟨b1,b2,b3,_,b4⟩:=rds_of one rs e2
  exact kk (⟨(Bool.and_eq_true _ _).mpr ⟨a1,b1⟩,Nat.max_le.mpr ⟨a2,b2⟩,(Bool.and_eq_true _ _).mpr ⟨a3,b3⟩,_,.cons a4 b4⟩)
theorem pd_list {n:Nat} (ih:∀ {vs:List NV} {xs:List Value} {ds:List PD},VRs w z.κ vs xs→pds (pd z.σ n) vs=some ds→Rds z.h n xs ds) {l:List NV} {us:List Value} {m:Nat} {a:Addr} {d:PD} (g:z.h.get? a=some (liO us m)) (rs:VRs w z.κ l us) (e:(pds (pd z.σ n) l).map .fl=some d):Rd z.h (n+1) (.ref a) d:=by
 obtain ⟨ds,e1,rfl⟩:=Option.map_eq_some_iff.mp e
 obtain ⟨b1,b2,b3,_,b4⟩:=ih rs e1
 exact ⟨b1,by show _+1≤_; exact Nat.succ_le_succ b2,b3,_,.list g rfl rfl (by simpa using b4)⟩
theorem rd_ok (R:Rel w h₀ z):∀ (n:Nat) (v:NV) (x:Value) (d:PD),VR w z.κ v x→pd z.σ n v=some d→Rd z.h n x d:=by
 have none:∀ n x,VR w z.κ .none x→Rd z.h n x .none:=fun n x r=>by rw [r.none_inv]; exact ⟨rfl,Nat.zero_le _,rfl,_,.none⟩
 have int:∀ n i x,VR w z.κ (.int i) x→Rd z.h n x (.int i):=fun n i x r=>by obtain ⟨t,rfl⟩:=r.int_inv; exact ⟨rfl,Nat.zero_le _,rfl,_,.int _ _⟩
 have str:∀ n s x,VR w z.κ (.str s) x→Rd z.h n x (.str s):=fun n s x r=>by obtain ⟨t,rfl,h⟩:=r.str_inv; exact ⟨(tb_ok h).1,Nat.zero_le _,(show decide (s < tab.length)=true from decide_eq_true h),_,.str _ _⟩
 intro n
 induction n with
 | zero=>
  intro v x d r e
  cases v with
  | none=>cases e; exact none _ _ r
  | int i=>cases e; exact int _ _ _ r
  | str i=>cases e; exact str _ _ _ r
  | _=>cases e
 | succ n ih=>
  intro v x d r e
  cases v with
  | none=>cases e; exact none _ _ r
  | int i=>cases e; exact int _ _ _ r
  | str i=>cases e; exact str _ _ _ r
  | tup l=>
   obtain ⟨ds,e1,rfl⟩:=Option.map_eq_some_iff.mp e
   obtain ⟨a,vs,m,rfl,q,rs⟩:=r.tup_inv
   obtain ⟨b1,b2,b3,_,b4⟩:=rds_of ih rs e1
   exact ⟨b1,by show _+1≤_; exact Nat.succ_le_succ b2,b3,_,.tuple (R.fz _ _ q) rfl rfl (by simpa using b4)⟩
  | fl l=>
   obtain ⟨a,vs,m,rfl,q,rs,_⟩:=r.fl_inv
   exact pd_list (rds_of ih) (R.fz _ _ q) rs e
  | lst a=>
   have e:(match z.σ.reg[a]? with | some (.L l)=>(pds (pd z.σ n) l).map .fl | _=>Option.none)=some d:=e
   cases q:z.σ.reg[a]? with
   | none=>rw [q] at e; cases e
   | some o=>
    rw [q] at e
    cases o with
    | L l=>
     obtain ⟨a,us,m,rfl,g,rs,_⟩:=(LS.lst q).at R r
     exact pd_list (rds_of ih) g rs e
    | _=>cases e
  | dl a=>
   have e:(match z.σ.dyn a with | some (.L l)=>(pds (pd z.σ n) l).map .fl | _=>Option.none)=some d:=e
   cases q:z.σ.dyn a with
   | none=>rw [q] at e; cases e
   | some o=>
    rw [q] at e
    cases o with
    | L l=>
     obtain ⟨a,us,m,rfl,g,rs,_⟩:=(LS.dl q).at R r
     exact pd_list (rds_of ih) g rs e
    | _=>cases e
  | _=>cases e
end
end
section
section
variable {X:Cx} {k:Nat} {A:Around} {c:TC} {env:Env} {fr:Fr} {z z':Z} {s₀:Shared} {Q:Po} {Qc:Value→Shared→Prop} {v u:NV} {x y:Value}
theorem Post.tick (hk:Post X Q z s₀ Qc) (R:Rel X.w X.h₀ z) {t:Nat} {v:NV} {u:Value} (hq:Q v z.σ) (r:VR X.w z.κ v u):Qc u ⟨z.h,s₀.gens,s₀.drawn,t,s₀.os⟩:=hk v u ⟨z.h,t,z.σ,z.κ⟩ hq (.grow R fun _ _ h=>h) r
theorem cat_ok:((List.range 7).all fun a=>(List.range 3).all fun b=>match cat a b with
  | some n=>decide (n < tab.length)&&tb n==tb a++tb b&&decide ((tb a).length+(tb b).length≤9)
  | none=>true)=true:=by decide+kernel
theorem cat_of {a b n:Nat} (h:cat a b=some n):n < tab.length∧tb n=tb a++tb b∧(tb a).length+(tb b).length≤9:=by
 have hb:Nat.ble b 2=true:=by
  unfold cat at h
  cases q:Nat.ble b 2 with
  | true=>rfl
  | false=>rw [q] at h; cases h
 have ha:a < 7:=Nat.lt_of_not_le fun q=>by
  obtain ⟨j,rfl⟩:=Nat.exists_eq_add_of_le q
  rw [Nat.add_comm] at h
  have:cat (j+7) b=none:=by unfold cat; cases Nat.ble b 2 <;> rfl
  rw [this] at h; cases h
 have:=List.all_eq_true.mp (List.all_eq_true.mp cat_ok a (List.mem_range.mpr ha)) b (List.mem_range.mpr (Nat.lt_succ_of_le (Nat.le_of_ble_eq_true hb)))
 rw [h] at this
 simp only [Bool.and_eq_true,decide_eq_true_eq,beq_iff_eq] at this
 exact ⟨this.1.1,this.1.2,this.2⟩
theorem addK_inv:∀ {v u:NV},addK Q z.σ v u→(∃ i j,v=.int i∧u=.int j∧Q (.int (i+j)) z.σ)∨(∃ a b n,v=.str a∧u=.str b∧cat a b=some n∧Q (.str n) z.σ)∨∃ l,v=.fl l∧getL z.σ (fun r=>l.length+r.length≤cap∧Q (.fl (l++r)) z.σ) u
 | .int i,.int j,h=>.inl ⟨i,j,rfl,rfl,h⟩
 | .str a,.str b,h=>let ⟨n,e,q⟩:=opK_inv h; .inr (.inl ⟨a,b,n,rfl,rfl,e,q⟩)
 | .fl l,u,h=>.inr (.inr ⟨l,rfl,h⟩)
theorem bin_ok {o:BOp} (R:Rel X.w X.h₀ z) (rv:VR X.w z.κ v x) (ru:VR X.w z.κ u y) (hw:wBin o v u Q z.σ) (hk:Post X Q z s₀ Qc):wpAny (model p X.w) A (binaryOp (bopB o) x y) Qc Ef (z.s s₀):=by
 induction o using BOp.casesOn with
 | add=>
  rcases addK_inv hw with ⟨i,j,rfl,rfl,hq⟩ | ⟨a,b,n,rfl,rfl,e,hq⟩ | ⟨l,rfl,hw⟩
  ·obtain ⟨t,rfl⟩:=rv.int_inv
   obtain ⟨t',rfl⟩:=ru.int_inv
   exact PyProof.Rows.add_int (hk.tick R hq (.int _ _))
  ·obtain ⟨t,rfl,_⟩:=rv.str_inv
   obtain ⟨t',rfl,_⟩:=ru.str_inv
   have z0:=cat_of e
   exact PyProof.Rows.add_str (fun t' tk=>hk.tick R hq (z0.2.1▸.str _ z0.1)) (Nat.le_trans z0.2.2 (by decide))
  ·obtain ⟨r,L,sz,hq⟩:=getL_inv hw
   obtain ⟨a,vs,n,rfl,g1,r1,_⟩:=(LS.fl (σ:=z.σ) (l:=l)).at R rv
   obtain ⟨b,us,n',rfl,g2,r2,_⟩:=L.at R ru
   have hl:vs.toArray.size+us.toArray.size≤sizeLine:=by
    rw [List.size_toArray,List.size_toArray,← r1.length,← r2.length]
    exact Nat.le_trans sz (show cap≤sizeLine by decide)
   refine concat_meets ⟨_,g1,rfl⟩ ⟨_,g2,rfl⟩ noFill_list_add seq_list_add PySem.F.slot_list_add PySem.F.entry_list_add (PySem.F.args_list_add_2 _ _) (list_addW a b vs.toArray us.toArray n n' none none #[] #[] hl) ⟨g1,g2,?_⟩
   rw [List.append_toArray]
   exact push_ok (p:=.f) R (r2.append r1) (by rw [List.length_append]; exact sz) hq hk
 | sub=>
  obtain ⟨i,rfl,hw⟩:=onI_inv hw
  obtain ⟨j,rfl,hq⟩:=onI_inv hw
  obtain ⟨t,rfl⟩:=rv.int_inv
  obtain ⟨t',rfl⟩:=ru.int_inv
  exact PyProof.Rows.sub_int (hk.tick R hq (.int _ _))
 | mul=>
  obtain ⟨i,rfl,hw⟩:=onI_inv hw
  obtain ⟨j,rfl,h1,_,hq⟩:=onI_inv hw
  obtain ⟨t,rfl⟩:=rv.int_inv
  obtain ⟨t',rfl⟩:=ru.int_inv
  exact mul_int (hk.tick R hq (.int _ _)) (IntMulOk.of_left (intBits_le_64 (by lia) (by lia)))
 | div=>
  obtain ⟨i,rfl,hw⟩:=onI_inv hw
  obtain ⟨j,rfl,h1,h2,hq⟩:=onI_inv hw
  obtain ⟨t,rfl⟩:=rv.int_inv
  obtain ⟨t',rfl⟩:=ru.int_inv
  refine floordiv_int (by lia) ?_ (.inl (PyProof.noPylong_small (by lia)))
  exact (Int.fdiv_eq_ediv_of_nonneg _ (Int.le_of_lt h1)).symm▸hk.tick R hq (.int _ _)
 | mod=>
  obtain ⟨i,rfl,hw⟩:=onI_inv hw
  obtain ⟨j,rfl,h1,hq⟩:=onI_inv hw
  obtain ⟨t,rfl⟩:=rv.int_inv
  obtain ⟨t',rfl⟩:=ru.int_inv
  refine mod_int' (by lia) ?_
  exact (Int.fmod_eq_emod_of_nonneg _ (Int.le_of_lt h1)).symm▸hk.tick R hq (.int _ _)
theorem se_bn {o:BOp} {a b:PySem.Expr} {ma mb:E} {q:Pos} (ha:SE X k c a ma) (hb:SE X k c b mb):SE X k c (.BinOp a (bopB o) b q) (.bn o ma mb):=fun _ _ _ _ _ _ _ S hw hk=>
 wpAny_BinOp (ha S hw fun _ _ _ hw t r=>hb (S.go t) hw fun _ _ _ hw t₂ r₂=>bin_ok t₂.R (r.go t₂) r₂ hw (hk.step (t.trans t₂)))
theorem shaped_of {h:Heap} {x:Value} {d:PD} (r:Rd h 4 x d):SeqAt.shaped (pP d)=true:=by
 unfold SeqAt.shaped
 rw [r.lay,Bool.true_and]
 exact decide_eq_true (Nat.le_trans r.dep (by decide))
theorem eqK_inv {K:Bool→Prop} (h:eqK z.σ v u K):(∃ a b,v=.bool a∧u=.bool b∧K (a==b))∨∃ d e,pd z.σ 4 v=some d∧pd z.σ 4 u=some e∧K (PD.beq d e):=by
 have gen:opK (fun d=>opK (fun e=>K (PD.beq d e)) (pd z.σ 4 u)) (pd z.σ 4 v)→∃ d e,pd z.σ 4 v=some d∧pd z.σ 4 u=some e∧K (PD.beq d e):=fun h=>by
  obtain ⟨d,e1,h⟩:=opK_inv h
  obtain ⟨e,e2,h⟩:=opK_inv h
  exact ⟨d,e,e1,e2,h⟩
 induction v using NV.casesOn with
 | bool a=>induction u using NV.casesOn with
  | bool b=>exact .inl ⟨a,b,rfl,rfl,h⟩
  | _=>exact .inr (gen h)
 | _=>exact .inr (gen h)
theorem isN_val {w:World} {κ:Ka} (r:VR w κ v x):(x==Value.none)=isN v:=by
 cases r <;> rfl
theorem seqK_at {K:List NV→Prop} (R:Rel X.w X.h₀ z) (r:VR X.w z.κ u y) (h:seqK X.T z.σ K u):∃ l a us m,K l∧y=.ref a∧(z.h.get? a=some (liO us m)∨z.h.get? a=some (tuO us m))∧VRs X.w z.κ l us:=by
 have gen:getL z.σ K u→∃ l a us m,K l∧y=.ref a∧(z.h.get? a=some (liO us m)∨z.h.get? a=some (tuO us m))∧VRs X.w z.κ l us:=fun h=>by
  obtain ⟨l,L,h⟩:=getL_inv h
  obtain ⟨a,us,m,e,g,rs,_⟩:=L.at R r
  exact ⟨l,a,us,m,h,e,.inl g,rs⟩
 induction u using NV.casesOn with
 | tup l=>
  obtain ⟨a,us,m,e,g,rs⟩:=r.tup_inv
  exact ⟨l,a,us,m,h,e,.inr (R.fz _ _ g),rs⟩
 | gl g=>
  obtain ⟨o,e,h⟩:=opK_inv h
  cases o with
  | dict ks l=>exact h.elim
  | seq b l=>
   obtain ⟨us,m,g1,_,rs⟩:=X.seq g b l e
   have g1:=R.keep0 _ _ g1
   exact ⟨l,g,us,m,h,r.gl_inv,by obtain ⟨⟩:=b; exact .inr g1; exact .inl g1,rs z.κ R.base⟩
 | _=>exact gen h
theorem Room.min (rm:Room A k) {n m:Nat} (h:m≤4):A.units+1+min n m < cLine:=by
 have:=rm.u; have:=Nat.min_le_right n m; lia
theorem in_ok {K:Bool→Prop} (rm:Room A k) (R:Rel X.w X.h₀ z) (rv:VR X.w z.κ v x) (ru:VR X.w z.κ u y) (h:inK X.T z.σ v u K) :
  ∃ b,K b∧(∀ Qc:Value→Shared→Prop,Qc (.bool b) (z.s s₀)→wpAny (model p X.w) A (compareOp .In x y) Qc Ef (z.s s₀))∧∀ Qc:Value→Shared→Prop,Qc (.bool (!b)) (z.s s₀)→wpAny (model p X.w) A (compareOp .NotIn x y) Qc Ef (z.s s₀):=by
 obtain ⟨l,a,us,m,h,rfl,g,rs⟩:=seqK_at R ru h
 obtain ⟨d,e1,h⟩:=opK_inv h
 obtain ⟨ds,e2,h⟩:=opK_inv h
 have rd:=rd_ok R 4 _ _ _ rv e1
 have rl:=rds_of (fun v x d=>rd_ok R 4 v x d) rs e2
 obtain ⟨as,r1⟩:=rd.rd
 obtain ⟨bs,r2⟩:=rl.rd
 have ea:=mem_ok d rd.inr ds rl.inr
 have hu:=rm.min (n:=PyData.depthAll (pPs ds)) rd.dep
 refine ⟨_,h,?_⟩
 rcases g with g | g
 ·have rr:Reads z.h (.ref a) (.list (pPs ds)) (a :: bs):=.list g rfl rfl (by simpa using r2)
  exact ⟨fun Qc hq=>SeqAt.in_list_reads (s:=z.s s₀) rr r1 rl.lay rd.lay hu (by rw [ea]; exact hq),fun Qc hq=>SeqAt.notIn_list_reads (s:=z.s s₀) rr r1 rl.lay rd.lay hu (by rw [ea]; exact hq)⟩
 ·have rr:Reads z.h (.ref a) (.tuple (pPs ds)) bs:=.tuple g rfl rfl (by simpa using r2)
  exact ⟨fun Qc hq=>SeqAt.in_tuple_reads (s:=z.s s₀) rr r1 rl.lay rd.lay hu (by rw [ea]; exact hq),fun Qc hq=>SeqAt.notIn_tuple_reads (s:=z.s s₀) rr r1 rl.lay rd.lay hu (by rw [ea]; exact hq)⟩
theorem eq_ok (rm:Room A k) (R:Rel X.w X.h₀ z) (rv:VR X.w z.κ v x) (ru:VR X.w z.κ u y) {d e:PD} (e1:pd z.σ 4 v=some d) (e2:pd z.σ 4 u=some e) :
  (∀ Qc:Value→Shared→Prop,Qc (.bool (PD.beq d e)) (z.s s₀)→wpAny (model p X.w) A (compareOp .Eq x y) Qc Ef (z.s s₀))∧∀ Qc:Value→Shared→Prop,Qc (.bool (!PD.beq d e)) (z.s s₀)→wpAny (model p X.w) A (compareOp .NotEq x y) Qc Ef (z.s s₀):=by
 have rd:=rd_ok R 4 _ _ _ rv e1
 have re:=rd_ok R 4 _ _ _ ru e2
 obtain ⟨as,r1⟩:=rd.rd
 obtain ⟨bs,r2⟩:=re.rd
 have ea:=(eqv_ok d e rd.inr re.inr).1
 have hu:A.units+64 < cLine:=by have:=rm.u; lia
 exact ⟨fun Qc hq=>eq_dataH (s:=z.s s₀) r1 r2 (shaped_of rd) (shaped_of re) hu (by rw [ea]; exact hq),fun Qc hq=>ne_dataH (s:=z.s s₀) r1 r2 (shaped_of rd) (shaped_of re) hu (by rw [ea]; exact hq)⟩
theorem ord_ok {P:Int→Int→Bool} {op:CmpOp} (rv:VR X.w z.κ v x) (ru:VR X.w z.κ u y) (hw:onI (fun i=>onI (fun j=>Q (.bool (P i j)) z.σ) u) v)
  (h:∀ (i j:Int) (t t':Tok) (Qc:Value→Shared→Prop),Qc (.bool (P i j)) (z.s s₀)→wpAny (model p X.w) A (compareOp op (.int i t) (.int j t')) Qc Ef (z.s s₀)) :
  ∃ b,Q (.bool b) z.σ∧∀ Qc:Value→Shared→Prop,Qc (.bool b) (z.s s₀)→wpAny (model p X.w) A (compareOp op x y) Qc Ef (z.s s₀):=by
 obtain ⟨i,rfl,hw1⟩:=onI_inv hw
 obtain ⟨j,rfl,hq⟩:=onI_inv hw1
 obtain ⟨t,rfl⟩:=rv.int_inv
 obtain ⟨t',rfl⟩:=ru.int_inv
 exact ⟨_,hq,h i j t t'⟩
theorem cmp_ok {o:COp} (rm:Room A k) (R:Rel X.w X.h₀ z) (rv:VR X.w z.κ v x) (ru:VR X.w z.κ u y) (hw:wCmp X.T o v u Q z.σ) :
  ∃ b,Q (.bool b) z.σ∧∀ Qc:Value→Shared→Prop,Qc (.bool b) (z.s s₀)→wpAny (model p X.w) A (compareOp (copB o) x y) Qc Ef (z.s s₀):=by
 induction o using COp.casesOn with
 | eq=>
  rcases eqK_inv (z:=z) (v:=v) (u:=u) (K:=fun b=>Q (.bool b) z.σ) hw with ⟨a,b,rfl,rfl,hq⟩ | ⟨d,e,e1,e2,hq⟩
  ·rw [rv.bool_inv,ru.bool_inv]; exact ⟨_,hq,fun Qc h=>eq_bool h⟩
  ·exact ⟨_,hq,(eq_ok rm R rv ru e1 e2).1⟩
 | ne=>
  rcases eqK_inv (z:=z) (v:=v) (u:=u) (K:=fun b=>Q (.bool (!b)) z.σ) hw with ⟨a,b,rfl,rfl,hq⟩ | ⟨d,e,e1,e2,hq⟩
  ·rw [rv.bool_inv,ru.bool_inv]; exact ⟨_,hq,fun Qc h=>ne_dataH (s:=z.s s₀) (Reads.bool a) (Reads.bool b) rfl rfl (by have:=rm.u; lia) h⟩
  ·exact ⟨_,hq,(eq_ok rm R rv ru e1 e2).2⟩
 | lt=>exact ord_ok rv ru hw fun _ _ _ _ _ h=>lt_int h
 | le=>exact ord_ok rv ru hw fun _ _ _ _ _ h=>le_int h
 | gt=>exact ord_ok rv ru hw fun _ _ _ _ _ h=>gt_int h
 | ge=>exact ord_ok rv ru hw fun _ _ _ _ _ h=>ge_int h
 | is=>obtain ⟨e,hq⟩:=onN_inv hw; rw [e] at ru; rw [ru.none_inv]; exact ⟨_,hq,fun Qc h=>is_none (by rw [isN_val rv]; exact h)⟩
 | isn=>obtain ⟨e,hq⟩:=onN_inv hw; rw [e] at ru; rw [ru.none_inv]; exact ⟨_,hq,fun Qc h=>isNot_none (by rw [isN_val rv]; exact h)⟩
 | inn=>obtain ⟨b,hq,h,_⟩:=in_ok (K:=fun b=>Q (.bool b) z.σ) rm R rv ru hw; exact ⟨b,hq,h⟩
 | nin=>obtain ⟨b,hq,_,h⟩:=in_ok (K:=fun b=>Q (.bool (!b)) z.σ) rm R rv ru hw; exact ⟨_,hq,h⟩
end
end
section
section
variable {X:Cx} {k:Nat} {A:Around} {c:TC} {env:Env} {fr:Fr} {z z':Z} {s₀:Shared} {Q:Po} {Qc:Value→Shared→Prop} {v u:NV} {x y:Value} {q:Pos}
theorem ifT_inv {a b:Prop} {w:World} {κ:Ka} (r:VR w κ v x) (h:ifT a b v):∃ t:Bool,cond t a b∧∀ (P:Program) (Qc:Bool→Shared→Prop) (s:Shared),Qc t s→wpAny (model P w) A (truthy x) Qc Ef s:=by
 cases r with
 | none=>exact ⟨false,h,fun P Qc s hq=>fun _ _ _=>hq⟩
 | bool t=>exact ⟨t,by induction t using Bool.casesOn <;> exact h,fun P Qc s hq=>wpAny_truthy_bool hq⟩
 | _=>exact h.elim
theorem st_value {e:PySem.Expr} {m:E} (h:SE X k c e m) (he:∀ env whole,isTrue e env whole=(do let v ← whole; standAt e.pos; holding [v] (truthy v))):STr X k c e m:=fun _ _ _ _ _ _ _ _ S hw hk=>
 wpAny_isTrue_value (h S hw fun _ _ _ hq t r=>let ⟨b,h1,h2⟩:=ifT_inv r hq; h2 _ _ _ (hk b _ h1 t)) (he _ _)
theorem se_cp {o:COp} {a b:PySem.Expr} {ma mb:E} (hm:behindInMarks (copB o) b=false) (ha:SE X k c a ma) (hb:SE X k c b mb):SE X k c (.Compare a [copB o] [b] q) (.cp o ma mb):=fun _ _ _ _ _ _ _ S hw hk=>
 wpAny_Compare1 (ha S hw fun _ _ _ hw t r=>hb (S.go t) hw fun _ _ _ hw t₂ r₂=>let ⟨b,h1,h2⟩:=cmp_ok S.rm t₂.R (r.go t₂) r₂ hw; h2 _ (hk _ _ _ h1 (t.trans t₂) (.bool b))) hm
theorem st_cp' {o:COp} {a b:PySem.Expr} {ma mb:E} (hm:behindInMarks (copB o) b=false) (ha:SE X k c a ma) (hb:SE X k c b mb) {Qc:Bool→Shared→Prop} (S:St X k A c env fr z) (hw:wE X.T (callN X.T k) (.cp o ma mb) fr Q z.σ) (hk:∀ b z',Q (.bool b) z'.σ→Tr X X0 z z'→Qc b (z'.s s₀)) :
  wpAny (model p X.w) A (isTrue (.Compare a [copB o] [b] q) env (eval (.Compare a [copB o] [b] q) env)) Qc Ef (z.s s₀):=
 wpAny_isTrue_Compare1 (ha S hw fun _ _ _ hw t r=>hb (S.go t) hw fun _ _ _ hw t₂ r₂=>let ⟨b,h1,h2⟩:=cmp_ok S.rm t₂.R (r.go t₂) r₂ hw; h2 _ (wpAny_truthy_bool (hk b _ h1 (t.trans t₂)))) hm
theorem ifT_b {a b:Prop} {t:Bool} (h:ifT a b (.bool t)):cond t a b:=by induction t using Bool.casesOn <;> exact h
theorem st_cp {o:COp} {a b:PySem.Expr} {ma mb:E} (hm:behindInMarks (copB o) b=false) (ha:SE X k c a ma) (hb:SE X k c b mb):STr X k c (.Compare a [copB o] [b] q) (.cp o ma mb):=fun _ _ _ _ _ _ _ _ S hw hk=>
 st_cp' hm ha hb S hw fun b z' hq t=>hk b z' (ifT_b hq) t
theorem se_ng {a:PySem.Expr} {m:E} (h:STr X k c a m) (h':SE X k c a m):SE X k c (.UnaryOp .Not a q) (.ng m)∧STr X k c (.UnaryOp .Not a q) (.ng m):=
 ⟨fun _ _ _ _ _ _ _ S hw hk=>wpAny_UnaryOp (h' S hw fun _ _ _ hq t r=>not_value (let ⟨b,h1,h2⟩:=ifT_inv r hq; h2 _ _ _ (hk _ _ _ (by induction b using Bool.casesOn <;> exact h1) t (.bool _)))),
  fun _ _ _ _ _ _ _ _ S hw hk=>wpAny_isTrue_Not (h (P1:=_) (P0:=_) S hw fun b z' hq t=>hk _ z' (by induction b using Bool.casesOn <;> exact ifT_b hq) t)⟩
theorem se_ie {t a b:PySem.Expr} {mt ma mb:E} (ht:STr X k c t mt) (ha:SE X k c a ma) (hb:SE X k c b mb):SE X k c (.IfExp t a b q) (.ie mt ma mb):=fun _ _ _ _ _ _ _ S hw hk=>
 wpAny_IfExp (ht S hw fun b z' hq t=>by
  induction b using Bool.casesOn with
  | true=>exact ha (S.go t) hq (hk.step t)
  | false=>exact hb (S.go t) hq (hk.step t))
theorem st_ie {t a b:PySem.Expr} {mt ma mb:E} (ht:STr X k c t mt) (ha:STr X k c a ma) (hb:STr X k c b mb):STr X k c (.IfExp t a b q) (.ie mt ma mb):=fun _ _ _ _ _ _ _ _ S hw hk=>by
 rw [arm_isTrue_IfExp]
 exact wpAny_bind (ht S hw fun b z' hq t=>by
  induction b using Bool.casesOn with
  | true=>exact ha (S.go t) hq (hk.step t)
  | false=>exact hb (S.go t) hq (hk.step t))
theorem se_ch {o1 o2:COp} {a b d:PySem.Expr} {ma mb md:E} (hm:lastMarks [copB o1,copB o2] [b,d]=false) (ha:SE X k c a ma) (hb:SE X k c b mb) (hd:SE X k c d md) :
  SE X k c (.Compare a [copB o1,copB o2] [b,d] q) (.ch ma o1 mb o2 md)∧STr X k c (.Compare a [copB o1,copB o2] [b,d] q) (.ch ma o1 mb o2 md):=by
 refine ⟨fun _ _ _ _ _ _ _ S hw hk=>Compare_chain (ha S hw fun _ _ _ hw t r=>chain_link (hb (S.go t) hw fun _ _ _ hw t₂ r₂=>?_)) hm,fun _ _ _ _ _ _ _ _ S hw hk=>isTrue_chain (ha S hw fun _ _ _ hw t r=>test_link (hb (S.go t) hw fun _ _ _ hw t₂ r₂=>?_)) hm⟩
 ·obtain ⟨b,h1,h2⟩:=cmp_ok S.rm t₂.R (r.go t₂) r₂ hw
  refine h2 _ (wpAny_truthy_bool ?_)
  have h1:=ifT_b h1
  have t₃:=t.trans t₂
  induction b using Bool.casesOn with
  | false=>exact hk _ _ _ h1 t₃ (.bool _)
  | true=>exact chain_last (hd (S.go t₃) h1 fun _ _ _ hw t₄ r₄=>let ⟨b,h1,h2⟩:=cmp_ok S.rm t₄.R (r₂.go t₄) r₄ hw; h2 _ (hk _ _ _ h1 (t₃.trans t₄) (.bool b)))
 ·obtain ⟨b,h1,h2⟩:=cmp_ok S.rm t₂.R (r.go t₂) r₂ hw
  refine h2 _ (wpAny_truthy_bool ?_)
  have h1:=ifT_b h1
  have t₃:=t.trans t₂
  induction b using Bool.casesOn with
  | false=>exact hk _ _ h1 t₃
  | true=>exact test_last (hd (S.go t₃) h1 fun _ _ _ hw t₄ r₄=>let ⟨b,h1,h2⟩:=cmp_ok S.rm t₄.R (r₂.go t₄) r₄ hw; h2 _ (wpAny_truthy_bool (hk b _ (ifT_b h1) (t₃.trans t₄))))
noncomputable def bop:Bool→PySem.BoolOp
 | true=>.And
 | false=>.Or
noncomputable abbrev BE (X:Cx) (k:Nat) (c:TC) (o:Bool) (es:List PySem.Expr) (m:E):Prop:=
 ∀ ⦃A:Around⦄ ⦃env:Env⦄ ⦃fr:Fr⦄ ⦃Q:Po⦄ ⦃Qc:Value→Shared→Prop⦄ ⦃z:Z⦄ ⦃s₀:Shared⦄,St X k A c env fr z→wE X.T (callN X.T k) m fr Q z.σ→Post X Q z s₀ Qc→∀ q,wpAny (model p X.w) A (boolOp q (bop o) (evalEach es env)) Qc Ef (z.s s₀)
noncomputable abbrev BT (X:Cx) (k:Nat) (c:TC) (o:Bool) (es:List PySem.Expr) (m:E):Prop:=
 ∀ ⦃A:Around⦄ ⦃env:Env⦄ ⦃fr:Fr⦄ ⦃P1 P0:NH→Prop⦄ ⦃Qc:Bool→Shared→Prop⦄ ⦃z:Z⦄ ⦃s₀:Shared⦄,St X k A c env fr z→wE X.T (callN X.T k) m fr (fun v σ=>ifT (P1 σ) (P0 σ) v) z.σ→PostT X P1 P0 z s₀ Qc→wpAny (model p X.w) A (allTrue (bop o) es env) Qc Ef (z.s s₀)
theorem be_one {o:Bool} {e:PySem.Expr} {m:E} (h:SE X k c e m):BE X k c o [e] m:=fun _ _ _ _ _ _ _ S hw hk q=>by
 induction o using Bool.casesOn <;> exact h S hw hk
theorem bt_one {o:Bool} {e:PySem.Expr} {m:E} (h:STr X k c e m):BT X k c o [e] m:=fun _ _ _ _ _ _ _ _ S hw hk=>by
 rw [arm_allTrue_cons]
 refine wpAny_bind (h S hw fun b z' hq t=>?_)
 have:=hk b z' hq t
 induction o using Bool.casesOn <;> induction b using Bool.casesOn <;> exact wpAny_pure this
set_option backward.match.sparseCases true in
theorem be_cons {o m':Bool} {e:PySem.Expr} {es:List PySem.Expr} {ma mb:E} (ha:SE X k c e ma) (hb:BE X k c o es mb) (ne:es≠[]):BE X k c o (e :: es) (.bo o m' ma mb):=fun A env fr Q Qc z s₀ S hw hk q=>by
 induction es using List.casesOn with
 | nil=>exact absurd rfl ne
 | cons e' es=>
  show wpAny (model p X.w) A (do
    let v ← eval e env
    standAt q
    let t ← holding [v] (truthy v)
    match bop o,t with
    | .And,false | .Or,true=>pure v
    | _,_=>boolOp q (bop o) (evalEach (e' :: es) env)) Qc Ef (z.s s₀)
  refine wpAny_bind (ha S hw fun v x z₁ hw t r=>?_)
  have fin:Q v z₁.σ→wpAny (model p X.w) A (pure x) Qc Ef (z₁.s s₀):=fun hq=>wpAny_pure (hk v x z₁ hq t r)
  have go:wE X.T (callN X.T k) mb fr Q z₁.σ→wpAny (model p X.w) A (boolOp q (bop o) (evalEach (e' :: es) env)) Qc Ef (z₁.s s₀):=fun hw=>hb (S.go t) hw (hk.step t) q
  induction o using Bool.casesOn with
  | true=>
   obtain ⟨b,h1,h2⟩:=ifT_inv (A:=A) r hw
   refine wpAny_bind (wpAny_standAt (wpAny_bind (wpAny_holding (h2 _ _ _ ?_))))
   cases b
   ·exact fin h1
   ·exact go h1
  | false=>
   obtain ⟨b,h1,h2⟩:=ifT_inv (A:=A) r hw
   refine wpAny_bind (wpAny_standAt (wpAny_bind (wpAny_holding (h2 _ _ _ ?_))))
   cases b
   ·exact go h1
   ·exact fin h1
theorem ifT_and {a p q:Prop} {v:NV}:ifT a (ifT p q v) v=ifT a q v:=by
 induction v using NV.casesOn with
 | bool b=>induction b using Bool.casesOn <;> rfl
 | _=>rfl
theorem ifT_or {a p q:Prop} {v:NV}:ifT (ifT p q v) a v=ifT p a v:=by
 induction v using NV.casesOn with
 | bool b=>induction b using Bool.casesOn <;> rfl
 | _=>rfl
theorem bt_cons {o m':Bool} {e:PySem.Expr} {es:List PySem.Expr} {ma mb:E} (ha:STr X k c e ma) (hb:BT X k c o es mb):BT X k c o (e :: es) (.bo o m' ma mb):=fun A env fr P1 P0 Qc z s₀ S hw hk=>by
 rw [arm_allTrue_cons]
 induction o using Bool.casesOn with
 | true=>
  have hw:wE X.T (callN X.T k) ma fr (fun v σ=>ifT (wE X.T (callN X.T k) mb fr (fun v σ=>ifT (P1 σ) (P0 σ) v) σ) (ifT (P1 σ) (P0 σ) v) v) z.σ:=hw
  simp only [ifT_and] at hw
  refine wpAny_bind (ha S hw fun b z' hq t=>?_)
  cases b with
  | false=>exact wpAny_pure (hk false z' hq t)
  | true=>exact hb (S.go t) hq (hk.step t)
 | false=>
  have hw:wE X.T (callN X.T k) ma fr (fun v σ=>ifT (ifT (P1 σ) (P0 σ) v) (wE X.T (callN X.T k) mb fr (fun v σ=>ifT (P1 σ) (P0 σ) v) σ) v) z.σ:=hw
  simp only [ifT_or] at hw
  refine wpAny_bind (ha S hw fun b z' hq t=>?_)
  cases b with
  | true=>exact wpAny_pure (hk true z' hq t)
  | false=>exact hb (S.go t) hq (hk.step t)
end
end
section
section
variable {X:Cx} {k:Nat} {A:Around} {c:TC} {env:Env} {fr:Fr} {z z':Z} {s₀:Shared} {Q:Po} {Qc:Value→Shared→Prop} {v u:NV} {x y:Value} {q pos:Pos}
theorem pushF (R:Rel X.w X.h₀ z) (o:Obj) {t:Nat} (nf:o.isFreed=false:=by rfl):Tr X X0 z ⟨z.h.push o,t,z.σ,kset z.κ z.h.objs.size (.fz o)⟩:=by
 have t₁:Tr X X0 z ⟨z.h.push o,t,z.σ,z.κ⟩:=.grow R fun b o q=>Heap.get?_push_of_some _ q
 have z0:=t₁.R.tagF (a:=z.h.objs.size) (t:=t) (R.noOf (size_none _)) (Heap.get?_push_size _ nf)
 exact ((t₁.up (P:=fun b=>b=z.h.objs.size)).trans (Tr.tag z0.1 z0.2 fun b nb q=>(kset_ne nb).trans q)).fresh fun b q=>by rw [q]; exact size_none _
theorem noStar {e:PySem.Expr} (h:good e=true):∀ rest env,starEach (e :: rest) env=(false,eval e env) :: starEach rest env:=fun rest env=>by
 cases e <;> first | rfl | cases h
inductive Each (X:Cx) (k:Nat) (c:TC):List PySem.Expr→E→Prop
 | nil:Each X k c [] .e0
 | cons {e:PySem.Expr} {m:E} {r:List PySem.Expr} {ms:E}:good e=true→SE X k c e m→Each X k c r ms→Each X k c (e :: r) (.ec m ms)
theorem each_go {es:List PySem.Expr} {ms:E} (H:Each X k c es ms):∀ {Q:Po} {Qc:List Value→Shared→Prop} {z:Z} {s₀:Shared},St X k A c env fr z→wE X.T (callN X.T k) ms fr Q z.σ →
  (∀ vs us z',Q (.tup vs) z'.σ→us.length=es.length→Tr X X0 z z'→VRs X.w z'.κ vs us→Qc us (z'.s s₀))→wpAny (model p X.w) A (spliced (backTo pos (starEach es env))) Qc Ef (z.s s₀):=by
 induction H with
 | nil=>exact fun S hw hk=>wpAny_items_nil (hk [] [] _ hw rfl (.refl S.R) .nil)
 | cons h1 h2 _ ih=>
  exact fun S hw hk=>wpAny_items_cons (h2 S hw fun v x z₁ hw t r=>ih (S.go t) hw fun vs us z₂ hq hl t₂ rs=>hk (v :: vs) (x :: us) z₂ hq (congrArg (·+1) hl) (t.trans t₂) (.cons (r.go t₂) rs)) (noStar h1 _ _)
theorem se_tp {es:List PySem.Expr} {ms:E} {n:Nat} (hl:es.length≤1000) (H:Each X k c es ms):SE X k c (.Tuple es n q) (.tp ms):=fun _ _ _ _ _ _ _ S hw hk=>by
 refine wpAny_Tuple (each_go H S hw fun vs us z' hq hle t rs=>⟨by rw [hle]; exact Nat.le_trans hl (by decide),?_⟩)
 have t₁:=pushF t.R (tuO us 0) (t:=z'.t)
 exact hk _ _ ⟨_,_,_,_⟩ hq (t.trans t₁) (.tup kset_self (rs.go t₁))
theorem se_ls {p':Pol} {es:List PySem.Expr} {ms:E} (hl:es.length≤1000) (H:Each X k c es ms):SE X k c (.List es q) (.ls p' ms):=fun _ _ _ _ _ _ _ S hw hk=>
 wpAny_List (each_go H S hw fun vs us z' hq hle t rs=>⟨by rw [hle]; exact Nat.le_trans hl (by decide),push_ok t.R rs (by rw [rs.length,hle]; exact Nat.le_trans hl (by decide)) hq (hk.step t)⟩)
theorem pairs_go {vs:List PySem.Expr} {ms:E} (H:Each X k c vs ms):∀ (ks:List Nat) (l:List PySem.Expr),ks.length=vs.length→l.length=ks.length →
  ∃ pairs:List (Sem Value × Sem Value),(evalEachOpt (kys ks l) env).zip ((evalEach vs env).map fun v=>do let x ← v; standAt pos; pure x)=pairs.map (fun p=>(some p.1,p.2))∧pairs.length=ks.length ∧
  ∀ {Q:Po} {Qc:List (Value × Value)→Shared→Prop} {z:Z} {s₀:Shared},St X k A c env fr z→wE X.T (callN X.T k) ms fr Q z.σ →
  (∀ as us kvs z',Q (.tup as) z'.σ→Carries (PySem.strKind p X.w) us kvs→kvs.map (·.1)=ks.map tb→VRs X.w z'.κ as (kvs.map (·.2))→Tr X X0 z z'→Qc us (z'.s s₀))→wpAny (model p X.w) A (evalPairs pairs) Qc Ef (z.s s₀):=by
 induction H with
 | nil=>
  intro ks l e1 e2
  induction ks using List.casesOn with
  | cons _ _=>cases e1
  | nil=>exact ⟨[],rfl,rfl,fun S hw hk=>evalPairs_nil (hk [] [] [] _ hw trivial rfl .nil (.refl S.R))⟩
 | @cons e m r ms h1 h2 _ ih=>
  intro ks l e1 e2
  induction ks using List.casesOn with
  | nil=>cases e1
  | cons n ks=>
   induction l using List.casesOn with
   | nil=>cases e2
   | cons k' l=>
    obtain ⟨pairs,p1,p2,go⟩:=ih ks l (Nat.succ.inj e1) (Nat.succ.inj e2)
    refine ⟨(eval (.Constant (.str (tb n)) (nk k') k'.pos) env,do let x ← eval e env; standAt pos; pure x) :: pairs,?_,congrArg (·+1) p2,fun {Q Qc z s₀} S hw hk=>evalPairs_cons (wpAny_Constant_str ?_)⟩
    ·rw [arm_evalEach_cons,List.map_cons]
     show (some _,_) :: (evalEachOpt (kys ks l) env).zip _=_
     rw [p1]; rfl
    ·have t₀:Tr X X0 z ⟨z.h,z.t+1,z.σ,z.κ⟩:=.grow S.R fun _ _ h=>h
     refine wpAny_bind (h2 (S.go t₀) hw fun v x z₁ hw t r=>wpAny_bind (wpAny_standAt (wpAny_pure ?_)))
     exact go (S.go (t₀.trans t)) hw fun as us kvs z₂ hq cr ek rs t₂=>hk (v :: as) _ ((tb n,x) :: kvs) z₂ hq ⟨by simp [PySem.strKind,Value.isStrOf],rfl,cr⟩ (by rw [List.map_cons,List.map_cons,ek]) (.cons (r.go t₂) rs) ((t₀.trans t).trans t₂)
theorem dict_ok {p':Pol} {ks:List Nat} {l:List NV} {kvs:List (Str × Value)} {D:Addr} (R:Rel X.w X.h₀ z) (n:z.κ D=.no) (e:z.h.DictOf (PySem.strKind p X.w) D kvs) (ek:kvs.map (·.1)=ks.map tb) (kr:∀ k∈ks,k < tab.length) (r:VRs X.w z.κ l (kvs.map (·.2))) (sz:kvs.length≤15)
  (he:ks=[]→z.h.DictOf (intKind p X.w) D []) (hw:dictK p' ks l Q z.σ):∃ v σ' κ',Q v σ'∧Tr X (fun b=>b=D) z ⟨z.h,z.t,σ',κ'⟩∧VR X.w κ' v (.ref D):=by
 obtain ⟨o,es,ep,ho,rest⟩:=id e
 have e':(z.h.get? D).isSome=true:=by rw [ho]; rfl
 induction p' using Pol.casesOn with
 | f=>
  have z0:=R.tagF (t:=z.t) n ho
  exact ⟨_,_,_,hw,Tr.tag z0.1 z0.2 fun b nb q=>(kset_ne nb).trans q,.fd kset_self ⟨es,ep,rest⟩ ek kr (r.mono z0.2)⟩
 | r=>
  have key:∀ ob,OR X.w (kob z.κ D D (.r z.σ.next)) z.h D (.r z.σ.next) ob→Tr X (fun b=>b=D) z ⟨z.h,z.t,z.σ.push ob,kob z.κ D D (.r z.σ.next)⟩:=fun ob q=>slot_ok R n n e' e' (at_push (o:=ob)).2.1 (fun _ h=>nomatch h) at_push.1 at_push.2.2 (.inl rfl) q fun b h=>h.elim id id
  induction ks using List.casesOn with
  | nil=>exact ⟨_,_,_,hw,key _ ⟨[],he rfl,rfl,.nil,Nat.zero_le _⟩,.dct (if_pos rfl)⟩
  | cons n' ks=>exact ⟨_,_,_,hw,key _ ⟨kvs,e,ek,kr,r.mono (kob_le n n),Nat.le_trans sz (by decide)⟩,.dct (if_pos rfl)⟩
 | d=>exact hw.elim
theorem se_dc {p':Pol} {ks:List Nat} {l:List PySem.Expr} {vs:List PySem.Expr} {ms:E} (h1:ks.length=vs.length) (h2:l.length=ks.length) (h15:ks.length≤15) (hn:(ks.map tb).Nodup) (kr:∀ k∈ks,k < tab.length) (H:Each X k c vs ms) :
  SE X k c (.Dict (kys ks l) vs q) (.dc p' ks ms):=fun A env fr Q Qc z s₀ S hw hk=>by
 have e0:=size_none z.h
 have t₀:Tr X X0 z ⟨z.h.push { cls:=.type "dict",data:=.dict #[] },z.t,z.σ,z.κ⟩:=.grow S.R fun b o q=>Heap.get?_push_of_some _ q
 have n0:z.κ z.h.objs.size=.no:=S.R.noOf e0
 have fin:∀ z₁:Z,Tr X X0 ⟨z.h.push { cls:=.type "dict",data:=.dict #[] },z.t,z.σ,z.κ⟩ z₁→∀ h' t',Heap.SameBut z.h.objs.size z₁.h h'→∀ l kvs,dictK p' ks l Q z₁.σ→h'.DictOf (PySem.strKind p X.w) z.h.objs.size kvs→kvs.map (·.1)=ks.map tb→VRs X.w z₁.κ l (kvs.map (·.2))→(ks=[]→h'.DictOf (intKind p X.w) z.h.objs.size [])→Qc (.ref z.h.objs.size) ⟨h',s₀.gens,s₀.drawn,t',s₀.os⟩:=fun z₁ t₁ h' t' sb l kvs hw d ek rs he=>by
  have n1:=t₁.g.no z.h.objs.size _ n0 (Heap.get?_push_size _ rfl) id
  have z0:=t₁.R.apart (X:=fun b=>b=z.h.objs.size) (h':=h') (t:=t') (fun b q=>q▸n1.1) fun b nb o q=>(sb.2 b nb).trans q
  have sz:kvs.length≤15:=by have:=congrArg List.length ek; rw [List.length_map,List.length_map] at this; lia
  obtain ⟨v,σ',κ',hq,t₃,r⟩:=dict_ok (z:=⟨h',t',z₁.σ,z₁.κ⟩) z0.1 n1.1 d ek kr rs sz he hw
  exact hk v _ _ hq ((((t₀.trans t₁).up (P:=fun b=>b=z.h.objs.size)).trans (Tr.trans ⟨z0.1,z0.2⟩ t₃)).fresh fun b q=>by rw [q]; exact e0) r
 by_cases hz:ks=[]
 ·subst hz
  have:vs=[]:=by cases vs with | nil=>rfl | cons _ _=>cases h1
  subst this
  cases H
  exact wpAny_Dict_empty (fin _ (.refl t₀.R) _ _ (Heap.SameBut.refl ..) [] [] hw (Heap.DictOf.new _) rfl .nil fun _=>Heap.DictOf.new _)
 ·obtain ⟨pairs,e1,e2,go⟩:=pairs_go (A:=A) (env:=env) (fr:=fr) (pos:=q) H ks l h1 h2
  refine wpAny_Dict_pairs (knd:=PySem.strKind p X.w) e1 (fun z=>hz (List.eq_nil_of_length_eq_zero (by rw [← e2,z]; rfl))) (by rw [e2]; exact h15) ?_
  refine go (S.go t₀) hw fun as us kvs z₁ hq cr ek rs t₁=>?_
  have d1:=(t₁.g.no z.h.objs.size _ n0 (Heap.get?_push_size _ rfl) id).2
  refine ⟨kvs,cr,⟨_,#[],0,d1,⟨rfl,rfl,rfl⟩,rfl,fun _ he=>by simp at he,Pairs.nil,List.nodup_nil⟩,fun h' hd' sb=>?_⟩
  rw [merged_nil_of_nodup kvs (by rw [ek]; exact hn)] at hd'
  exact fin z₁ t₁ h' _ sb as kvs hq hd' ek rs fun h=>absurd h hz
end
structure ClsK (T:Tx) (K:Frag) (cc:Addr):Prop where
 get:findIn K (.ref cc) "__getattribute__" = some (some (.builtin "object.__getattribute__"))
 nog:findIn K (.ref cc) "__getattr__" = some none
 hasd:hasDictIn K cc=true
 set:findIn K (.ref cc) "__setattr__" = some (some (.builtin "object.__setattr__"))
 over:plainOver K cc=true
 makes:makesIn K cc=true
 call:keepIn K (.ref cc)=true
 init:∀ i,T.mth cc 90=some i→findIn K (.ref cc) "__init__" = some (some (.ref i))∧isFn K (.ref i)=true∧i < 2000
 fld:∀ f < 90,T.mth cc f=none→findIn K (.ref cc) (aS f)=some none
 mth:∀ f < 90,∀ i,T.mth cc f=some i→findIn K (.ref cc) (aS f)=some (some (.ref i))∧isFn K (.ref i)=true∧fnIn K i=true∧specialIn K (.ref i) "__get__" = some (some (.builtin "function.__get__"))∧takesIn K (.ref i)=some false∧copiedNames.contains (aS f)=false∧i < 2000
theorem ClsK.of {T:Tx} {K:Frag} {cc:Addr} (h:clsOk K T cc=true):ClsK T K cc:=by
 unfold clsOk at h
 simp only [Bool.and_eq_true,beq_iff_eq,List.all_eq_true,List.mem_range] at h
 obtain ⟨⟨⟨⟨⟨⟨⟨⟨a,b⟩,d⟩,e⟩,f⟩,g⟩,i⟩,j⟩,l⟩:=h
 refine ⟨a,b,d,e,f,g,i,fun x hx=>?_,fun x hx q=>?_,fun x hx y q=>?_⟩
 ·replace j:=hx▸j
  simp only [Bool.and_eq_true,beq_iff_eq,decide_eq_true_eq] at j
  exact ⟨j.1.1,j.1.2,j.2⟩
 ·have:=l x hx
  unfold attrOk at this
  replace this:=q▸this
  exact beq_iff_eq.mp this
 ·have:=l x hx
  unfold attrOk at this
  rw [q] at this
  simp only [Bool.and_eq_true,beq_iff_eq,Bool.not_eq_true',decide_eq_true_eq] at this
  exact ⟨this.1.1.1.1.1.1,this.1.1.1.1.1.2,this.1.1.1.1.2,this.1.1.1.2,this.1.1.2,this.1.2,this.2⟩
set_option tactic.hygienic true in
theorem base_of {o:PySem.Expr} (h:okBase o=true) (a:Str) (env:Env) (t:Sem Value):attributeBase o a env t=t:=by
 cases o <;> try rfl
 rename_i f as kw q
 cases f <;> try rfl
 induction as using List.casesOn <;> try rfl
 induction kw using List.casesOn <;> first | rfl | (cases h)
theorem aS_all:((List.range 90).all fun n=>(List.range 90).all fun m=>(aS n==aS m)==Nat.beq n m)=true:=by decide+kernel
theorem aS_inj {f g:Nat} (hf:f < 90) (hg:g < 90):(aS f==aS g)=Nat.beq f g:=
 eq_of_beq (List.all_eq_true.mp (List.all_eq_true.mp aS_all f (List.mem_range.mpr hf)) g (List.mem_range.mpr hg))
section
variable {w:World} {κ:Ka} {ks:List Nat} {l:List NV} {es:List DictEntry}
theorem getL_cons {e:DictEntry} {x s:Str} {t:Tok} (h:e.key=.str s t):PySem.W.getL x (e :: es)=(match s==x with
  | true=>some (some e.val)
  | false=>PySem.W.getL x es):=by
 unfold PySem.W.getL
 rw [List.find?_cons,List.any_cons]
 have h1:e.key.isStr x=(s==x):=by rw [h]; rfl
 have h2:e.refKey=false:=by unfold DictEntry.refKey; rw [h]
 rw [h1,h2,Bool.false_or]
 cases s==x <;> rfl
theorem fld_at {Y:NV→Prop} {N:Prop} {f:Nat} (hf:f < 90) (r:VFs w κ ks l es) (h:fldK Y N f ks l):(∃ v u,Y v∧VR w κ v u∧PySem.W.getL (aS f) es=some (some u))∨(N∧PySem.W.getL (aS f) es=some none):=by
 induction es generalizing ks l with
 | nil=>cases r; exact .inr ⟨h,rfl⟩
 | cons e es ih=>
  cases r with
  | @cons k x _ ks l _ t hk hl a b=>
   rw [getL_cons hk,aS_inj (Nat.lt_trans hl (by decide)) hf]
   have h:(match Nat.beq k f with | true=>Y x | false=>fldK Y N f ks l):=h
   cases q:Nat.beq k f with
   | true=>rw [q] at h; exact .inl ⟨x,_,h,a,rfl⟩
   | false=>rw [q] at h; exact ih b h
theorem fput_at {v:NV} {u:Value} {f:Nat} {hs:Int} {t:Tok} (hf:f < 36) (rv:VR w κ v u) (r:VFs w κ ks l es):∀ {K:List Nat→List NV→Prop},fput f v K ks l→∃ ks' l',K ks' l'∧VFs w κ ks' l' (putL (aS f) hs (.str (aS f) t) u es)∧(ks'=ks∨f ∉ ks∧ks'=ks++[f]):=by
 induction r with
 | nil=>exact fun h=>⟨[f],[v],h,.cons t rfl hf rv .nil,.inr ⟨by simp,rfl⟩⟩
 | @cons k x e ks l es t' hk hl a b ih=>
  intro K h
  have h:(match Nat.beq k f with | true=>K (k :: ks) (v :: l) | false=>fput f v (fun ks' l'=>K (k :: ks') (x :: l')) ks l):=h
  have q2:e.key.isStr (aS f)=Nat.beq k f:=by rw [hk]; exact aS_inj (Nat.lt_trans hl (by decide)) (Nat.lt_trans hf (by decide))
  unfold putL
  rw [q2]
  cases q:Nat.beq k f with
  | true=>rw [q] at h; exact ⟨_,_,h,.cons t' hk hl rv b,.inl rfl⟩
  | false=>
   rw [q] at h
   obtain ⟨ks',l',h1,h2,h3⟩:=ih h
   refine ⟨_,_,h1,.cons t' hk hl a h2,h3.imp (fun e=>by rw [e]) fun ⟨n,e⟩=>⟨fun m=>?_,by rw [e]; rfl⟩⟩
   rcases List.mem_cons.mp m with m | m
   ·rw [m,Nat.beq_refl] at q; exact nomatch q
   ·exact n m
theorem nodup_lt:∀ (n:Nat) (l:List Nat),l.Nodup→(∀ a∈l,a < n)→l.length≤n
 | 0,[],_,_=>Nat.le_refl 0
 | 0,a :: _,_,h=>absurd (h a List.mem_cons_self) (Nat.not_lt_zero a)
 | n+1,l,nd,h=>by
  have:=nodup_lt n (l.erase n) (nd.erase n) fun a ha=>by
   obtain ⟨h1,h2⟩:=nd.mem_erase_iff.mp ha
   have:=h a h2; lia
  rw [List.length_erase] at this
  split at this <;> lia
theorem AllF.lt (r:VFs w κ ks l es):(∀ a∈ks,a < 36)∧ks.length=es.length∧∀ e∈es,e.refKey=false:=by
 induction r with
 | nil=>exact ⟨(fun _ h=>nomatch h),rfl,(fun _ h=>nomatch h)⟩
 | cons t hk hl a b ih=>exact ⟨fun x h=>(List.mem_cons.mp h).elim (fun e=>e▸hl) (ih.1 x),congrArg (·+1) ih.2.1,fun e h=>(List.mem_cons.mp h).elim (fun q=>by rw [q]; unfold DictEntry.refKey; rw [hk]) (ih.2.2 e)⟩
theorem VR.handed {v:NV} {x:Value} (r:VR w κ v x):handedIn x=true:=by cases r <;> rfl
end
theorem fOk_lt {c f:Nat} (h:fOk c f=true):f < 36:=by
 unfold fOk at h
 cases q:Nat.ble f 35 with
 | true=>exact Nat.lt_succ_of_le (Nat.le_of_ble_eq_true q)
 | false=>rw [q] at h; cases h
section
variable {X:Cx} {k:Nat} {A:Around} {c:TC} {env:Env} {fr:Fr} {z z':Z} {s₀:Shared} {Q:Po} {Qc:Value→Shared→Prop} {v u:NV} {x y:Value} {q pos:Pos}
theorem kin (R:Rel X.w X.h₀ z):X.K.In z.h:=X.kin.keeps R.keep0
theorem attr_get {a d cc:Addr} {es:List DictEntry} {m:Nat} {f:Nat} {s:Shared} {ex:Bool} (hl:f < 90) (R:Rel X.w X.h₀ z) (es0:s.heap=z.h) (ok:okc cc=true) (g:z.h.get? a=some (inO cc d)) (g2:z.h.get? d=some (diO es m)) (hm:X.T.mth cc f=none) (hf:PySem.W.getL (aS f) es=some (some y)) (hy:handedIn y=true)
  (h:Qc y { s with toks:=s.toks+1 }):wpAny (model p X.w) A (getAttr (.ref a) (aS f) ex) Qc Ef s:=by
 have C:=ClsK.of (X.kok cc ok)
 have I:InstAt s.heap a (inO cc d) cc (some (dictOf es m)):=⟨es0▸g,rfl,rfl,es0▸g2⟩
 exact get_value (es0▸kin R) I C.get (findObj_own C.hasd (C.fld f hl hm) rfl hf) hy h
theorem se_ar {o:PySem.Expr} {m:E} {f:Nat} (hb:okBase o=true) (ho:SE X k c o m):SE X k c (.Attribute o (aS f) q) (.ar m f):=fun _ _ _ _ _ _ _ S hw hk=>by
 refine Attribute_any_ (ho S hw fun v x z₁ hw t r=>?_) (by rw [arm_eval_Attribute,base_of hb])
 refine getI_C hw fun {cc ks l} I hw=>?_
 obtain ⟨ho,hw⟩:=bK_inv hw
 refine I.atC (C:=fun x=>wpAny (model p X.w) _ (getAttr x (aS f) true) _ Ef (z₁.s _)) t.R r fun {a d es n} ok g g2 rs hs r=>?_
 have hl:f < 90:=Nat.lt_trans (fOk_lt ho) (by decide)
 rcases fld_at hl rs hw with ⟨v',y,hq,r',e⟩ | ⟨f,_⟩
 ·exact attr_get hl t.R rfl ok g g2 (X.fok _ _ ho) e r'.handed ((hk.step t).tick t.R hq r')
 ·exact f.elim
theorem se_bm {o:PySem.Expr} {m:E} {f:Nat} (hb:okBase o=true) (hl:f < 90) (ho:SE X k c o m):SE X k c (.Attribute o (aS f) q) (.bm m f):=fun A env fr Q Qc z s₀ S hw hk=>by
 refine Attribute_any_ (ho S hw fun v x z₁ hw t r=>?_) (by rw [arm_eval_Attribute,base_of hb])
 obtain ⟨n,rfl,hw⟩:∃ n,v=.ins n∧getI z₁.σ (fun c ks l=>fldK (fun _=>False) (opK (fun i=>Q (.bnd n i) z₁.σ) (X.T.mth c f)) f ks l) v:=by
  induction v using NV.casesOn with
  | ins n=>exact ⟨n,rfl,hw⟩
  | _=>exact hw.elim
 refine getI_C hw fun {cc ks l} I hw=>?_
 refine I.atC (C:=fun x=>wpAny (model p X.w) _ (getAttr x (aS f) true) _ Ef (z₁.s _)) t.R r fun {a d es m'} ok g g2 rs hs r=>?_
 rcases fld_at hl rs hw with ⟨v',y,hq,r',e⟩ | ⟨hq,e⟩
 ·exact hq.elim
 obtain ⟨i,hm,hq⟩:=opK_inv hq
 have C:=ClsK.of (X.kok cc ok)
 have z0:=C.mth f hl i hm
 have Ia:InstAt z₁.h a (inO cc d) cc (some (dictOf es m')):=⟨g,rfl,rfl,g2⟩
 refine get_bind (s:=z₁.s s₀) (kin t.R) Ia C.get (findObj_fn C.hasd z0.1 z0.2.2.2.1 z0.2.2.2.2.1 z0.2.2.2.2.2.1 e) C.nog ?_
 refine wpAny_call (fn_get (s:=⟨z₁.h,s₀.gens,s₀.drawn,z₁.t+1,s₀.os⟩) (kin t.R) (beq_iff_eq.mp z0.2.1) (handed_on rfl ?_))
 have t₁:=pushF t.R (meO i a) (t:=z₁.t+1)
 exact hk _ _ ⟨_,_,_,_⟩ hq (t.trans t₁) (.bnd z0.2.2.2.2.2.2 kset_self (t₁.g.le.ob _ _ (hs _ rfl).1))
end
end
section
theorem sub_plain {sl:PySem.Expr} (h:good sl=true) (o i:Value):subscripted sl false o i=operate [o,i] (getItem o i):=by
 obtain ⟨⟩:=sl <;> first | rfl | (cases h)
theorem nthK_inv {K:NV→Prop}:∀ {l:List NV} {n:Nat},nthK K l n→∃ x,l[n]?=some x∧K x
 | x :: _,0,h=>⟨x,rfl,h⟩
 | _ :: l,n+1,h=>nthK_inv (l:=l) (n:=n) h
section
variable {X:Cx} {k:Nat} {A:Around} {c:TC} {env:Env} {fr:Fr} {z z':Z} {s₀:Shared} {Q:Po} {Qc:Value→Shared→Prop} {v u:NV} {x y:Value} {q pos:Pos}
theorem c63:(cap:Int) < 2 ^ 63:=by decide
theorem list_item {s:Shared} {a:Addr} {l:List NV} {us:List Value} {i:Int} {t:Tok} {K:NV→Prop} {w:World} {κ:Ka} (il:s.heap.IsList a us.toArray) (rs:VRs w κ l us) (sz:l.length≤cap) (hw:idxK K l i) (h:∀ x y,K x→VR w κ x y→Qc y s):wpAny (model p w) A (getItem (.ref a) (.int i t)) Qc Ef s:=by
 have len:=rs.length
 have:=c63
 induction i using Int.casesOn with
 | ofNat n=>
  obtain ⟨x,e,hq⟩:=nthK_inv hw
  obtain ⟨y,hy,r⟩:=rs.get n e
  have:=(List.getElem?_eq_some_iff.mp e).1
  exact wpAny_getItem_list il (Int.natCast_nonneg n) (by show (n:Int) < _; lia) (by simpa using hy) (h x y hq r)
 | negSucc n=>
  obtain ⟨e,hw⟩:=bK_inv (show bK (nthK K l (l.length - (n+1))) (Nat.ble (n+1) l.length) from by
   have hw:(match Nat.ble (n+1) l.length with | true=>nthK K l (l.length - (n+1)) | false=>False)=True:=eq_true hw
   cases q:Nat.ble (n+1) l.length with
   | true=>rw [q] at hw; exact of_eq_true hw
   | false=>rw [q] at hw; exact of_eq_true hw)
  have e:=Nat.le_of_ble_eq_true e
  obtain ⟨x,e',hq⟩:=nthK_inv hw
  obtain ⟨y,hy,r⟩:=rs.get _ e'
  have en:Int.negSucc n=-((n:Int)+1):=rfl
  refine wpAny_getItem_list_neg il (Int.negSucc_lt_zero n) (by rw [List.size_toArray,← len,en]; lia) (by rw [en]; lia) ?_ (h x y hq r)
  rw [List.getElem?_toArray,List.size_toArray,← len,en,show (-((n:Int)+1)+(l.length:Int)).toNat=l.length - (n+1) by lia]
  exact hy
theorem tup_item {s:Shared} {a:Addr} {l:List NV} {us:List Value} {m:Nat} {i:Int} {t:Tok} {K:NV→Prop} {w:World} {κ:Ka} (g:s.heap.get? a=some (tuO us m)) (rs:VRs w κ l us) (sz:i.natAbs≤cap) (hw:idxK K l i) (h:∀ x y,K x→VR w κ x y→Qc y s):wpAny (model p w) A (getItem (.ref a) (.int i t)) Qc Ef s:=by
 have il:IsTup s.heap a us.toArray:=⟨_,g,rfl,m,rfl⟩
 have len:=rs.length
 have:=c63
 have key:∀ (n:Nat) x,seqIndex? i l.length=some n→l[n]?=some x→K x→wpAny (model p w) A (getItem (.ref a) (.int i t)) Qc Ef s:=fun n x e1 e hq=>by
  obtain ⟨y,hy,r⟩:=rs.get n e
  exact getItem_tuple il (by lia) (by lia) (by rw [List.size_toArray,← len]; exact e1) (by simpa using hy) (h x y hq r)
 induction i using Int.casesOn with
 | ofNat n=>
  obtain ⟨x,e,hq⟩:=nthK_inv hw
  have lt:=(List.getElem?_eq_some_iff.mp e).1
  refine key n x ?_ e hq
  have h':¬ (n:Int) < 0:=by lia
  rw [show Int.ofNat n=(n:Int) from rfl]
  unfold seqIndex?
  simp only [h',if_false]
  rw [if_pos (by simp; lia)]
  simp
 | negSucc n=>
  cases q:Nat.ble (n+1) l.length with
  | false=>
   have hw:(match Nat.ble (n+1) l.length with | true=>nthK K l (l.length - (n+1)) | false=>False):=hw
   rw [q] at hw; exact hw.elim
  | true=>
   have hw:(match Nat.ble (n+1) l.length with | true=>nthK K l (l.length - (n+1)) | false=>False):=hw
   simp only [q] at hw
   obtain ⟨x,e,hq⟩:=nthK_inv hw
   have q:=Nat.le_of_ble_eq_true q
   refine key _ x ?_ e hq
   have en:Int.negSucc n=-((n:Int)+1):=rfl
   unfold seqIndex?
   rw [en]
   have h1:-((n:Int)+1) < 0:=by lia
   simp only [h1,if_true]
   rw [if_pos (by simp; lia)]
   simp; lia
theorem dict_at {w:World} {κ:Ka} {Y:NV→Prop} {N:Prop} {s:Nat} (hs:s < tab.length):∀ {ks:List Nat} {l:List NV} {kvs:List (Str × Value)},kvs.map (·.1)=ks.map tb→(∀ k∈ks,k < tab.length)→VRs w κ l (kvs.map (·.2))→fldK Y N s ks l→(∃ v u,Y v∧VR w κ v u∧valueAt kvs (tb s)=some u)∨N
 | [],_,[],_,_,.nil,h=>.inr h
 | k :: ks,_ :: l,(y,b) :: kvs,e,kr,.cons a r,h=>by
  have e1:y=tb k:=(List.cons.inj e).1
  have h:(match Nat.beq k s with | true=>Y _ | false=>fldK Y N s ks l):=h
  have q:=(tb_ok (kr k List.mem_cons_self)).2 s hs
  cases hq:Nat.beq k s with
  | true=>
   rw [hq] at h q
   exact .inl ⟨_,b,h,a,by unfold valueAt; rw [List.find?_cons_of_pos (by rw [e1]; exact decide_eq_true (eq_of_beq q))]; rfl⟩
  | false=>
   rw [hq] at h q
   refine (dict_at hs (List.cons.inj e).2 (fun k hk=>kr k (List.mem_cons_of_mem _ hk)) r h).imp_left fun ⟨v,u,h1,h2,h3⟩=>⟨v,u,h1,h2,?_⟩
   rw [← h3]; unfold valueAt
   rw [List.find?_cons_of_neg (by rw [e1]; simpa using q)]
theorem look_at {w:World} {κ:Ka} {i:Int} {v:NV}:∀ {l:List (Int × NV)} {kvs:List (Int × Value)},kvs.map (·.1)=l.map (·.1)→VRs w κ (l.map (·.2)) (kvs.map (·.2))→look i l=some v→∃ u,VR w κ v u∧valueAt kvs i=some u
 | (k,x) :: l,(y,b) :: kvs,e,.cons a r,h=>by
  have e1:y=k:=(List.cons.inj e).1
  have h:(match decide (k=i) with | true=>some x | false=>look i l)=some v:=h
  by_cases q:k=i
  ·rw [decide_eq_true q] at h; obtain rfl:=Option.some.inj h
   exact ⟨b,a,by unfold valueAt; rw [List.find?_cons_of_pos (by rw [e1]; exact decide_eq_true q)]; rfl⟩
  ·rw [decide_eq_false q] at h
   obtain ⟨u,h1,h2⟩:=look_at (List.cons.inj e).2 r h
   exact ⟨u,h1,by rw [← h2]; unfold valueAt; rw [List.find?_cons_of_neg (by rw [e1]; simpa using q)]⟩
theorem dict_slot:typeLookup (.type "dict") "__getitem__" = pure (some (.builtin "dict.__getitem__")):=slot_dict_getitem.lookup
theorem dct_inv {K:Ob→Prop} {n:Nat} (R:Rel X.w X.h₀ z) (r:VR X.w z.κ (.dct n) x) (h:regK z.σ.reg n K):∃ a ob,x=.ref a∧z.κ a=.ob (.r n)∧z.σ.at (.r n)=some ob∧OR X.w z.κ z.h a (.r n) ob∧K ob:=by
 obtain ⟨a,rfl,e⟩:=r.dct_inv
 obtain ⟨ob,e1,h⟩:=regK_inv h
 exact ⟨a,ob,rfl,e,e1,R.at e e1,h⟩
theorem dctK_inv {K:List Nat→List NV→Prop}:∀ {o:Ob},dctK K o→∃ ks l,o=.D ks l∧K ks l
 | .D ks l,h=>⟨ks,l,rfl,h⟩
theorem dciK_inv {K:List (Int × NV)→Prop}:∀ {o:Ob},dciK K o→∃ l,o=.E l∧K l
 | .E l,h=>⟨l,rfl,h⟩
theorem dciC {K:List (Int × NV)→Prop} {C:Value→Prop} {n:Nat} (R:Rel X.w X.h₀ z) (r:VR X.w z.κ (.dct n) x) (h:regK z.σ.reg n (dciK K)) (kk:∀ {a:Addr} {l:List (Int × NV)} {kvs:List (Int × Value)},z.κ a=.ob (.r n)→z.σ.at (.r n)=some (.E l)→z.h.DictOf (intKind p X.w) a kvs→kvs.map (·.1)=l.map (·.1)→VRs X.w z.κ (l.map (·.2)) (kvs.map (·.2))→kvs.length≤cap→K l→C (.ref a)):C x:=by
 obtain ⟨a,ob,rfl,e,e1,q,h⟩:=dct_inv R r h
 obtain ⟨l,rfl,h⟩:=dciK_inv h
 exact q.elim fun kvs q=>kk e e1 q.1 q.2.1 q.2.2.1 q.2.2.2 h
theorem dctC {K:List Nat→List NV→Prop} {C:Value→Prop} {n:Nat} (R:Rel X.w X.h₀ z) (r:VR X.w z.κ (.dct n) x) (h:regK z.σ.reg n (dctK K)) (kk:∀ {a:Addr} {ks:List Nat} {l:List NV} {kvs:List (Str × Value)},z.κ a=.ob (.r n)→z.σ.at (.r n)=some (.D ks l)→z.h.DictOf (PySem.strKind p X.w) a kvs→kvs.map (·.1)=ks.map tb→(∀ k∈ks,k < tab.length)→VRs X.w z.κ l (kvs.map (·.2))→kvs.length≤cap→K ks l→C (.ref a)):C x:=by
 obtain ⟨a,ob,rfl,e,e1,q,h⟩:=dct_inv R r h
 obtain ⟨ks,l,rfl,h⟩:=dctK_inv h
 exact q.elim fun kvs q=>kk e e1 q.1 q.2.1 q.2.2.1 q.2.2.2.1 q.2.2.2.2 h
theorem item_str {value sl:PySem.Expr} (hs:good sl=true) (R:Rel X.w X.h₀ z) {s:Nat} {a:Addr} {t:Tok} {kvs:List (Str × Value)} {ks:List Nat} {l:List NV} (hl:s < tab.length) (hd:z.h.DictOf (PySem.strKind p X.w) a kvs) (ek:kvs.map (·.1)=ks.map tb) (kr:∀ k∈ks,k < tab.length) (rs:VRs X.w z.κ l (kvs.map (·.2))) (h:fldK (fun x=>Q x z.σ) False s ks l) (hk:Post X Q z s₀ Qc):wpAny (model p X.w) A (subscriptTail value sl (.ref a) (.str (tb s) t)) Qc Ef (z.s s₀):=by
 rcases dict_at hl ek kr rs h with ⟨v,u,hq,r,e⟩ | h
 ·exact tail_any (T := "dict") hd.typeIs dict_slot (wpAny_getItem_of (s:=z.s s₀) (knd:=PySem.strKind p X.w) (k:=tb s) (by simp [PySem.strKind,Value.isStrOf]) hd.mapOf e (hk.tick R hq r)) (sub_plain hs _ _)
 ·exact h.elim
theorem item_go {value sl:PySem.Expr} (hs:good sl=true) (R:Rel X.w X.h₀ z) (rv:VR X.w z.κ v x) (ru:VR X.w z.κ u y) (hw:wItem X.T v u Q z.σ) (hk:Post X Q z s₀ Qc):wpAny (model p X.w) A (subscriptTail value sl x y) Qc Ef (z.s s₀):=by
 have fin:∀ x y,Q x z.σ→VR X.w z.κ x y→Qc y (z.s s₀):=fun x y hq r=>hk x y z hq (.refl R) r
 induction u using NV.casesOn with
 | int i=>
  obtain ⟨t,rfl⟩:=ru.int_inv
  have lst:getL z.σ (fun l=>idxK (fun x=>Q x z.σ) l i) v→wpAny (model p X.w) A (subscriptTail value sl x (.int i t)) Qc Ef (z.s s₀):=fun h=>by
   obtain ⟨l,L,h⟩:=getL_inv h
   obtain ⟨a,us,m,rfl,g,rs,sz,_⟩:=L.at R rv
   exact tail_any (T := "list") (s:=z.s s₀) ⟨_,g,rfl⟩ slot_list_getitem.lookup (list_item ⟨_,g,rfl,m,rfl⟩ rs sz h fin) (sub_plain hs _ _)
  induction v using NV.casesOn with
  | tup l=>
   have z1:=bK_inv hw
   obtain ⟨a,us,m,rfl,g,rs⟩:=rv.tup_inv
   exact tail_any (T := "tuple") (s:=z.s s₀) ⟨_,R.fz _ _ g,rfl⟩ slot_tuple_getitem.lookup (tup_item (s:=z.s s₀) (R.fz _ _ g) rs (Nat.le_of_ble_eq_true z1.1) z1.2 fin) (sub_plain hs _ _)
  | gl g=>
   have ex:=rv.gl_inv
   subst ex
   obtain ⟨o,e,h⟩:=opK_inv hw
   cases o with
   | dict ks l=>exact h.elim
   | seq b l=>
    induction i using Int.casesOn with
    | negSucc n=>exact h.elim
    | ofNat n=>
     have z0:=bK_inv (show bK (nthK (fun x=>Q x z.σ) l n) (Nat.ble n cap) from h)
     obtain ⟨us,m,g1,sz,rs⟩:=X.seq g b l e
     have g1:=R.keep0 _ _ g1
     have rs:=rs z.κ R.base
     induction b using Bool.casesOn with
     | true=>exact tail_any (T := "list") (s:=z.s s₀) ⟨_,g1,rfl⟩ slot_list_getitem.lookup (list_item (i:=.ofNat n) ⟨_,g1,rfl,m,rfl⟩ rs sz z0.2 fin) (sub_plain hs _ _)
     | false=>exact tail_any (T := "tuple") (s:=z.s s₀) ⟨_,g1,rfl⟩ slot_tuple_getitem.lookup (tup_item (s:=z.s s₀) (i:=.ofNat n) g1 rs (Nat.le_of_ble_eq_true z0.1) z0.2 fin) (sub_plain hs _ _)
  | dct n=>
   refine dciC (C:=fun x=>wpAny (model p X.w) A (subscriptTail value sl x (.int i t)) Qc Ef (z.s s₀)) R rv hw fun _ _ hd ek rs _ h=>?_
   obtain ⟨v,e,hq⟩:=opK_inv h
   obtain ⟨u,r,e⟩:=look_at ek rs e
   exact tail_any (T := "dict") (s:=z.s s₀) hd.typeIs dict_slot (wpAny_getItem_of (s:=z.s s₀) (knd:=intKind p X.w) (k:=i) (by simp [intKind,Value.isInt]) hd.mapOf e (hk.tick R hq r)) (sub_plain hs _ _)
  | _=>exact lst hw
 | str s=>
  obtain ⟨t,rfl,hl⟩:=ru.str_inv
  induction v using NV.casesOn with
  | fd ks l=>
   obtain ⟨a,o,kvs,rfl,g,⟨es,ep,d⟩,ek,kr,rs⟩:=rv.fd_inv
   exact item_str hs R hl ⟨o,es,ep,R.fz _ _ g,d⟩ ek kr rs hw hk
  | dct n=>
   exact dctC (C:=fun x=>wpAny (model p X.w) A (subscriptTail value sl x _) Qc Ef (z.s s₀)) R rv hw fun _ _ hd ek kr rs _ h=>item_str hs R hl hd ek kr rs h hk
  | gl g=>
   obtain ⟨o,e,h⟩:=opK_inv hw
   cases o with
   | seq b l=>exact h.elim
   | dict ks l=>
    obtain ⟨kvs,⟨o,es,ep,ho,d⟩,ek,kr,rs⟩:=X.dict g ks l e
    have ex:=rv.gl_inv
    subst ex
    exact item_str hs R hl ⟨o,es,ep,R.keep0 _ _ ho,d⟩ ek kr (rs _) h hk
  | _=>exact hw.elim
 | _=>exact hw.elim
theorem se_sb {o i:PySem.Expr} {mo mi:E} (hs:good i=true) (ho:SE X k c o mo) (hi:SE X k c i mi):SE X k c (.Subscript o i q) (.sb mo mi):=fun _ _ _ _ _ _ _ S hw hk=>
 Subscript_ (ho S hw fun _ _ _ hw t r=>hi (S.go t) hw fun _ _ _ hw t₂ r₂=>item_go hs t₂.R (r.go t₂) r₂ hw (hk.step (t.trans t₂)))
theorem sub_fr {l u:Option PySem.Expr} (o i:Value):subscripted (.Slice l u none q) false o i=operate [i,o] (getItem o i):=rfl
theorem sub_st {l u:Option PySem.Expr} {st:PySem.Expr} (o i:Value):subscripted (.Slice l u (some st) q) false o i=operate [o,i] (getItem o i):=rfl
theorem pick_to (items:Array Value) (n:Nat):slicePick items none (some n) none=(items.toList.take n).toArray:=by
 have e:sliceBounds none (some (n:Int)) none items.size=(((0:Nat):Int),((min n items.size:Nat):Int),1):=by
  unfold sliceBounds
  simp only [Option.getD_none,if_neg (show ¬ (n:Int) < 0 by lia)]
  simp
  lia
 rw [kmk_pick_nat items e]
 congr 1
 simp only [List.drop_zero,Nat.sub_zero]
 rw [← Array.length_toList]
 simp [List.take_eq_take_iff]
theorem pick_from (items:Array Value) (n:Nat):slicePick items (some n) none none=(items.toList.drop n).toArray:=by
 have e:sliceBounds (some (n:Int)) none none items.size=(((min n items.size:Nat):Int),((items.size:Nat):Int),1):=by
  unfold sliceBounds
  simp only [Option.getD_none,if_neg (show ¬ (n:Int) < 0 by lia)]
  simp
  lia
 rw [kmk_pick_nat items e]
 congr 1
 by_cases q:n≤items.size
 ·rw [Nat.min_eq_left q]
  apply List.take_of_length_le
  simp
 ·rw [Nat.min_eq_right (by lia),List.drop_eq_nil_of_le (by simp),List.drop_eq_nil_of_le (by simp; lia)]
  simp
theorem slice_tail {a:Addr} {xs ys:List NV} {us ws:List Value} {value sl:PySem.Expr} {vl vu vs:Value} {lo hi st:Option Int} {ops:List Value} (R:Rel X.w X.h₀ z) (sz:xs.length≤cap) (il:z.h.IsList a us.toArray) (rs:VRs X.w z.κ xs us)
  (pl:IsPart vl lo) (pu:IsPart vu hi) (ps:IsPart vs st) (h0:st≠some 0) (hs:subscripted sl false (.ref a) (.ref z.h.objs.size)=operate ops (getItem (.ref a) (.ref z.h.objs.size)))
  (pick:slicePick us.toArray lo hi st=ws.toArray) (rw_:VRs X.w z.κ ys ws) (sz':ys.length≤cap) (hq:Q (.fl ys) z.σ) (hk:Post X Q z s₀ Qc) :
  wpAny (model p X.w) A (subscriptTail value sl (.ref a) (.ref z.h.objs.size)) Qc Ef ⟨z.h.push { cls:=.type "slice",data:=.fields #[vl,vu,vs] },s₀.gens,s₀.drawn,z.t,s₀.os⟩:=by
 have t₁:Tr X X0 z ⟨z.h.push { cls:=.type "slice",data:=.fields #[vl,vu,vs] },z.t,z.σ,z.κ⟩:=.grow R fun b o q=>Heap.get?_push_of_some _ q
 have il':(z.h.push { cls:=.type "slice",data:=.fields #[vl,vu,vs] }).IsList a us.toArray:=let ⟨o,go,r⟩:=il; ⟨o,Heap.get?_push_of_some _ go,r⟩
 refine tail_any (T := "list") (s:=⟨_,s₀.gens,s₀.drawn,z.t,s₀.os⟩) il'.typeIs slot_list_getitem.lookup ?_ hs
 refine wpAny_getItem_list_slice (s:=⟨_,s₀.gens,s₀.drawn,z.t,s₀.os⟩) il' (Heap.IsSliceOf.new _ _ _ _) pl pu ps h0 ?_ (by rw [List.size_toArray,← rs.length]; exact Nat.le_trans sz (by decide))
 exact (pick).symm▸push_ok (p:=.f) t₁.R rw_ sz' hq (hk.step t₁)
theorem natK_inv {K:Nat→Prop} (h:natK K v):∃ n:Nat,v=.int n∧n≤cap∧K n:=by
 obtain ⟨i,rfl,h⟩:=onI_inv h
 induction i using Int.casesOn with
 | ofNat n=>exact ⟨n,rfl,h⟩
 | negSucc n=>exact h.elim
theorem sliceK_at {K:List NV→Prop} (R:Rel X.w X.h₀ z) (r:VR X.w z.κ v x) (h:sliceK X.T z.σ K v):∃ l a,∃ us:List Value,K l∧x=.ref a∧z.h.IsList a us.toArray∧VRs X.w z.κ l us∧l.length≤cap:=by
 have gen:getL z.σ K v→∃ l a,∃ us:List Value,K l∧x=.ref a∧z.h.IsList a us.toArray∧VRs X.w z.κ l us∧l.length≤cap:=fun h=>by
  obtain ⟨l,L,h⟩:=getL_inv h
  obtain ⟨a,us,m,e,g,rs,sz,_⟩:=L.at R r
  exact ⟨l,a,us,h,e,⟨_,g,rfl,m,rfl⟩,rs,sz⟩
 induction v using NV.casesOn with
 | gl g=>
  obtain ⟨l,e,h⟩:=opK_inv h
  obtain ⟨sz,us,⟨o,ho,i⟩,rs⟩:=X.scr g l e
  exact ⟨l,g,us,h,r.gl_inv,⟨o,R.keep0 _ _ ho,i⟩,rs _,sz⟩
 | _=>exact gen h
theorem se_tk {o i:PySem.Expr} {mo mi:E} {q':Pos} (ho:SE X k c o mo) (hi:SE X k c i mi):SE X k c (.Subscript o (.Slice none (some i) none q') q) (.tk mo mi):=fun _ _ _ _ _ _ _ S hw hk=>by
 refine Subscript_ (ho S hw fun v x z₁ hw t r=>wpAny_Slice (wpAny_of_eq (a:=.none) (evalPart_none _) ?_))
 refine hi (S.go t) hw fun u y z₂ hw t₂ r₂=>wpAny_of_eq (a:=.none) (evalPart_none _) ?_
 obtain ⟨n,rfl,hc,hw⟩:=natK_inv hw
 obtain ⟨tk,rfl⟩:=r₂.int_inv
 obtain ⟨l,a,us,hq,rfl,il,rs,sz⟩:=sliceK_at t₂.R (r.go t₂) hw
 exact slice_tail t₂.R sz il rs .none (.int _ _) .none (fun h=>nomatch h) (sub_fr _ _) (pick_to _ _) (rs.take n) (by rw [List.length_take]; lia) hq (hk.step (t.trans t₂))
theorem se_dp {o i:PySem.Expr} {mo mi:E} {q':Pos} (ho:SE X k c o mo) (hi:SE X k c i mi):SE X k c (.Subscript o (.Slice (some i) none none q') q) (.dp mo mi):=fun _ _ _ _ _ _ _ S hw hk=>by
 refine Subscript_ (ho S hw fun v x z₁ hw t r=>wpAny_Slice ?_)
 refine hi (S.go t) hw fun u y z₂ hw t₂ r₂=>wpAny_of_eq (a:=.none) (evalPart_none _) (wpAny_of_eq (a:=.none) (evalPart_none _) ?_)
 obtain ⟨n,rfl,hc,hw⟩:=natK_inv hw
 obtain ⟨tk,rfl⟩:=r₂.int_inv
 obtain ⟨l,L,hq⟩:=getL_inv hw
 obtain ⟨a,us,m,rfl,g,rs,sz,_⟩:=L.at t₂.R (r.go t₂)
 exact slice_tail t₂.R sz ⟨_,g,rfl,m,rfl⟩ rs (.int _ _) .none .none (fun h=>nomatch h) (sub_fr _ _) (pick_from _ _) (rs.drop n) (by rw [List.length_drop]; lia) hq (hk.step (t.trans t₂))
theorem se_rv {o:PySem.Expr} {mo:E} {n:Nat} {q' q₁ q₂:Pos} (ho:SE X k c o mo):SE X k c (.Subscript o (.Slice none none (some (.UnaryOp .USub (.Constant (.int 1) n q₁) q₂)) q') q) (.rv mo):=fun _ _ _ _ _ _ _ S hw hk=>by
 refine Subscript_ (ho S hw fun v x z₁ hw t r=>wpAny_Slice (wpAny_of_eq (a:=.none) (evalPart_none _) (wpAny_of_eq (a:=.none) (evalPart_none _) ?_)))
 rw [evalPart_some]
 refine wpAny_UnaryOp (wpAny_Constant_int (PyProof.Rows.neg_int ?_))
 obtain ⟨l,L,hq⟩:=getL_inv hw
 obtain ⟨a,us,m,rfl,g,rs,sz,_⟩:=L.at t.R r
 have t₁:Tr X X0 z₁ ⟨z₁.h,z₁.t+1+1,z₁.σ,z₁.κ⟩:=.grow t.R fun _ _ h=>h
 exact slice_tail (z:=⟨z₁.h,z₁.t+1+1,z₁.σ,z₁.κ⟩) t₁.R sz ⟨_,g,rfl,m,rfl⟩ rs .none .none (.int _ _) (by decide) (sub_st _ _) (krv_pick _) rs.reverse (by rw [List.length_reverse]; exact sz) hq (hk.step (t.trans t₁))
end
end
section
theorem zip_lookup_some {α:Type}:∀ (ns:List Str) (us:List α) (x:Str),x∈ns.take us.length→((ns.zip us).lookup x).isSome=true
 | [],_,_,h=>by simp at h
 | n :: ns,[],_,h=>by simp at h
 | n :: ns,u :: us,x,h=>by
  rw [List.zip_cons_cons,List.lookup_cons]
  cases hb:x==n with
  | true=>rfl
  | false=>
   rw [List.length_cons,List.take_succ_cons] at h
   rcases List.mem_cons.mp h with q | q
   ·subst q; simp at hb
   ·exact zip_lookup_some ns us x q
theorem zip_lookup_none {α:Type}:∀ (ns:List Str) (us:List α) (x:Str),x ∉ ns→(ns.zip us).lookup x=none
 | [],_,_,_=>by simp
 | n :: ns,[],_,_=>by simp
 | n :: ns,u :: us,x,h=>by
  rw [List.zip_cons_cons,List.lookup_cons]
  have:(x==n)=false:=by by_cases hq:x=n; exact absurd (hq▸List.mem_cons_self) h; simpa using hq
  exact (this).symm▸zip_lookup_none ns us x fun q=>h (List.mem_cons_of_mem _ q)
theorem zip_filterMap' {α:Type} (L:List (Str × α)):∀ (ns:List Str) (us:List α),ns.Nodup→ns.length=us.length→(∀ x∈ns,L.lookup x=(ns.zip us).lookup x)→(ns.filterMap fun n=>(L.lookup n).map (n,·))=ns.zip us
 | [],[],_,_,_=>rfl
 | [],_ :: _,_,h,_=>by simp at h
 | _ :: _,[],_,h,_=>by simp at h
 | n :: ns,u :: us,hn,hl,hL=>by
  rw [List.nodup_cons] at hn
  rw [List.zip_cons_cons,List.filterMap_cons,hL n List.mem_cons_self,List.zip_cons_cons,List.lookup_cons,beq_self_eq_true]
  simp only [Option.map_some]
  congr 1
  refine zip_filterMap' L ns us hn.2 (by simpa using hl) fun x hx=>?_
  rw [hL x (List.mem_cons_of_mem _ hx),List.zip_cons_cons,List.lookup_cons]
  have:(x==n)=false:=by by_cases hq:x=n; exact absurd (hq▸hx) hn.1; simpa using hq
  rw [this]
theorem zip_filterMap {α:Type} (ns:List Str) (us:List α) (hn:ns.Nodup) (hl:ns.length=us.length):(ns.filterMap fun n=>((ns.zip us).lookup n).map (n,·))=ns.zip us:=zip_filterMap' _ ns us hn hl fun _ _=>rfl
theorem Dflt.el {h:Heap} {fd:FuncData} {ds:List Value} {C:List Value→Prop} (hd:Dflt h fd ds) (n:fd.defaults=.none→C []) (o:∀ d T n,fd.defaults=.ref T→h.get? T=some (tuO [d] n)→C [d]):C ds:=by
 rcases ds with _ | ⟨d,_ | _⟩
 ·exact n hd
 ·exact hd.elim fun T q=>q.elim fun k q=>o d T k q.1 q.2
 ·exact hd.elim
theorem Dflt.items {s:Shared} {fd:FuncData} {ds:List Value} (h:Dflt s.heap fd ds) {M:Model} {A:Around} {E:Value→Shared→Prop} {Q:Option (Array Value)→Shared→Prop} (hq:∀ it:Option (Array Value),(it.getD #[]).toList=ds→Q it s):wpAny M A (seqItems? fd.defaults) Q E s:=
 h.el (C:=fun ds=>(∀ it:Option (Array Value),(it.getD #[]).toList=ds→Q it s)→wpAny M A (seqItems? fd.defaults) Q E s) (fun e hq=>e▸wpAny_pure (hq none rfl)) (fun d T n e h hq=>e▸wpAny_seqItems h rfl (hq (some #[d]) rfl)) hq
noncomputable def bB (ns:List Str) (us:List Value) (x1 x2:Sem (List (Str × Value))) (ds:List Value):Sem (List (Str × Value)):=
 if (decide (us.length > ns.length)&&true)=true then x1 else
 if (!((ns.take (ns.length - ds.length)).filter fun n=>((ns.zip us).lookup n).isNone).isEmpty)=true then x2 else
 (forIn ((ns.drop (ns.length - ds.length)).zip ds) (ns.zip us) fun x r=>if (r.lookup x.1).isNone=true then pure (.yield (r++[(x.1,x.2)])) else pure (.yield r)) >>= fun L=>
 pure ((ns++[]).filterMap fun n=>(L.lookup n).map (n,·))
theorem bind_eq (fd:FuncData) (as:List Arg) (kd:List (Option PySem.Expr)) (q:List PySem.Expr) (us:List Value) (e:fd.params=⟨[],as,none,[],kd,none,q⟩) :
  ∃ e1 e2:Option (Array Value)→Sem (List (Str × Value)),bindArgs fd ⟨us,[]⟩=(seqItems? fd.defaults >>= fun it=>bB (as.map (·.arg)) us (e1 it) (e2 it) ((it.getD #[]).toList.drop ((it.getD #[]).toList.length - (as.map (·.arg)).length))):=by
 obtain ⟨_,_,P,_,_,_,_,_,_,_,_,_,_,_,_⟩:=fd
 subst e
 refine ⟨?_,?_,?_⟩
 case refine_3=>
  refine (show _=(seqItems? _ >>= fun it=>ite _ _ (ite _ _ _)) from rfl).trans (congrArg (seqItems? _ >>= ·) (funext fun it=>?_))
  delta bB
  exact rfl
theorem ite_no {α:Type} {c:Prop} [Decidable c] {a b x:α} (h:¬c) (e:b=x):(if c then a else b)=x:=(if_neg h).trans e
theorem zip_full {ns:List Str} {us:List Value} (hn:ns.Nodup) (e:ns.length=us.length):((ns++[]).filterMap fun n=>((ns.zip us).lookup n).map (n,·))=ns.zip us:=(List.append_nil ns).symm▸zip_filterMap ns us hn e
theorem forIn_one {x:Str} {d:Value} {r:List (Str × Value)}:(forIn [(x,d)] r fun x r=>if (r.lookup x.1).isNone=true then pure (.yield (r++[(x.1,x.2)])) else pure (.yield r):Sem (List (Str × Value)))=pure (if (r.lookup x).isNone=true then r++[(x,d)] else r):=by
 rw [List.forIn_cons]
 by_cases h:(r.lookup x).isNone=true
 ·rw [if_pos h,if_pos h,pure_bind]; rfl
 ·rw [if_neg h,if_neg h,pure_bind]; rfl
theorem bB_eq {ns:List Str} {us ds:List Value} {x1 x2:Sem (List (Str × Value))} (hn:ns.Nodup) (dl:ds.length≤1) (hl:us.length≤ns.length) (hl':ns.length≤us.length+ds.length) (h1d:ds.length≤ns.length) :
  bB ns us x1 x2 ds=pure (ns.zip (us++ds.drop (ds.length+us.length - ns.length))):=by
 have has:∀ x∈ns.take us.length,((ns.zip us).lookup x).isNone=false:=fun x hx=>by rw [← Option.not_isSome,zip_lookup_some ns us x hx]; rfl
 refine ite_no (fun h=>?_) (ite_no (fun h=>?_) ?_)
 ·rw [Bool.and_true] at h
  exact Nat.not_lt.mpr hl (of_decide_eq_true h)
 ·rw [List.filter_eq_nil_iff.mpr fun x hx=>by rw [has x (List.take_subset_take_left ns (Nat.sub_le_of_le_add hl') hx)]; exact Bool.false_ne_true] at h
  exact nomatch h
 have fin:∀ {us:List Value} {L:List (Str × Value)},L=ns.zip us→ns.length=us.length→(pure L >>= fun L=>pure ((ns++[]).filterMap fun n=>(L.lookup n).map (n,·)):Sem (List (Str × Value)))=pure (ns.zip us):=fun e e2=>by
  rw [pure_bind,e,zip_full hn e2]
 rcases ds with _ | ⟨d,_ | ⟨_,_⟩⟩
 ·rw [List.zip_nil_right,List.forIn_nil,List.drop_nil,List.append_nil us]
  exact fin rfl (Nat.le_antisymm hl' hl)
 ·obtain ⟨ms,x,rfl⟩:∃ ms x,ns=ms++[x]:=⟨ns.dropLast,ns.getLast fun q=>absurd (q▸h1d:1≤([]:List Str).length) (by decide),(List.dropLast_concat_getLast _).symm⟩
  rw [show (ms++[x]).drop ((ms++[x]).length - [d].length)=[x] by simp,List.zip_cons_cons,List.zip_nil_left,forIn_one]
  have hx:x ∉ ms:=fun q=>(List.nodup_append.mp hn).2.2 x q x (.head _) rfl
  rw [List.length_append] at hl hl'
  have hl':=Nat.le_of_succ_le_succ hl'
  rcases Nat.lt_or_eq_of_le hl' with h | h
  ·have e:(ms++[x]).length=us.length:=by rw [List.length_append]; exact Nat.le_antisymm h hl
   rw [has x (by rw [← e,List.take_length]; exact List.mem_append_right _ (.head _)),if_neg Bool.false_ne_true,show [d].drop ([d].length+us.length - (ms++[x]).length)=[] by rw [e,Nat.add_sub_cancel]; rfl,List.append_nil us]
   exact fin rfl e
  ·have e5:(ms++[x]).zip us=ms.zip us:=by rw [← List.append_nil us,List.zip_append h,List.append_nil]; exact List.append_nil _
   rw [e5,zip_lookup_none ms us x hx,if_pos (show (none:Option Value).isNone=true from rfl),show [d].length+us.length - (ms++[x]).length=0 by rw [List.length_append,h,Nat.add_comm]; exact Nat.sub_self _]
   exact fin (by rw [List.drop_zero,List.zip_append h]; rfl) (by rw [List.length_append,List.length_append,h]; rfl)
 ·exact absurd dl (by simp)
theorem binds_plain {fd:FuncData} {ns:List Str} {us ds:List Value} {s:Shared} (h:PlainArgs fd ns) (hd:Dflt s.heap fd ds) (h1d:ds.length≤ns.length) (hl:us.length≤ns.length) (hl':ns.length≤us.length+ds.length) :
  BindsTo s fd ⟨us,[]⟩ (ns.zip (us++ds.drop (ds.length+us.length - ns.length))):=by
 obtain ⟨e1,e2,e⟩:=bind_eq fd fd.params.args fd.params.kw_defaults fd.params.defaults us (by
  obtain ⟨h1,h2,h3,h4,h5,hn⟩:=h
  generalize fd.params=P at *
  obtain ⟨_,_,_,_,_,_,_⟩:=P
  subst h1 h3 h4 h5
  rfl)
 rw [h.args] at e
 intro M A E Q hq
 rw [e]
 refine wpAny_bind (hd.items fun it hit=>?_)
 rw [hit,Nat.sub_eq_zero_of_le h1d,List.drop_zero,bB_eq h.nd (hd.el (C:=fun ds=>ds.length≤1) (fun _=>Nat.zero_le 1) fun _ _ _ _ _=>Nat.le_refl 1) hl hl' h1d]
 exact wpAny_pure hq
theorem bindL_zip (kindOf:Str→Option NameKind):∀ (ns:List Str) (us:List Value) (m:Str→Option Value) (x:Str),ns.Nodup→kindOf x=some .local→bindL kindOf (ns.zip us) m x=(((ns.zip us).lookup x).or (m x))
 | [],_,m,x,_,_=>by simp [bindL]
 | n :: ns,[],m,x,_,_=>by simp [bindL]
 | n :: ns,u :: us,m,x,hn,hx=>by
  rw [List.nodup_cons] at hn
  rw [List.zip_cons_cons,bindL,bindL_zip kindOf ns us _ x hn.2 hx,List.lookup_cons]
  by_cases q:x=n
  ·subst q
   rw [zip_lookup_none ns us x hn.1,beq_self_eq_true,if_pos hx]
   simp
  ·have:(x==n)=false:=by simpa using q
   rw [this]
   congr 1
   split <;> simp [q]
theorem bindC_zip (kindOf:Str→Option NameKind):∀ (ns:List Str) (us:List Value) (m:Str→Option Value) (x:Str),ns.Nodup→kindOf x≠some .local→bindC kindOf (ns.zip us) m x=(((ns.zip us).lookup x).or (m x))
 | [],_,m,x,_,_=>by simp [bindC]
 | n :: ns,[],m,x,_,_=>by simp [bindC]
 | n :: ns,u :: us,m,x,hn,hx=>by
  rw [List.nodup_cons] at hn
  rw [List.zip_cons_cons,bindC,bindC_zip kindOf ns us _ x hn.2 hx,List.lookup_cons]
  by_cases q:x=n
  ·subst q
   rw [zip_lookup_none ns us x hn.1,beq_self_eq_true,if_neg hx]
   simp
  ·have:(x==n)=false:=by simpa using q
   rw [this]
   congr 1
   split <;> simp [q]
theorem lookup_mem {α:Type}:∀ (l:List (Str × α)),(l.map (·.1)).Nodup→∀ (x:Str) (v:α),(x,v)∈l→l.lookup x=some v
 | (y,u) :: l,hn,x,v,h=>by
  rw [List.map_cons,List.nodup_cons] at hn
  rw [List.lookup_cons]
  rcases List.mem_cons.mp h with q | q
  ·cases q; rw [beq_self_eq_true]
  ·have:(x==y)=false:=by by_cases e:x=y; exact absurd (e▸List.mem_map_of_mem (f:=(·.1)) q) hn.1; simpa using e
   exact (this).symm▸lookup_mem l hn.2 x v q
theorem zip_lookup_at:∀ (ns:List Str) (us:List Value) (m:Nat) (x:Str) (u:Value),ns.Nodup→ns[m]?=some x→us[m]?=some u→(ns.zip us).lookup x=some u
 | [],_,_,_,_,_,h,_=>by simp at h
 | n :: ns,[],_,_,_,_,_,h=>by simp at h
 | n :: ns,w :: us,0,x,u,hn,h1,h2=>by
  simp only [List.getElem?_cons_zero,Option.some.injEq] at h1 h2
  subst h1; subst h2
  rw [List.zip_cons_cons,List.lookup_cons,beq_self_eq_true]
 | n :: ns,w :: us,m+1,x,u,hn,h1,h2=>by
  rw [List.getElem?_cons_succ] at h1 h2
  rw [List.nodup_cons] at hn
  rw [List.zip_cons_cons,List.lookup_cons]
  have:(x==n)=false:=by by_cases e:x=n; exact absurd (e▸List.mem_of_getElem? h1) hn.1; simpa using e
  exact (this).symm▸zip_lookup_at ns us m x u hn.2 h1 h2
theorem Dflt.keeps {h h':Heap} {fd:FuncData} {ds:List Value} (x:Dflt h fd ds) (k:∀ b o,h.get? b=some o→h'.get? b=some o):Dflt h' fd ds:=x.el (C:=Dflt h' fd) (fun e=>e) fun _ T n e h=>⟨T,n,e,k _ _ h⟩
noncomputable def newE (sc:Scope) (h:Heap) (qual:Str) (a:Addr) (code:Value):Env:=newEnv sc h.objs.size mainGlobals (cellsFrom (h.objs.size+1) sc.names []) qual (some a) code none builtinsNs
section
variable {X:Cx} {k:Nat} {A:Around} {z:Z} {s₀:Shared}
theorem sc_at {sc:Scope} {l:Bool} (hn:(sc.names.map (·.1)).Nodup) {i:Nat} {x:Str} (h:(scTC sc l).ns[i]?=some (some x)):sc.names.lookup x=some .local∨sc.names.lookup x=some .cell:=by
 replace h:=List.getElem?_map▸h
 obtain ⟨y,hy,e⟩:=Option.map_eq_some_iff.mp h
 obtain rfl:=Option.some.inj e
 obtain ⟨h1,h2⟩:=List.mem_filter.mp (List.mem_of_getElem? hy)
 have:=lookup_mem sc.names hn y.1 y.2 h1
 rw [Bool.or_eq_true,beq_iff_eq,beq_iff_eq] at h2
 exact h2.imp (fun e=>by rw [this,e]) fun e=>by rw [this,e]
theorem sc_inj {sc:Scope} {l:Bool} (hn:(sc.names.map (·.1)).Nodup) (i j:Nat) (x:Str) (h:(scTC sc l).ns[i]?=some (some x)) (h':(scTC sc l).ns[j]?=some (some x)):i=j:=by
 have nd:(scTC sc l).ns.Nodup:=by
  have hn:sc.names.Pairwise fun a b=>a.1≠b.1:=List.pairwise_map.mp hn
  exact List.pairwise_map.mpr ((hn.sublist List.filter_sublist).imp fun h e=>h (Option.some.inj e))
 exact (List.getElem?_inj (List.getElem?_eq_some_iff.mp h).1 nd).mp (h.trans h'.symm)
theorem size_up {h:Heap} {b:Addr} (q:h.objs.size≤b):h.get? b=none:=by
 cases e:h.get? b with
 | none=>rfl
 | some o=>exact absurd (Heap.lt_size e) (Nat.not_lt.mpr q)
theorem into_frame {sc:Scope} {qual:Str} {a:Addr} {code:Value} {ns:List Str} {us:List Value} {ws:List NV} {d:FD} {l:Bool} {Qc:Env→Shared→Prop}
  (hlam:l=true→code=.ref 903∧qual++ "<lambda>" = lamQual) (R:Rel X.w X.h₀ z) (O:ScOk sc l ns d) (nd:ns.Nodup) (hu:VRs X.w z.κ ws us) (hl:ns.length=us.length)
  (h:∀ env h' t',EnvR X.w (scTC sc l) env ⟨h',t',z.σ,z.κ⟩ (ws.map some++List.replicate (d.n - d.na) none)→Tr X X0 z ⟨h',t',z.σ,z.κ⟩→(∀ b,ZE env b→z.h.get? b=none)→Qc env ⟨h',s₀.gens,s₀.drawn,t',s₀.os⟩) :
  wpAny (model p X.w) A (newFunctionEnv sc mainGlobals [] (ns.zip us) qual (some a) code none builtinsNs) Qc Ef (z.s s₀):=by
 have slot:∀ i x,ns[i]?=some x→(scTC sc l).ns[i]?=some (some x):=fun i x e=>by
  have lt:=(List.getElem?_eq_some_iff.mp e).1
  rw [← List.getElem?_take_of_lt (show i < d.na by rw [← O.na]; exact lt),O.his,List.getElem?_map,e]; rfl
 refine wpAny_newFunctionEnv_cells O.kind (fun x hx=>?_) fun env henv s' ic=>?_
 ·obtain ⟨m,hlt,e⟩:=List.mem_iff_getElem.mp (List.of_mem_zip (show (x.1,x.2)∈ns.zip us from hx)).1
  rcases sc_at O.nd (slot m x.1 (by rw [List.getElem?_eq_getElem hlt,e])) with q | q
  ·exact .inl q
  ·exact .inr ⟨q,cellsFrom_some _ _ _ (.inl q)⟩
 ·obtain ⟨h',t',rfl⟩:=ic.toInCall.same
  have loc:env.locals=z.h.objs.size:=by rw [henv]; rfl
  have up:=ic.toInCall.keep
  have t:Tr X X0 z ⟨h',t',z.σ,z.κ⟩:=.grow R up
  have ab:∀ y b,env.cells.lookup y=some b→z.h.objs.size≤b:=fun y b e=>by rw [← loc]; exact Nat.le_of_lt (ic.above y b (mem_of_lookup e))
  have zd:∀ b,ZE env b→z.h.get? b=none:=fun b q=>size_up (q.elim (fun q=>by rw [q,loc]; exact Nat.le_refl _) fun ⟨y,q⟩=>ab y b q)
  have kdE:∀ x,env.kindOf x=sc.names.lookup x:=fun x=>by rw [henv]; rfl
  refine h env h' t' ⟨⟨by rw [henv]; exact O.kind,by rw [henv]; rfl,by rw [henv]; rfl,kdE,sc_inj O.nd,fun i x=>sc_at O.nd,fun x hx=>?_,fun x y b h1 h2=>name_of_addr ic.apart (mem_of_lookup h1) (mem_of_lookup h2),fun q=>by rw [henv]; exact hlam q⟩,?_,R.noOf (zd _ (.inl rfl)),⟨_,ic.toInCall.ns⟩,fun y b e=>⟨R.noOf (zd _ (.inr ⟨y,e⟩)),_,ic.cell y b e⟩,fun i x v e1 e2=>?_⟩ t zd
  ·rw [henv]; exact Option.isSome_iff_exists.mp (cellsFrom_some _ _ _ (.inl hx))
  ·have:=hu.length
   rw [List.length_append,List.length_map,List.length_replicate,← O.n,this,← hl,O.na]
   have:d.na≤d.n:=by
    have:=congrArg List.length O.his
    rw [List.length_take,List.length_map,O.na,← O.n] at this
    lia
   lia
  ·have hi:i < ws.length:=Nat.lt_of_not_le fun q=>by
    rw [List.getElem?_append_right (by rw [List.length_map]; exact q),List.getElem?_replicate] at e2
    split at e2 <;> exact nomatch e2
   rw [List.getElem?_append_left (by rw [List.length_map]; exact hi),List.getElem?_map] at e2
   obtain ⟨v',ev,e⟩:=Option.map_eq_some_iff.mp e2
   obtain rfl:=Option.some.inj e
   obtain ⟨u,eu,r⟩:=hu.get i ev
   have hn:i < ns.length:=by rw [hl,← hu.length]; exact hi
   have ex:ns[i]?=some x:=by
    have:=slot i _ (List.getElem?_eq_getElem hn)
    rw [e1] at this; cases this
    exact List.getElem?_eq_getElem hn
   have lk:=zip_lookup_at ns us i x u nd ex eu
   refine ⟨u,?_,r⟩
   rcases sc_at O.nd e1 with q | q
   ·have a:At (scTC sc l) env h' x _:=At.loc q ic.toInCall.ns
    rw [bindL_zip _ _ _ _ _ nd ((kdE x).trans q),lk] at a; exact a
   ·obtain ⟨b,hb⟩:∃ b,env.cells.lookup x=some b:=by rw [henv]; exact Option.isSome_iff_exists.mp (cellsFrom_some _ _ _ (.inl q))
    have a:At (scTC sc l) env h' x _:=At.cell q hb (ic.cell x b hb)
    rw [bindC_zip _ _ _ _ _ nd (by rw [kdE,q]; exact fun h=>nomatch h),lk] at a; exact a
end
end
section
structure RoomF (A:Around) (k:Nat):Prop where
 h:A.handled=none
 d:A.depth+4 * k+7 < recursionLimit
 u:A.units+16 * k+190 < cLine
noncomputable def FunAt (κ:Ka) (i:Nat) (a:Addr):Prop:=(a=i∧i < 2000)∨∃ j fd,i=2000+j∧LamAt κ j a fd
noncomputable abbrev PostF (X:Cx) (Q:Po) (z:Z) (s₀:Shared) (RR:Result→Shared→Prop):Prop:=∀ v u z',Q v z'.σ→Tr X X0 z z'→VR X.w z'.κ v u→RR (.ok (.ret u)) (z'.s s₀)
noncomputable abbrev FunOK (X:Cx) (k:Nat):Prop:=
 ∀ ⦃A:Around⦄ ⦃i:Nat⦄ ⦃a:Addr⦄ ⦃vs:List NV⦄ ⦃us:List Value⦄ ⦃Q:Po⦄ ⦃RR:Result→Shared→Prop⦄ ⦃z:Z⦄ ⦃s₀:Shared⦄,RoomF A k→Rel X.w X.h₀ z→FunAt z.κ i a→VRs X.w z.κ vs us→callN X.T k i vs Q z.σ→PostF X Q z s₀ RR→codeAny (model p X.w) A (.call (.ref a) ⟨us,[]⟩) RR (z.s s₀)
noncomputable abbrev CallOK (X:Cx) (k:Nat):Prop:=
 ∀ ⦃A:Around⦄ ⦃v:NV⦄ ⦃x:Value⦄ ⦃vs:List NV⦄ ⦃us:List Value⦄ ⦃Q:Po⦄ ⦃Qc:Value→Shared→Prop⦄ ⦃z:Z⦄ ⦃s₀:Shared⦄,Room A k→Rel X.w X.h₀ z→VR X.w z.κ v x→VRs X.w z.κ vs us→apK X.T (callN X.T k) v vs Q z.σ→Post X Q z s₀ Qc→wpAny (model p X.w) A (call x us []) Qc Ef (z.s s₀)
section
variable {X:Cx} {k:Nat} {A:Around} {c:TC} {env:Env} {fr:Fr} {z z':Z} {s₀:Shared} {Q:Po} {Qc:Value→Shared→Prop} {v u:NV} {x y:Value} {q pos:Pos} {vs:List NV} {us:List Value}
theorem defK_inv {K:FD→Prop}:∀ {o:Option FD},defK K o→∃ d,o=some d∧K d
 | some d,h=>⟨d,rfl,h⟩
theorem call_0 {i:Nat} {σ:NH} (h:callN X.T 0 i vs Q σ):False:=by rw [callN_v] at h; exact h
theorem fn_at {i:Nat} (R:Rel X.w X.h₀ z) (lt:i < 2000) (h:callN X.T k i vs Q z.σ):∃ fd:FuncData,z.h.get? i=some { cls:=.type "function",data:=.func fd }:=by
 induction k using Nat.casesOn with
 | zero=>exact (call_0 h).elim
 | succ k=>
  obtain ⟨d,e,_⟩:=defK_inv (leave h)
  obtain ⟨fd,body,ns,ds,F⟩:=X.fns i d lt e
  exact ⟨fd,R.keep0 _ _ F.at_⟩
noncomputable abbrev Kp (X:Cx) (h:Heap) (x:Value):Prop:=∃ kk,(kk=Keeper.frame∨kk=Keeper.machine∨kk=Keeper.boundFrame)∧Looks (model p X.w) h (keeperOf x) kk
theorem callable (R:Rel X.w X.h₀ z) (rv:VR X.w z.κ v x) (hw:apK X.T (callN X.T k) v vs Q z.σ):Kp X z.h x:=by
 cases rv with
 | fn lt=>obtain ⟨fd,e⟩:=fn_at R lt hw; exact ⟨.frame,.inl rfl,(Looks.ld (part:=none) e).andThen .now⟩
 | lam L=>exact ⟨.frame,.inl rfl,(Looks.ld (part:=none) (R.fz _ _ L.at')).andThen .now⟩
 | bnd lt e _=>obtain ⟨fd,e'⟩:=fn_at R lt hw; exact ⟨.boundFrame,.inr (.inr rfl),(Looks.ld (part:=none) (R.fz _ _ e)).andThen ((Looks.ld (part:=none) e').andThen .now)⟩
 | cls a=>obtain ⟨i,hi,_⟩:=opK_inv hw; exact keeps_K (ClsK.of (X.kok a (X.mok _ _ _ hi))).call z.h (kin R)
 | _=>exact hw.elim
theorem inst_ok {c:Nat} {s:Sl} {σ':NH} (R:Rel X.w X.h₀ z) (ok:okc c=true) (ns:z.σ.at s=none) (hx:∀ x,s=.d x→z.h.objs.size+1=x) (e1:σ'.at s=some (.I c [] [])) (e2:∀ s',s'≠s→σ'.at s'=z.σ.at s') :
  ∃ κ',Tr X X0 z ⟨(z.h.push emptyDict).push (instObj c z.h.objs.size),z.t,σ',κ'⟩∧κ' (z.h.objs.size+1)=.ob s:=by
 have t₁:Tr X X0 z ⟨(z.h.push emptyDict).push (instObj c z.h.objs.size),z.t,z.σ,z.κ⟩:=.grow R fun b o q=>Heap.get?_push_of_some _ (Heap.get?_push_of_some _ q)
 have g:((z.h.push emptyDict).push (instObj c z.h.objs.size)).get? (z.h.objs.size+1)=some (instObj c z.h.objs.size):=by
  have:((z.h.push emptyDict).push (instObj c z.h.objs.size)).get? (z.h.push emptyDict).objs.size=some (instObj c z.h.objs.size):=Heap.get?_push_size _ rfl
  rwa [Heap.size_push] at this
 have g2:((z.h.push emptyDict).push (instObj c z.h.objs.size)).get? z.h.objs.size=some emptyDict:=Heap.get?_push_of_some _ (Heap.get?_push_size _ rfl)
 have n1:=R.noOf (size_up (Nat.le_succ z.h.objs.size))
 have n2:=R.noOf (size_none z.h)
 have t₂:=slot_ok (P:=fun b=>b=z.h.objs.size+1∨b=z.h.objs.size) (t:=z.t) t₁.R n1 n2 (by show (Heap.get? _ _).isSome=true; rw [g]; rfl) (by show (Heap.get? _ _).isSome=true; rw [g2]; rfl) ns hx e1 e2 (.inr ⟨_,_,_,rfl⟩)
  ⟨ok,List.nodup_nil,z.h.objs.size,[],0,g,by unfold kob; rw [if_neg (Nat.ne_of_lt (Nat.lt_succ_self _)),if_pos rfl],g2,.nil⟩ fun b h=>h
 exact ⟨_,((t₁.up).trans t₂).fresh fun b h=>h.elim (fun e=>e▸size_up (Nat.le_succ _)) fun e=>e▸size_none _,if_pos rfl⟩
theorem CallOK.of (F:FunOK X k):CallOK X k:=fun A v x vs us Q Qc z s₀ rm R rv rs hw hk=>by
 have rf:RoomF A k:=⟨rm.h,by have:=rm.d; lia,by have:=rm.u; lia⟩
 cases rv with
 | fn lt=>exact wpAny_call (F rf R (.inl ⟨rfl,lt⟩) rs hw hk)
 | lam L=>exact wpAny_call (F rf R (.inr ⟨_,_,rfl,L⟩) rs hw hk)
 | bnd lt e e'=>exact wpAny_call (method_call (R.fz _ _ e) (F rf R (.inl ⟨rfl,lt⟩) (.cons (.ins e') rs) hw hk))
 | cls a=>
  obtain ⟨i,hi,hw⟩:=opK_inv hw
  have ok:=X.mok _ _ _ hi
  have C:=ClsK.of (X.kok a ok)
  have z0:=C.init i hi
  refine wpAny_call (make_core (makes_of (kin R) C.makes) (looks_findIn (kin R) z0.1) (fun self=>bind_fn (kin R) self (beq_iff_eq.mp z0.2.1)) (.inl rfl) ?_)
  have rf':RoomF (A.under (.builtin "type.__call__" ⟨.ref a :: us,[]⟩)) k:=by
   have h1:(A.under (.builtin "type.__call__" ⟨.ref a :: us,[]⟩)).depth=A.depth+1:=rfl
   have h2:(A.under (.builtin "type.__call__" ⟨.ref a :: us,[]⟩)).units=A.units+1:=rfl
   exact ⟨rm.h,by rw [h1]; have:=rm.d; lia,by rw [h2]; have:=rm.u; lia⟩
  cases q:stat a with
  | true=>
   replace hw:=q▸hw
   obtain ⟨κ',t,e⟩:=inst_ok (s:=.r z.σ.next) R ok (at_push (o:=.L [])).2.1 (fun _ h=>nomatch h) at_push.1 at_push.2.2
   refine F (z:=⟨_,z.t,_,κ'⟩) rf' t.R (.inl ⟨rfl,z0.2.2⟩) (.cons (.ins e) (rs.go t)) hw fun v u z' hq t₂ r=>?_
   obtain ⟨rfl,hq⟩:=onN_inv hq
   rw [r.none_inv]
   exact ⟨rfl,hk _ _ z' hq (t.trans t₂) (.ins (t₂.g.le.ob _ _ e))⟩
  | false=>
   simp only [q] at hw
   have nd:z.σ.dyn (z.h.objs.size+1)=none:=by
    cases q:z.σ.dyn (z.h.objs.size+1) with
    | none=>rfl
    | some o=>
     have:=(R.atD (a:=z.h.objs.size+1) q).1
     rw [R.noOf (size_up (Nat.le_succ _))] at this; cases this
   obtain ⟨κ',t,e⟩:=inst_ok (s:=.d (z.h.objs.size+1)) R ok nd (fun _ h=>by cases h; rfl) dput_at.1 dput_at.2
   refine F (z:=⟨_,z.t,_,κ'⟩) rf' t.R (.inl ⟨rfl,z0.2.2⟩) (.cons (.di _) (rs.go t)) (hw _ nd) fun v u z' hq t₂ r=>?_
   obtain ⟨rfl,hq⟩:=onN_inv hq
   rw [r.none_inv]
   exact ⟨rfl,hk _ _ z' hq (t.trans t₂) (.di _)⟩
 | _=>exact hw.elim
theorem each_any {es:List PySem.Expr} {ms:E} (H:Each X k c es ms) (pos:Pos) (env:Env):(backTo pos (starEach es env)).any (·.1)=false∧(backTo pos (starEach es env)).all (fun x=>!x.1)=true:=by
 induction H with
 | nil=>exact ⟨rfl,rfl⟩
 | cons h1 _ _ ih=>rw [noStar h1]; simpa [backTo] using ih
theorem evalArgs_each {es:List PySem.Expr} {ms:E} {f:Value} {Q:Args→Shared→Prop} {s:Shared} (H:Each X k c es ms)
  (h:wpAny (model p X.w) A (spliced (backTo pos (starEach es env))) (fun vs s'=>Q ⟨vs,[]⟩ s') Ef s):wpAny (model p X.w) A (evalArgs f true (backTo pos (starEach es env)) []) Q Ef s:=by
 cases H with
 | nil=>
  have:backTo pos (starEach [] env)=[]:=rfl
  rw [this] at h ⊢
  show wpAny (model p X.w) A (spliced [] >>= _) Q Ef s
  exact wpAny_bind (wpAny_mono h (fun vs s' h'=>wpAny_bind (wpAny_pure (wpAny_holding (wpAny_bind (wpAny_pure (wpAny_bind (wpAny_pure (wpAny_pure h')))))))) fun _ _ x=>x)
 | cons h1 h2 H=>
  rw [noStar h1] at h ⊢
  exact evalArgs_plain h
theorem args_go {es:List PySem.Expr} {ms:E} {us₀:List Value} (H:Each X k c es ms) (S:St X k A c env fr z) (hw:wE X.T (callN X.T k) ms fr Q z.σ)
  (h:∀ vs us z',Q (.tup vs) z'.σ→Tr X X0 z z'→VRs X.w z'.κ vs us→Kp X z'.h x∧wpAny (model p X.w) A (call x (us₀++us) []) Qc Ef (z'.s s₀)) :
  wpAny (model p X.w) A (callWith pos x us₀ (backTo pos (starEach es env)) []) Qc Ef (z.s s₀):=
 callWith_of (P:=fun h=>Kp X h x) (by rw [(each_any H pos env).1]; rfl) (fun _ q=>q) (evalArgs_each H (each_go H S hw fun vs us z' hq _ t rs=>h vs us z' hq t rs))
theorem with_go (OK:CallOK X k) {es:List PySem.Expr} {ms:E} (H:Each X k c es ms) {fs:List NV} {us₀:List Value} (S:St X k A c env fr z) (rv:VR X.w z.κ v x) (rf:VRs X.w z.κ fs us₀)
  (hw:wE X.T (callN X.T k) ms fr (fun t σ=>argK (fun vs=>apK X.T (callN X.T k) v (fs++vs) Q σ) t) z.σ) (hk:Post X Q z s₀ Qc) :
  wpAny (model p X.w) A (callWith pos x us₀ (backTo pos (starEach es env)) []) Qc Ef (z.s s₀):=
 args_go H S hw fun vs us z' hw t rs=>⟨callable t.R (rv.go t) hw,OK S.rm t.R (rv.go t) ((rs.append (rf.go t))) hw (hk.step t)⟩
theorem se_ca (OK:CallOK X k) {f:PySem.Expr} {es:List PySem.Expr} {mf ms:E} {q':Pos} (hn:isName f=true) (hf:SE X k c f mf) (H:Each X k c es ms):SE X k c (.Call f es [] q') (.ca mf ms):=fun _ _ _ _ _ _ _ S hw hk=>by
 obtain ⟨⟩:=f <;> first | cases hn; done | skip
 rw [arm_eval_Call_Name']
 exact wpAny_bind (hf S hw fun v x z₁ hw t r=>with_go OK (fs:=[]) (us₀:=[]) H (S.go t) r .nil hw (hk.step t))
theorem AllF.fput {w:World} {κ κ':Ka} {v:NV} {P:Nat→Prop} {f:Nat} {ks:List Nat} {l:List NV} {es:List DictEntry} (le:Le κ κ') (hb:∀ b,P b→VR w κ' v (.ref b)) (r:VFs w κ ks l es):∀ {K:List Nat→List NV→Prop},fldK (diK P) False f ks l→fput f v K ks l→∃ ks' l',K ks' l'∧VFs w κ' ks' l' es:=by
 induction r with
 | nil=>exact fun h _=>h.elim
 | @cons k x e ks l es t hk hl a r ih=>
  intro K h h2
  have h:(match Nat.beq k f with | true=>diK P x | false=>fldK (diK P) False f ks l):=h
  have h2:(match Nat.beq k f with | true=>K (k :: ks) (v :: l) | false=>Mine.fput f v (fun ks' l'=>K (k :: ks') (x :: l')) ks l):=h2
  cases q:Nat.beq k f with
  | true=>
   rw [q] at h h2
   obtain ⟨b,rfl,h⟩:∃ b,x=.di b∧P b:=by
    induction x using NV.casesOn with
    | di b=>exact ⟨b,rfl,h⟩
    | _=>exact h.elim
   exact ⟨_,_,h2,.cons t hk hl (by rw [a.di_inv]; exact hb b h) (AllF.mono le r)⟩
  | false=>
   rw [q] at h h2
   obtain ⟨ks',l',h3,h4⟩:=ih h h2
   exact ⟨_,_,h3,.cons t hk hl (a.mono le) h4⟩
theorem fldK_and {Y Y':NV→Prop} {f:Nat}:∀ {ks:List Nat} {l:List NV},fldK Y False f ks l→∃ x,Y x∧∀ Y',Y' x→fldK Y' False f ks l
 | [],[],h=>h.elim
 | k :: ks,x :: l,h=>by
  have h:(match Nat.beq k f with | true=>Y x | false=>fldK Y False f ks l):=h
  cases q:Nat.beq k f with
  | true=>rw [q] at h; exact ⟨x,h,fun Y' h'=>by show (match Nat.beq k f with | true=>Y' x | false=>fldK Y' False f ks l); rw [q]; exact h'⟩
  | false=>
   rw [q] at h
   obtain ⟨x',h1,h2⟩:=fldK_and (Y':=Y') h
   exact ⟨x',h1,fun Y' h'=>by show (match Nat.beq k f with | true=>Y' x | false=>fldK Y' False f ks l); rw [q]; exact h2 Y' h'⟩
theorem freeI {a c:Nat} {ks:List Nat} {l:List NV} {σ':NH} (R:Rel X.w X.h₀ z) (h:z.σ.at (.d a)=some (.I c ks l)) (e1:σ'.at (.d a)=none) (e2:∀ s,s≠.d a→σ'.at s=z.σ.at s) :
  ∃ κ' d es m,Tr X X0 z ⟨z.h,z.t,σ',κ'⟩∧κ' a=.fz (inO c d)∧κ' d=.fz (diO es m)∧VFs X.w z.κ ks l es∧okc c=true:=by
 obtain ⟨e,ok,nd,d,es,m,g,q,g2,rs⟩:=R.atD h
 obtain ⟨R',g'⟩:=R.free (t:=z.t) e (.inr q) g g2 e1 e2 fun ed=>by rw [ed,e] at q; cases q
 have ne:d≠a:=fun ed=>by rw [ed,e] at q; cases q
 exact ⟨_,d,es,m,⟨R',g'⟩,if_pos rfl,by unfold kfr; rw [if_neg ne,if_pos rfl],rs,ok⟩
theorem frz_ok {f:Nat} (R:Rel X.w X.h₀ z) (r:VR X.w z.κ v x) (hw:frz f v Q z.σ):∃ v' σ' κ',Q v' σ'∧Tr X X0 z ⟨z.h,z.t,σ',κ'⟩∧VR X.w κ' v' x:=by
 induction v using NV.casesOn with
 | dl a=>
  obtain ⟨o,e,hw⟩:=opK_inv hw
  obtain ⟨l,rfl,hq⟩:=obL_inv hw
  obtain ⟨e1,sz,us,m,g,rs⟩:=R.atD (a:=a) e
  obtain ⟨R',g'⟩:=R.free (t:=z.t) (d:=a) e1 (.inl rfl) g g dput_at.1 dput_at.2 fun _ c ks l h=>by rw [show z.σ.at (.d a)=_ from e] at h; cases h
  exact ⟨_,_,_,hq,⟨R',g'⟩,by rw [r.dl_inv]; exact .fl (if_pos rfl) (rs.mono g'.le) sz⟩
 | di a=>
  cases q:Nat.beq f 90 with
  | true=>
   have hw:(match Nat.beq f 90 with | true=>opK (obI fun c ks l=>Q (.fi c ks l) (z.σ.dput a none)) (z.σ.dyn a) | false=>_):=hw
   simp only [q] at hw
   obtain ⟨o,e,hw⟩:=opK_inv hw
   obtain ⟨c,ks,l,rfl,hq⟩:=obI_inv hw
   obtain ⟨κ',d,es,m,t,k1,k2,rs,ok⟩:=freeI R (a:=a) e dput_at.1 dput_at.2
   exact ⟨_,_,_,hq,t,by rw [r.di_inv]; exact .fi k1 k2 (rs.mono t.g.le) ok⟩
  | false=>
   have hw:(match Nat.beq f 90 with | true=>_ | false=>opK (obI fun c ks l=>fldK (diK fun b=>opK (obI fun c2 ks2 l2=>fput f (.fi c2 ks2 l2) (fun ks l=>Q (.fi c ks l) ((z.σ.dput a none).dput b none)) ks l) (z.σ.dyn b)) False f ks l) (z.σ.dyn a)):=hw
   simp only [q] at hw
   obtain ⟨o,e,hw⟩:=opK_inv hw
   obtain ⟨c,ks,l,rfl,hw⟩:=obI_inv hw
   obtain ⟨x',hx,back⟩:=fldK_and (Y':=fun _=>True) hw
   obtain ⟨b,rfl,hx⟩:∃ b,x'=.di b∧opK (obI fun c2 ks2 l2=>fput f (.fi c2 ks2 l2) (fun ks l=>Q (.fi c ks l) ((z.σ.dput a none).dput b none)) ks l) (z.σ.dyn b):=by
    induction x' using NV.casesOn with
    | di b=>exact ⟨b,rfl,hx⟩
    | _=>exact hx.elim
   obtain ⟨o,e',hx⟩:=opK_inv hx
   obtain ⟨c2,ks2,l2,rfl,hx⟩:=obI_inv hx
   have bk:fldK (diK fun b'=>b'=b) False f ks l:=back _ rfl
   have d2:∀ s,s≠.d a→s≠.d b→((z.σ.dput a none).dput b none).at s=z.σ.at s:=fun s n1 n2=>(dput_at.2 s n2).trans (dput_at.2 s n1)
   have d1:((z.σ.dput a none).dput b none).at (.d a)=none:=by
    by_cases ab:a=b
    ·rw [ab]; exact dput_at.1
    ·exact (dput_at.2 _ fun h=>ab (by cases h; rfl)).trans dput_at.1
   by_cases ab:a=b
   ·subst ab
    obtain ⟨κ',d,es,m,t,k1,k2,rs,ok⟩:=freeI (σ':=(z.σ.dput a none).dput a none) R (a:=a) e d1 fun s n=>d2 s n n
    have e2:=e'.symm.trans e
    cases e2
    obtain ⟨ks',l',hq,rs'⟩:=AllF.fput (v:=.fi c ks l) t.g.le (fun b' hb=>by rw [hb]; exact .fi k1 k2 (rs.mono t.g.le) ok) rs bk hx
    exact ⟨_,_,_,hq,t,by rw [r.di_inv]; exact .fi k1 k2 rs' ok⟩
   ·obtain ⟨κ',d,es,m,t,k1,k2,rs,ok⟩:=freeI R (a:=b) e' dput_at.1 dput_at.2
    have ea:(z.σ.dput b none).at (.d a)=some (.I c ks l):=(dput_at.2 _ fun h=>ab (by cases h; rfl)).trans e
    obtain ⟨κ₂,d',es',m',t',k3,k4,rs',ok'⟩:=freeI (σ':=(z.σ.dput a none).dput b none) t.R ea d1 fun s n=>by
     by_cases sb:s=.d b
     ·rw [sb]; exact dput_at.1.trans dput_at.1.symm
     ·exact (d2 s n sb).trans (dput_at.2 s sb).symm
    obtain ⟨ks',l',hq,rs₂⟩:=AllF.fput (v:=.fi c2 ks2 l2) t'.g.le (fun b' hb=>by rw [hb]; exact .fi (t'.g.le.fz _ _ k1) (t'.g.le.fz _ _ k2) ((rs.mono t.g.le).mono t'.g.le) ok) rs' bk hx
    exact ⟨_,_,_,hq,t.trans t',by rw [r.di_inv]; exact .fi k3 k4 rs₂ ok'⟩
 | _=>exact hw.elim
theorem Post.frz {f:Nat} (hk:Post X Q z s₀ Qc):Post X (fun v σ=>frz f v Q σ) z s₀ Qc:=fun v u z' hw t r=>by
 obtain ⟨v',σ',κ',hq,t',r'⟩:=frz_ok t.R r hw
 exact hk _ _ ⟨z'.h,z'.t,σ',κ'⟩ hq (t.trans t') r'
theorem se_fz {f:Nat} {e:PySem.Expr} {m:E} (h:SE X k c e m):SE X k c e (.fz f m):=fun _ _ _ _ _ _ _ S hw hk=>h S hw hk.frz
theorem se_nw (OK:CallOK X k) {f:PySem.Expr} {es:List PySem.Expr} {mf ms:E} {q':Pos} (hn:isName f=true) (hf:SE X k c f mf) (H:Each X k c es ms):SE X k c (.Call f es [] q') (.nw mf ms):=fun _ _ _ _ _ _ _ S hw hk=>by
 obtain ⟨⟩:=f <;> first | cases hn; done | skip
 rw [arm_eval_Call_Name']
 refine wpAny_bind (hf S hw fun v x z₁ hw t r=>args_go (us₀:=[]) H (S.go t) hw fun vs us z₂ hw t₂ rs=>?_)
 induction v using NV.casesOn with
 | cls a=>
  have hw:apK X.T (callN X.T k) (.cls a) vs (fun v σ=>frz 90 v _ σ) z₂.σ:=hw
  exact ⟨callable t₂.R (r.go t₂) hw,OK S.rm t₂.R (r.go t₂) rs hw (hk.step (t.trans t₂)).frz⟩
 | _=>exact hw.elim
end
end
section
theorem lastK_inv {K:NV→List NV→Prop}:∀ {l:List NV},lastK K l→∃ x xs,l=xs++[x]∧K x xs
 | [x],h=>⟨x,[],rfl,h⟩
 | x :: y :: l,h=>by
  obtain ⟨x',xs,e,h⟩:=lastK_inv (l:=y :: l) h
  exact ⟨x',x :: xs,by rw [e]; rfl,h⟩
set_option tactic.hygienic true in
theorem wLm_inv {m:Nat} {a:NV} {vs:List NV} {Q:Po} {σ:NH} (h:wLm m a vs Q σ) :
  (m=83∧∃ v,vs=[v]∧getL σ (fun xs=>xs.length < cap∧setL σ (xs++[v]) (fun σ=>Q .none σ) a) a) ∨
  (m=84∧vs=[]∧getL σ (lastK fun x xs=>setL σ xs (fun σ=>Q x σ) a) a) ∨
  (m=84∧vs=[.int 0]∧getL σ (headK fun x xs=>setL σ xs (fun σ=>Q x σ) a) a) ∨
  (m=85∧∃ l,vs=[.fl l]∧getL σ (fun xs=>xs.length+l.length≤cap∧setL σ (xs++l) (fun σ=>Q .none σ) a) a):=by
 unfold wLm at h
 split at h
 ·exact .inl ⟨rfl,_,rfl,h⟩
 ·exact .inr (.inl ⟨rfl,rfl,h⟩)
 ·obtain ⟨i,rfl,rfl,h2⟩:=onI_inv h
  exact .inr (.inr (.inl ⟨rfl,rfl,h2⟩))
 ·rename_i b
  induction b using NV.casesOn with
  | fl l=>exact .inr (.inr (.inr ⟨rfl,l,rfl,h⟩))
  | _=>obtain ⟨_,_,q⟩:=getL_inv h; exact q.elim
 ·exact h.elim
section
variable {X:Cx} {k:Nat} {A:Around} {c:TC} {env:Env} {fr:Fr} {z z':Z} {s₀:Shared} {Q:Po} {Qc:Value→Shared→Prop} {v u:NV} {x y:Value} {q pos:Pos} {vs:List NV} {us:List Value}
theorem turnL {K:List NV→Prop} {C:Value→Prop} (R:Rel X.w X.h₀ z) (r:VR X.w z.κ v x) (h:getL z.σ K v) (kk:∀ {l:List NV} {a:Addr} {us:List Value} {m:Nat},K l→z.h.get? a=some (liO us m)→VRs X.w z.κ l us→l.length≤cap →
  (∀ {l':List NV} {us':List Value} {K':NH→Prop} {D:Prop} (f:Array Value→Array Value),setL z.σ l' K' v→f us.toArray=us'.toArray→VRs X.w z.κ l' us'→l'.length≤cap→(∀ σ',K' σ'→(∀ t,Tr X X0 z ⟨z.h.update a (Obj.mapSeq f),t,σ',z.κ⟩)→D)→D)→C (.ref a)):C x:=by
 obtain ⟨l,L,h⟩:=getL_inv h
 obtain ⟨a,us,m,rfl,g,rs,sz,hs⟩:=L.at R r
 refine kk h g rs sz fun {l' us' K' D} f hs' hf rs' sz' kd=>?_
 obtain ⟨s,σ',es,e1,e2,hq⟩:=setL_inv L hs'
 have k12:=hs s es
 have g':∃ n',(z.h.update a (Obj.mapSeq f)).get? a=some (liO us' n'):=by
  have o:∃ n',(liO us m).mapSeq f=liO us' n':=⟨_,by unfold liO; rw [← hf]; rfl⟩
  exact o.imp fun n' o=>by rw [Heap.get?_update_self _ g (by rw [o]; rfl),o]
 obtain ⟨n',g'⟩:=g'
 exact kd σ' hq fun t=>⟨(R.upd (t:=t) (x:=a) (b:=a) (.inl k12.1) k12.1 (fun b hb o q=>(Heap.get?_update_ne _ _ _ _ hb).trans q) (by rw [g']; rfl) e1 e2 (fun c ks l h=>by rw [k12.2] at h; exact nomatch h) ⟨sz',us',n',g',rs'⟩).1,(R.upd (t:=t) (x:=a) (b:=a) (.inl k12.1) k12.1 (fun b hb o q=>(Heap.get?_update_ne _ _ _ _ hb).trans q) (by rw [g']; rfl) e1 e2 (fun c ks l h=>by rw [k12.2] at h; exact nomatch h) ⟨sz',us',n',g',rs'⟩).2⟩
theorem el0 {R:NV→Value→Prop} {C:List Value→Prop} (r:All2 R [] us) (k:C []):C us:=by
 rcases r with _ | _
 exact k
theorem el1 {R:NV→Value→Prop} {C:List Value→Prop} {v:NV} (r:All2 R [v] us) (k:∀ u,R v u→C [u]):C us:=by
 rcases r with _ | ⟨h,_ | _⟩
 exact k _ h
theorem elC {R:NV→Value→Prop} {C:List Value→Prop} {v:NV} {vs:List NV} (r:All2 R (v :: vs) us) (k:∀ u us,R v u→All2 R vs us→C (u :: us)):C us:=by
 rcases r with _ | ⟨h,r⟩
 exact k _ _ h r
theorem cap_sz {us:List Value} {l:List NV} {R:NV→Value→Prop} (r:All2 R l us) (h:l.length≤cap):us.toArray.size≤sizeLine:=by
 rw [List.size_toArray,← r.length]
 exact Nat.le_trans h (by decide)
noncomputable def lmN:Nat→String
 | 83 => "append"
 | 84 => "pop"
 | _ => "extend"
theorem listM {m:Nat} (R:Rel X.w X.h₀ z) (rv:VR X.w z.κ v x) (rs:VRs X.w z.κ vs us) (hw:wLm m v vs Q z.σ) (hk:Post X Q z s₀ Qc) :
  wpAny (model p X.w) A (call (.builtin ("list." ++lmN m)) (x :: us) []) Qc Ef (z.s s₀):=by
 rcases wLm_inv hw with ⟨rfl,v',rfl,h1⟩ | ⟨rfl,rfl,h1⟩ | ⟨rfl,rfl,h1⟩ | ⟨rfl,l',rfl,h1⟩
 ·refine turnL (C:=fun x=>wpAny (model p X.w) A (call _ (x :: us) []) Qc Ef (z.s s₀)) R rv h1 fun {l a ys n} hs g r sl turn=>?_
  refine el1 (C:=fun us=>wpAny (model p X.w) A (call (.builtin ("list." ++lmN 83)) (.ref a :: us) []) Qc Ef (z.s s₀)) rs fun w r1=>?_
  refine call_meets (s:=z.s s₀) PySem.F.slot_list_append ⟨_,g,rfl⟩ PySem.F.entry_list_append (PySem.F.args_list_append_2 _ _) (AutoListH.list_append_list_val_0 a ys.toArray n _ (cap_sz r sl)) ⟨g,?_⟩
  exact turn (us':=ys++[w]) (fun z=>z.push w) hs.2 (by simp) (All2.append (.cons r1 .nil) r) (by rw [List.length_append]; exact hs.1) fun σ' hq t=>hk _ _ ⟨_,_,_,_⟩ hq (t _) .none
 ·refine turnL (C:=fun x=>wpAny (model p X.w) A (call _ (x :: us) []) Qc Ef (z.s s₀)) R rv h1 fun {l a ys n} hl g r sz turn=>?_
  refine el0 (C:=fun us=>wpAny (model p X.w) A (call (.builtin ("list." ++lmN 84)) (.ref a :: us) []) Qc Ef (z.s s₀)) rs ?_
  obtain ⟨x,xs,rfl,hs⟩:=lastK_inv hl
  have cc:=cap_sz r sz
  obtain ⟨us,ws,rfl,rx,r2⟩:=r.split
  obtain ⟨y,rfl,ry⟩:=el1 (C:=fun ws=>∃ y,ws=[y]∧VR X.w z.κ x y) r2 fun y ry=>⟨y,rfl,ry⟩
  refine call_meets (s:=z.s s₀) PySem.F.slot_list_pop ⟨_,g,rfl⟩ PySem.F.entry_list_pop (PySem.F.args_list_pop_1 _) (MeetsSeq.list_pop_last a (us++[y]).toArray n y (by simp) cc) ⟨g,?_⟩
  exact turn (us':=us) (fun z=>z.eraseIdxIfInBounds ((us++[y]).toArray.size - 1)) hs (by simp [List.eraseIdx_append_of_length_le]) rx (Nat.le_trans (by rw [List.length_append]; exact Nat.le_add_right _ _) sz) fun σ' hq t=>hk _ _ ⟨_,_,_,_⟩ hq (t _) ry
 ·refine turnL (C:=fun x=>wpAny (model p X.w) A (call _ (x :: us) []) Qc Ef (z.s s₀)) R rv h1 fun {l a ys n} hl g r sz turn=>?_
  refine el1 (C:=fun us=>wpAny (model p X.w) A (call (.builtin ("list." ++lmN 84)) (.ref a :: us) []) Qc Ef (z.s s₀)) rs fun w r1=>?_
  rcases l with _ | ⟨x,xs⟩
  ·exact hl.elim
  ·obtain ⟨t,rfl⟩:=r1.int_inv
   have cc:=cap_sz r sz
   obtain ⟨y,us,rfl,ra,rb⟩:=elC (C:=fun ws=>∃ y us,ws=y :: us∧VR X.w z.κ x y∧VRs X.w z.κ xs us) r fun y us ra rb=>⟨y,us,rfl,ra,rb⟩
   refine call_meets (s:=z.s s₀) PySem.F.slot_list_pop ⟨_,g,rfl⟩ PySem.F.entry_list_pop (PySem.F.args_list_pop_2 _ _) (MeetsSeq.list_pop_at a (y :: us).toArray n 0 t 0 y (by decide) (by unfold seqIndex?; simp) (by simp) cc) ⟨g,?_⟩
   exact turn (us':=us) (fun z=>z.eraseIdxIfInBounds 0) hl (by simp) rb (Nat.le_of_succ_le sz) fun σ' hq t=>hk _ _ ⟨_,_,_,_⟩ hq (t _) ra
 ·refine turnL (C:=fun x=>wpAny (model p X.w) A (call _ (x :: us) []) Qc Ef (z.s s₀)) R rv h1 fun {l a ys n} hs g r sl turn=>?_
  refine el1 (C:=fun us=>wpAny (model p X.w) A (call (.builtin ("list." ++lmN 85)) (.ref a :: us) []) Qc Ef (z.s s₀)) rs fun w r1=>?_
  obtain ⟨b,us₂,n₂,rfl,g₂,r₂,sz₂,_⟩:=(LS.fl (σ:=z.σ) (l:=l')).at R r1
  have cs:cap+cap≤sizeLine:=by decide
  have cc:ys.toArray.size+us₂.toArray.size≤sizeLine:=by rw [List.size_toArray,List.size_toArray,← r.length,← r₂.length]; exact Nat.le_trans (Nat.add_le_add sl sz₂) cs
  refine call_meets (s:=z.s s₀) PySem.F.slot_list_extend ⟨_,g,rfl⟩ PySem.F.entry_list_extend (PySem.F.args_list_extend_2 _ _) (AutoSeq1.list_extend_list_list_0 a ys.toArray n b us₂.toArray n₂ (extend_door cc) (Nat.le_trans (Nat.le_add_right _ _) cc) (Nat.le_succ_of_le cc)) ⟨g,g₂,?_⟩
  exact turn (us':=ys++us₂) (fun z=>z++us₂.toArray) hs.2 (by simp) (All2.append r₂ r) (by rw [List.length_append]; exact hs.1) fun σ' hq t=>hk _ _ ⟨_,_,_,_⟩ hq (t _) .none
theorem meth_eq {o:PySem.Expr} {name:Str} {apos:Pos} {es:List PySem.Expr} {ms:E} (H:Each X k c es ms) (h1:okBase o=true) (h2:apos.endLine=pos.line) (h3:es.length < 30) :
  eval (.Call (.Attribute o name apos) es [] pos) env=(do
   let ov ← eval o env
   standAt apos.atName
   let (f,first) ← holding [ov] (getMethod ov name (do return (← importBound o env).getD true))
   callWith pos f first (backTo pos (starEach es env)) (backToKw pos (keywordEach [] env))):=by
 rw [arm_eval_Call,base_of h1]
 have form:methodCallForm (es.length+([]:List Keyword).length) (backTo pos (starEach es env)) (backToKw pos (keywordEach [] env))=true:=by
  unfold methodCallForm
  rw [(each_any H pos env).2]
  simp [backToKw,keywordEach]
  lia
 have cp:methodCallPos true o env apos pos=pure pos:=by unfold methodCallPos; simp [h2]
 unfold methodCall
 rw [form,cp]
 rfl
theorem aS_lm:aS 83=Str.ofString "append" ∧ aS 84=Str.ofString "pop" ∧ aS 85=Str.ofString "extend" := ⟨rfl,rfl,rfl⟩
theorem isLm_inv {m:Nat} (h:isLm m=true):m=83∨m=84∨m=85:=by
 unfold isLm at h
 cases q:Nat.ble 83 m with
 | false=>rw [q] at h; cases h
 | true=>
  cases q2:Nat.ble m 85 with
  | false=>rw [q,q2] at h; cases h
  | true=>
   have:=Nat.le_of_ble_eq_true q
   have:=Nat.le_of_ble_eq_true q2
   lia
theorem list_meth {a:Addr} {us:List Value} {n m:Nat} {pl:Sem Bool} {Qc:Value × List Value→Shared→Prop} {s:Shared} (g:s.heap.get? a=some (liO us n)) (hm:isLm m=true) (h:Qc (.builtin ("list." ++lmN m),[.ref a]) s) :
  wpAny (model p X.w) A (getMethod (.ref a) (aS m) pl) Qc Ef s:=by
 have dn:∀ b,Value.ref a=.ref b→∃ o,s.heap.get? b=some o∧o.dict=none:=fun b q=>by cases q; exact ⟨_,g,rfl⟩
 rcases isLm_inv hm with rfl | rfl | rfl
 ·rw [aS_lm.1]; exact getMethod_builtin ⟨_,g,rfl⟩ PySem.F.plainAttrs_list PySem.F.slot_list_append PySem.F.type_list_append dn h
 ·rw [aS_lm.2.1]; exact getMethod_builtin ⟨_,g,rfl⟩ PySem.F.plainAttrs_list PySem.F.slot_list_pop PySem.F.type_list_pop dn h
 ·rw [aS_lm.2.2]; exact getMethod_builtin ⟨_,g,rfl⟩ PySem.F.plainAttrs_list PySem.F.slot_list_extend PySem.F.type_list_extend dn h
theorem se_mt (OK:CallOK X k) {o:PySem.Expr} {m:Nat} {apos:Pos} {es:List PySem.Expr} {mo ms:E} (h1:okBase o=true) (h2:apos.endLine=pos.line) (h3:es.length < 30) (hl:m < 90) (ho:SE X k c o mo) (H:Each X k c es ms) :
  SE X k c (.Call (.Attribute o (aS m) apos) es [] pos) (.mt mo m ms):=fun A env fr Q Qc z s₀ S hw hk=>by
 refine methodCall_KW (pl:=do return (← importBound o env).getD true) (ho S hw fun v x z₁ hw t r=>?_) (meth_eq H h1 h2 h3)
 have hk:=hk.step t
 have S:=S.go t
 have hw:(match isLm m with
  | true=>getL z₁.σ (fun _=>wE X.T (callN X.T k) ms fr (fun t σ=>argK (fun vs=>wLm m v vs Q σ) t) z₁.σ) v
  | false=>getI z₁.σ (fun c ks l=>fldK (fun u=>bK (wE X.T (callN X.T k) ms fr (fun t σ=>argK (fun vs=>apK X.T (callN X.T k) u vs Q σ) t) z₁.σ) (fOk c m)) (opK (fun i=>wE X.T (callN X.T k) ms fr (fun t σ=>argK (fun vs=>callN X.T k i (v :: vs) Q σ) t) z₁.σ) (X.T.mth c m)) m ks l) v):=hw
 cases hm:isLm m with
 | true=>
  rw [hm] at hw
  obtain ⟨l,L,hw⟩:=getL_inv hw
  obtain ⟨a,us,n,rfl,g,_⟩:=L.at t.R r
  refine list_meth (s:=z₁.s s₀) g hm ?_
  exact args_go (us₀:=[.ref a]) H S hw fun vs us z₂ hw t₂ rs=>⟨⟨.machine,.inr (.inl rfl),.now⟩,listM t₂.R (r.go t₂) rs hw (hk.step t₂)⟩
 | false=>
  rw [hm] at hw
  refine getI_C hw fun {cc ks l} I hw=>?_
  refine I.atC (C:=fun x=>wpAny (model p X.w) _ (getMethod x (aS m) _) _ Ef (z₁.s _)) t.R r fun {a d ens n} ok g g2 rs hs r=>?_
  have C:=ClsK.of (X.kok cc ok)
  have Ia:InstAt z₁.h a (inO cc d) cc (some (dictOf ens n)):=⟨g,rfl,rfl,g2⟩
  rcases fld_at hl rs hw with ⟨u,y,hw,ry,e⟩ | ⟨hw,e⟩
  ·obtain ⟨fo,hw⟩:=bK_inv hw
   have hm:=X.fok cc m fo
   refine method_usual (s:=z₁.s s₀) (kin t.R) Ia C.get C.nog (C.fld m hl hm) rfl ?_
   have t₁:Tr X X0 z₁ ⟨z₁.h,z₁.t+1,z₁.σ,z₁.κ⟩:=.grow t.R fun _ _ h=>h
   exact attr_get hl t.R rfl ok g g2 hm e ry.handed (with_go OK (fs:=[]) (us₀:=[]) H (S.go t₁) ry .nil hw (hk.step t₁))
  ·obtain ⟨i,hm,hw⟩:=opK_inv hw
   have z0:=C.mth m hl i hm
   refine method_fn (s:=z₁.s s₀) (kin t.R) Ia C.get C.nog z0.1 (beq_iff_eq.mp z0.2.1) (by show (lookIn _ (dictOf ens n)).map _=_; rw [lookIn_dict,e]; rfl) ?_
   exact with_go OK (v:=.fn i) (fs:=[v]) (us₀:=[.ref a]) H S (.fn z0.2.2.2.2.2.2) (.cons r .nil) hw hk
end
end
section
noncomputable def biVal:Bi→Value
 | .len=>.builtin "len" | .abs=>.builtin "abs" | .str=>.type "str" | .int=>.type "int" | .list _=>.type "list" | .any=>.builtin "any" | .isstr=>.builtin "isinstance"
noncomputable def itVal:IK→Value
 | .enum=>.type "enumerate"
 | _=>.type "range"
structure IsB (x:Str) (v:Value):Prop where
 pl:x∈plainNames
 bt:bootBuiltins x=some v
 nm:x≠("__name__" : Str)
 db:(x==("__debug__" : Str))=false
theorem bi_b (b:Bi):IsB (Str.ofString (biN b)) (biVal b):=by
 induction b using Bi.casesOn with
 | list q=>exact show IsB (Str.ofString "list") (.type "list") from ⟨by decide+kernel,by decide+kernel,by decide+kernel,by decide+kernel⟩
 | _=>exact ⟨by decide+kernel,by decide+kernel,by decide+kernel,by decide+kernel⟩
theorem it_b (g:IK):IsB (Str.ofString (itN g)) (itVal g):=by
 obtain ⟨⟩:=g <;> exact ⟨by decide+kernel,by decide+kernel,by decide+kernel,by decide+kernel⟩
theorem str_b:IsB "str" (.type "str"):=bi_b .str
theorem dig_ok:((List.range 3).all fun n=>Str.ofString (toString (n:Int))==tb n&&PySem.intText? (tb n)==some (n:Int)&&decide ((tb n).length≤640)&&decide (n < tab.length)&&decide ((Int.natAbs n).log2 < 1920))=true:=by decide+kernel
theorem isB_inv {w:World} {κ:Ka} {l:List NV} {us:List Value} (r:VRs w κ l us):∀ {b:Bool},isB l=some b→∃ bs:List Bool,us=bs.map .bool∧b=bs.any id:=by
 induction r with
 | nil=>exact fun h=>⟨[],rfl,by obtain rfl:=Option.some.inj h; rfl⟩
 | @cons x v l us r _ ih=>
  intro b h
  induction x using NV.casesOn with
  | bool t=>
   rw [r.bool_inv]
   induction t using Bool.casesOn with
   | true=>
    obtain ⟨b',h',rfl⟩:=Option.map_eq_some_iff.mp (show (isB l).map (fun _=>true)=some b from h)
    obtain ⟨bs,e,_⟩:=ih h'
    exact ⟨true :: bs,by rw [e]; rfl,rfl⟩
   | false=>
    obtain ⟨bs,e,e'⟩:=ih (show isB l=some b from h)
    exact ⟨false :: bs,by rw [e]; rfl,e'⟩
  | _=>cases h
section
variable {X:Cx} {k:Nat} {A:Around} {c:TC} {env:Env} {fr:Fr} {z z':Z} {s₀:Shared} {Q:Po} {Qc:Value→Shared→Prop} {v u:NV} {x y:Value} {q pos:Pos} {vs:List NV} {us:List Value}
theorem name_b {f:Str} {b:Value} (B:IsB f b) (E:EnvS c env) (R:Rel X.w X.h₀ z) (hg:c.kd f=some .globalImplicit) (h:Qc b (z.s s₀)):wpAny (model p X.w) A (eval (.Name f q) env) Qc Ef (z.s s₀):=by
 refine wpAny_Name ?_ B.db
 exact (loadName_read E.kind ((E.kd f).trans hg)).symm▸loadGlobal_builtin (by rw [E.glo]; exact X.hg.keeps R.keep0) (X.hgn f B.pl) (by rw [E.bui]; exact X.hb.keeps R.keep0) ((X.hbv f B.nm).trans B.bt) h
theorem any_bs (bs:List Bool) {n:Nat} (hn:n=bs.length):((List.range n).any fun i=>(bs[i]?).getD false)=bs.any id:=by
 subst hn
 rw [Bool.eq_iff_iff,List.any_eq_true,List.any_eq_true]
 constructor
 ·rintro ⟨i,hi,h⟩
  rw [List.getElem?_eq_getElem (List.mem_range.1 hi)] at h
  exact ⟨_,List.getElem_mem _,h⟩
 ·rintro ⟨b,hb,h⟩
  obtain ⟨i,hi,q⟩:=List.getElem_of_mem hb
  exact ⟨i,List.mem_range.2 hi,by rw [List.getElem?_eq_getElem hi,q]; exact h⟩
theorem bi_go {b:Bi} (hne:biS b=false) (rm:Room A k) (R:Rel X.w X.h₀ z) (r:VR X.w z.κ v x) (hw:biV b v Q z.σ) (hk:Post X Q z s₀ Qc):wpAny (model p X.w) A (call (biVal b) [x] []) Qc Ef (z.s s₀):=by
 have:=c63
 induction b using Bi.casesOn with
 | len=>
  refine getL_C hw fun {l} L hq=>L.atC (C:=fun x=>wpAny (model p X.w) A (call (biVal _) [x] []) Qc Ef (z.s s₀)) R r fun {a us m} g rs sz=>?_
  refine call_len_list (s:=z.s s₀) ⟨_,g,rfl,m,rfl⟩ (by rw [List.size_toArray,← rs.length]; lia) ?_
  rw [List.size_toArray,← rs.length]
  exact hk.tick R hq (.int _ _)
 | abs=>
  obtain ⟨i,rfl,hq⟩:=onI_inv hw
  obtain ⟨t,rfl⟩:=r.int_inv
  refine call_abs_int fun u tk=>?_
  exact (show (if i < 0 then -i else i)=(i.natAbs:Int) by split <;> lia).symm▸hk.tick R hq (.int _ _)
 | str=>
  obtain ⟨i,rfl,hw⟩:=onI_inv hw
  obtain ⟨t,rfl⟩:=r.int_inv
  induction i using Int.casesOn with
  | negSucc n=>exact hw.elim
  | ofNat n=>
   have d:=List.all_eq_true.mp dig_ok n (List.mem_range.mpr (Nat.lt_succ_of_le (Nat.le_of_ble_eq_true hw.1)))
   simp only [Bool.and_eq_true,beq_iff_eq,decide_eq_true_eq] at d
   have e:Str.ofString (toString (Int.ofNat n))=tb n:=d.1.1.1.1
   exact P.str_of_int d.2 (by rw [e]; exact hk.tick R hw.2 (.str _ d.1.2))
 | int=>
  obtain ⟨n,rfl,h1,hq⟩:∃ n,v=.str n∧Nat.ble n 2=true∧Q (.int n) z.σ:=by
   induction v using NV.casesOn with
   | str n=>exact ⟨n,rfl,hw⟩
   | _=>exact hw.elim
  obtain ⟨t,rfl,_⟩:=r.str_inv
  have d:=List.all_eq_true.mp dig_ok n (List.mem_range.mpr (Nat.lt_succ_of_le (Nat.le_of_ble_eq_true h1)))
  simp only [Bool.and_eq_true,beq_iff_eq,decide_eq_true_eq] at d
  exact KIN.call_text d.1.1.1.2 d.1.1.2 (hk.tick R hq (.int _ _))
 | list p'=>
  refine getL_C hw fun {l} L hq=>L.atC (C:=fun x=>wpAny (model p X.w) A (call (biVal _) [x] []) Qc Ef (z.s s₀)) R r fun {a us m} g rs sz=>?_
  exact call_list_seq (s:=z.s s₀) a (.inl rfl) g rfl rfl (fun h' c' k1 k2=>new_ok R k1 k2 rs sz hq hk) (by rw [List.size_toArray,← rs.length]; exact Nat.le_trans sz (by decide))
 | any=>
  refine getL_C hw fun {l} L hw=>L.atC (C:=fun x=>wpAny (model p X.w) A (call (biVal _) [x] []) Qc Ef (z.s s₀)) R r fun {a us m} g rs sz=>?_
  obtain ⟨b,e,hq⟩:=opK_inv hw
  obtain ⟨bs,rfl,rfl⟩:=isB_inv rs e
  have hl:(z.s s₀).heap.IsList a (bs.map Value.bool).toArray:=⟨_,g,rfl,m,rfl⟩
  have hI:=size_none z.h
  refine call_any_walk (wpAny_pyIter_list hl ⟨z.h.objs.size,[z.h.objs.size,a],[z.h.objs.size],(bs.map Value.bool).toArray.size,_,_,fun i=>(bs[i]?).getD false,rfl,
   Walks.list (A:=A.in1) (show A.in1.handled=none from rm.h) z.h.objs.size a (fun q=>by rw [← q,g] at hI; cases hI) (bs.map Value.bool).toArray,⟨⟨_,Heap.get?_push_size _ rfl,rfl,rfl⟩,hl.push _⟩,?_,fun h' tk hkeep=>?_⟩)
  ·intro i v s' Q' E' hP hq'
   simp only [List.getElem?_toArray,List.getElem?_map] at hP
   obtain ⟨b,hb,rfl⟩:=Option.map_eq_some_iff.mp hP
   simp only [hb,Option.getD_some] at hq'
   exact wpAny_truthy_bool hq'
  ·have t:Tr X X0 z ⟨h',tk,z.σ,z.κ⟩:=.grow R fun b o q=>hkeep b o (by simp only [List.mem_singleton]; intro e; rw [e,hI] at q; cases q) (Heap.get?_push_of_some _ q)
   exact (any_bs bs (n:=(bs.map Value.bool).toArray.size) (by rw [List.size_toArray,List.length_map])).symm▸hk _ _ ⟨_,_,_,_⟩ hq t (.bool _)
 | isstr=>cases hne
theorem wBi_inv {b:Bi} {σ:NH}:∀ {vs:List NV},wBi b vs Q σ→∃ v,vs=[v]∧biV b v Q σ
 | [v],h=>⟨v,rfl,h⟩
theorem biS_eq {b:Bi} (h:biS b=true):b=.isstr:=by
 induction b using Bi.casesOn <;> first | rfl | exact absurd h Bool.false_ne_true
set_option tactic.hygienic true in
theorem se_bu {b:Bi} {es:List PySem.Expr} {ms:E} {q':Pos} (hg:c.kd (Str.ofString (biN b))=some .globalImplicit) (hi:biS b=true→c.kd "str" = some .globalImplicit∧isOne ms=true) (H:Each X k c es ms) :
  SE X k c (.Call (.Name (Str.ofString (biN b)) q) (es++(match biS b with
  | true=>[.Name "str" q']
  | false=>[])) [] pos) (.bu b ms):=fun {A env fr Q Qc z s₀} S hw hk=>by
 rw [arm_eval_Call_Name']
 refine wpAny_bind (name_b (bi_b b) S.E.s S.R hg ?_)
 have hw:wE X.T (callN X.T k) ms fr (fun t σ=>argK (fun vs=>wBi b vs Q σ) t) z.σ:=hw
 cases hb:biS b with
 | false=>
  rw [List.append_nil]
  refine args_go (us₀:=[]) H S hw fun vs us z' hw t rs=>⟨⟨.machine,.inr (.inl rfl),by cases b <;> exact .now⟩,?_⟩
  obtain ⟨v,rfl,hw⟩:=wBi_inv hw
  exact el1 (C:=fun us=>wpAny (model p X.w) A (call (biVal b) us []) Qc Ef (z'.s s₀)) rs fun u r=>bi_go hb S.rm t.R r hw (hk.step t)
 | true=>
  obtain ⟨hs,ho⟩:=hi hb
  obtain rfl:=biS_eq hb
  rcases H with _ | ⟨h1,h2,_ | _⟩
  ·exact absurd ho Bool.false_ne_true
  ·rename_i e m _
   refine callWith_of (P:=fun _=>True) (by rw [List.singleton_append,noStar h1]; rfl) (fun h _=>⟨.machine,.inr (.inl rfl),.now⟩) ?_
   have e0:backTo pos (starEach ([e]++[.Name "str" q']) env)=(false,eval e env) :: backTo pos (starEach [.Name "str" q'] env):=by rw [List.singleton_append,noStar h1]; rfl
   show wpAny _ A (evalArgs _ true (backTo pos (starEach ([e]++[.Name "str" q']) env)) []) _ _ _
   rw [e0]
   refine evalArgs_plain ?_
   rw [← e0,List.singleton_append]
   refine wpAny_items_cons (h2 S hw fun v y z₁ hw t r=>?_) (noStar h1 _ _)
   refine wpAny_items_cons (name_b str_b S.E.s t.R hs (wpAny_items_nil ⟨trivial,?_⟩))
   induction v using NV.casesOn with
   | str n=>obtain ⟨tk,rfl,_⟩:=r.str_inv; exact call_isinstance_yes (Tx := "str") rfl (by with_unfolding_all rfl) isSubtype_str_str (hk _ _ z₁ hw t (.bool _))
   | int n=>obtain ⟨tk,rfl⟩:=r.int_inv; exact call_isinstance (isinstance_false_int (T := "str") rfl (by with_unfolding_all rfl) PySem.F.sub_int_str) ((hk.step t).tick t.R hw (.bool _))
   | _=>exact hw.elim
  ·exact absurd ho Bool.false_ne_true
theorem attr_set {f:Nat} {K:NH→Prop} {Qc:Unit→Shared→Prop} (R:Rel X.w X.h₀ z) (ro:VR X.w z.κ u x) (rv:VR X.w z.κ v y) (hw:setA z.σ f v K u) (hk:∀ z',K z'.σ→Tr X X0 z z'→Qc () (z'.s s₀)):wpAny (model p X.w) A (setAttr x (aS f) y) Qc Ef (z.s s₀):=by
 refine getI_C hw fun {cc ks l} I hw=>?_
 obtain ⟨fo,hw⟩:=bK_inv hw
 refine I.atC (C:=fun x=>wpAny (model p X.w) A (setAttr x (aS f) y) Qc Ef (z.s s₀)) R ro fun {a d es n} ok g g2 rs hs r=>?_
 have lt:=fOk_lt fo
 have hl:f < 90:=Nat.lt_trans lt (by decide)
 have C:=ClsK.of (X.kok cc ok)
 have XK:=kin R
 have Ia:InstAt (z.s s₀).heap a (inO cc d) cc (some (dictOf es n)):=⟨g,rfl,rfl,g2⟩
 have hfnd:=C.fld f hl (X.fok _ _ fo)
 refine set_plain (s:=z.s s₀) XK Ia C.set (osa_open (s:=⟨z.h,s₀.gens,s₀.drawn,z.t+1,s₀.os⟩) XK Ia C.over (r:=none) (by unfold takerIn; rw [hfnd]; rfl) fun b=>?_)
 obtain ⟨cd,hc,hd'⟩:=any_some C.hasd
 have D:(Shared.mk z.h s₀.gens s₀.drawn (z.t+1) s₀.os).heap.get? d=some (diO es n):=g2
 refine wpAny_bind (wpAny_pure (wpAny_bind (wpAny_bind (wpAny_loadPart Ia.at_ (wpAny_bind (Looks.here (s:=⟨z.h,s₀.gens,s₀.drawn,z.t+1,s₀.os⟩) (looks_clsIn XK hc) ?_))))))
 rw [hd']
 refine wpAny_pure (a:=some d) (wpAny_bind (wpAny_pure (wpAny_bind ?_)))
 refine wpAny_bind (wpAny_bind (wpAny_askSetting (wpAny_pure (wpAny_bind (wpAny_mkText (wpAny_bind (wpAny_loadPart D ?_)))))))
 have z0:=rs.lt
 have cnd:(!(es.toArray.any (·.key.isStr (aS f)))&&es.toArray.any (·.refKey))=false:=by
  have:es.toArray.any (·.refKey)=false:=by
   rw [Bool.eq_false_iff]
   intro q
   rw [← Array.any_toList] at q
   obtain ⟨e,hm,hr⟩:=List.any_eq_true.mp q
   rw [z0.2.2 e hm] at hr; cases hr
  rw [this,Bool.and_false]
 dsimp only [diO]
 rw [aRefKeyMayBeTheName_at,cnd]
 have up:∀ hs key,(z.h.update d (Obj.putName (aS f) hs key y)).get? d=some (diO (putL (aS f) hs key y es) (putN (aS f) es n)):=fun hs key=>by
  rw [Heap.get?_update_self _ g2 (by rw [show diO es n=dictOf es n from rfl,putName_dict]; rfl),show diO es n=dictOf es n from rfl,putName_dict]; rfl
 obtain ⟨ks',l',hw,rs',hks⟩:=fput_at (hs:=PyData.keyHash X.w.params (aS f)) (t:=z.t+1) lt rv rs hw
 obtain ⟨s,σ',es',e1,e2,hq⟩:=setI_inv I hw
 obtain ⟨k1,k2,k3,nd⟩:=hs s es'
 have nd':ks'.Nodup:=by
  rcases hks with e | ⟨n,e⟩
  ·rw [e]; exact nd
  ·rw [e]; exact List.nodup_append.mpr ⟨nd,(by simp),fun a ha b hb e=>n (by rw [← List.mem_singleton.mp hb,← e]; exact ha)⟩
 have ln:=nodup_lt 36 ks' nd' rs'.lt.1
 rw [rs'.lt.2.1] at ln
 have gd:=up (PyData.keyHash X.w.params (aS f)) (.str (aS f) (z.t+1))
 have ne:a≠d:=fun e=>by rw [e,k2] at k1; cases k1
 refine wpAny_updatePart D ?_
 refine wpAny_bind (wpAny_lookBehind (up _ _) (pastItsLine_dict (by rw [List.size_toArray,sizeLine_eq]; exact Nat.le_trans ln (by decide))) ?_)
 obtain ⟨R',g'⟩:=R.upd (t:=z.t+1+1) (x:=d) (b:=a) (.inr k2) k1 (fun b hb o q=>(Heap.get?_update_ne _ _ _ _ hb).trans q) (by rw [gd]; rfl) e1 e2 (fun _ _ _ _=>⟨_,_,_,rfl⟩) ⟨ok,nd',d,_,_,(Heap.get?_update_ne _ _ _ _ ne).trans g,k2,gd,rs'⟩
 exact wpAny_pure (hk ⟨_,_,_,_⟩ hq ⟨R',g'⟩)
set_option tactic.hygienic true in
theorem codeAmong_two {pos pos':Pos} {c cv:Value}:∀ (l:List Value),TriplesOk l→codeAmong pos (l++[rawInt pos'.line,rawInt pos'.col,c])=some cv→codeAmong pos l=some cv∨cv=c
 | [],_,h=>by
  simp only [List.nil_append,rawInt,codeAmong] at h
  split at h
  ·obtain rfl:=Option.some.inj h; exact .inr rfl
  ·exact nomatch h
 | .int a t :: .int b u :: d :: r,tr,h=>by
  simp only [List.cons_append,codeAmong] at h ⊢
  split at h
  ·rename_i q
   rw [if_pos q]; exact .inl h
  ·rename_i q
   rw [if_neg q]; exact codeAmong_two r tr h
theorem triples_snoc {pos:Pos} {c:Value}:∀ (l:List Value),TriplesOk l→TriplesOk (l++[rawInt pos.line,rawInt pos.col,c])
 | [],_=>trivial
 | .int _ _ :: .int _ _ :: _ :: r,tr=>triples_snoc r tr
noncomputable def hput (h:Heap) (a:Addr) (o:Obj):Heap:=⟨h.objs.setIfInBounds a o,h.life⟩
theorem hput_ne {h:Heap} {a b:Addr} {o:Obj} (ne:b≠a):(hput h a o).get? b=h.get? b:=by
 unfold hput Heap.get?
 simp only [Array.getElem?_setIfInBounds,if_neg (Ne.symm ne)]
theorem hput_at {h:Heap} {a:Addr} {ps:Array Value} (lt:a < h.objs.size):(hput h a (tabObj ps)).get? a=some (tabObj ps):=by
 unfold hput Heap.get?
 simp only [Array.getElem?_setIfInBounds,if_true,if_pos lt]
theorem se_lm {j:Nat} (hl:c.lam=true) (hj:j < 2):SE X k c (.Lambda (lamP j).1 (lamP j).2.1 (lamP j).2.2 q) (.lm j):=fun A env fr Q Qc z s₀ S hw hk=>by
 have R:=S.R
 have z2:=X.lmd j hj
 have z1:=S.E.s.lam hl
 obtain ⟨ps,hP,tr,hall⟩:=R.tab.2
 refine kla_eval (by rw [z2.1]) ?_
 rw [z1.2]
 cases hf:codeAmong q ps.toList with
 | some cv=>
  refine kla_makeFunctionHit (s:=z.s s₀) (closureFor_none z2.2) S.E.s.glo (X.hg.keeps R.keep0) z1.1 (X.code.keeps R.keep0) hP tr hf (X.bmain _ R.keep0) fun ctv h' tk up hsz=>?_
  obtain ⟨c₂,o,vs,t,e1,e2,e3,e4⟩:=hall q cv hf
  have t₁:Tr X X0 z ⟨h',tk,z.σ,z.κ⟩:=.grow R up
  have t₂:=pushF t₁.R { cls:=.type "function",data:=.func (kla_fn "<lambda>" lamQual (lamP j).1 (lamP j).2.1 (lamP j).2.2 [] ((X.mg "__name__").getD .none) cv ctv) } (t:=tk)
  exact hk _ _ ⟨_,_,_,_⟩ hw (t₁.trans t₂) (.lam ⟨kset_self,rfl,rfl,rfl,rfl,rfl,rfl,rfl,rfl,c₂,o,vs,t,e1,t₂.g.le.fz _ _ e2,e3,e4⟩)
 | none=>
  refine kla_makeFunction (s:=z.s s₀) (closureFor_none z2.2) S.E.s.glo (X.hg.keeps R.keep0) z1.1 (X.code.keeps R.keep0) hP tr hf X.ng (X.bmain _ R.keep0) fun c' ctv h' tk ext hc' h2 h3 h4=>?_
  obtain ⟨c₂,o,vs,t,e1,e2,e3,e4⟩:=h3
  cases e1
  have lt:tabP < h'.objs.size:=Heap.lt_size h4
  have np:c'≠tabP:=fun e=>Nat.lt_irrefl c' (Nat.lt_of_lt_of_le (by rw [e]; exact Heap.lt_size hP) hc')
  have t₁:Tr X X0 z ⟨hput h' tabP (tabObj ps),tk,z.σ,z.κ⟩:=.grow R fun b o e=>by
   by_cases q:b=tabP
   ·rw [q] at e ⊢; rw [show z.h.get? tabP=_ from hP] at e; obtain rfl:=Option.some.inj e; exact hput_at lt
   ·rw [hput_ne q]; exact ext b o q e
  have n':z.κ c'=.no:=R.noOf (size_up hc')
  have z0:=t₁.R.tagF (a:=c') (o:=o) (t:=tk) n' ((hput_ne np).trans e2)
  have t₂:Tr X X0 z ⟨hput h' tabP (tabObj ps),tk,z.σ,kset z.κ c' (.fz o)⟩:=((t₁.up (P:=fun b=>b=c')).trans (Tr.tag z0.1 z0.2 fun b nb q=>(kset_ne nb).trans q)).fresh fun b q=>by rw [q]; exact size_up hc'
  obtain ⟨R₃,g₃⟩:=z0.1.turn (X:=X0) (h':=h') (t:=tk) (fun _ h=>h.elim) (fun b _ nb o e=>by rw [← hput_ne nb]; exact e) ⟨_,h4,by rw [Array.toList_append]; exact triples_snoc _ tr,fun pos cv hcv=>by
   rw [Array.toList_append] at hcv
   rcases codeAmong_two _ tr hcv with z | rfl
   ·obtain ⟨c₃,o₃,vs₃,t₃,f1,f2,f3⟩:=hall pos cv z
    exact ⟨c₃,o₃,vs₃,t₃,f1,z0.2.fz _ _ f2,f3⟩
   ·exact ⟨c',o,vs,t,rfl,kset_self,e3,e4⟩⟩
  have t₃:=t₂.trans ⟨R₃,g₃⟩
  have t₄:=pushF t₃.R (kla_obj "<lambda>" lamQual (lamP j).1 (lamP j).2.1 (lamP j).2.2 [] ((X.mg "__name__").getD .none) c' ctv) (t:=tk)
  exact hk _ _ ⟨_,_,_,_⟩ hw (t₃.trans t₄) (.lam ⟨kset_self,rfl,rfl,rfl,rfl,rfl,rfl,rfl,rfl,c',o,vs,t,rfl,t₄.g.le.fz _ _ kset_self,e3,e4⟩)
end
end
section
structure Src (X:Cx) (A:Around) (tgt:PySem.Expr) (I:Addr) (P:Addr→Prop) (xs:List NV) (chk:NH→Prop) (st:Nat→Z→Prop):Prop where
 live:∀ i z b,st i z→P b→(z.h.get? b).isSome=true
 go:∀ i z z',st i z→Le z.κ z'.κ→(∀ b,P b→∀ o,z.h.get? b=some o→z'.h.get? b=some o)→st i z'
 iter:∀ i z (s₀:Shared) (Q:Value→Shared→Prop),st i z→Q (.ref I) (z.s s₀)→wpAny (model p X.w) A (pyIter (.ref I)) Q Ef (z.s s₀)
 item:∀ i x z (s₀:Shared) (Q:Value→Shared→Prop),xs[i]?=some x→st i z→Rel X.w X.h₀ z→(∀ b,P b→z.κ b=.no)→chk z.σ →
  (∀ v z',z'.σ=z.σ→Tr X P z z'→(∀ b,P b→z'.κ b=.no)→VR X.w z'.κ x v→st (i+1) z'→Q v (z'.s s₀)) →
  wpAny (model p X.w) A (pyNext (.ref I)) (fun r s₁=>∃ v,r=some v∧wpAny (model p X.w) A (letOwnedTupleGo tgt (.ref I) v) (fun _ s₂=>Q v s₂) Ef s₁) Ef (z.s s₀)
 done:∀ i z (s₀:Shared) (Q:Shared→Prop),xs[i]?=none→i≤xs.length→st i z→Rel X.w X.h₀ z→(∀ b,P b→z.κ b=.no)→chk z.σ →
  (∀ z',z'.σ=z.σ→Tr X P z z'→Q (z'.s s₀))→wpAny (model p X.w) A (pyNext (.ref I)) (fun r s₁=>r=none∧Q s₁) Ef (z.s s₀)
theorem ownGo {w:World} {A:Around} {tgt:PySem.Expr} {I:Addr} {v:Value} {o:Obj} {n:String} {vs:Array Value} {s:Shared} {Q:Unit→Shared→Prop} (g:s.heap.get? I=some o) (hc:o.cls=.type n) (hd:o.data=.fields vs)
  (hn:["enumerate","zip","dict_itemiterator","dict_reverseitemiterator","odict_iterator","itertools.zip_longest","itertools.pairwise"].contains n=false) (h:Q () s):wpAny (model p w) A (letOwnedTupleGo tgt (.ref I) v) Q Ef s:=by
 have key:wpAny (model p w) A (letOwnedTupleGo (.Tuple [] 0 default) (.ref I) v) Q Ef s:=by
  obtain ⟨⟩:=v <;> first | exact wpAny_pure h | skip
  refine wpAny_bind (wpAny_load g ?_)
  rw [hc,hd]
  simp only [hn,Bool.false_and,Bool.false_eq_true,if_false]
  exact wpAny_pure h
 obtain ⟨⟩:=tgt <;> first | exact wpAny_pure h | exact key
structure Lst (X:Cx) (xs:List NV) (chk:NH→Prop) (a:Addr) (R0:Ka→Prop):Prop where
 mono:∀ κ κ',Le κ κ'→R0 κ→R0 κ'
 at_:∀ z,Rel X.w X.h₀ z→chk z.σ→R0 z.κ→∃ us:List Value,z.h.IsList a us.toArray∧VRs X.w z.κ xs us
section
variable {X:Cx} {k:Nat} {A:Around} {c:TC} {env:Env} {fr:Fr} {z z':Z} {s₀:Shared} {Q:Po} {Qc:Value→Shared→Prop} {v u:NV} {x y:Value} {tgt:PySem.Expr} {I a it:Addr} {xs:List NV} {chk:NH→Prop} {R0:Ka→Prop} {P:Addr→Prop}
theorem Tr.apart {h':Heap} {t:Nat} (R:Rel X.w X.h₀ z) (hz:∀ b,P b→z.κ b=.no) (sb:∀ b,¬ P b→∀ o,z.h.get? b=some o→h'.get? b=some o):Tr X P z ⟨h',t,z.σ,z.κ⟩:=⟨(R.apart hz sb).1,(R.apart hz sb).2⟩
theorem srcList (hh:A.handled=none) (L:Lst X xs chk a R0):Src X A tgt I (fun b=>b=I) xs chk (fun i z=>z.h.IsListIter I a i∧R0 z.κ):=by
 refine ⟨fun i z b h q=>?_,fun i z z' h le hz=>?_,fun i z s₀ Q h q=>wpAny_pyIter_listiter h.1 q,fun i x z s₀ Q hx h R hz hc hk=>?_,fun i z s₀ Q hx hi h R hz hc hk=>?_⟩
 ·obtain ⟨⟨o,g,_⟩,_⟩:=h; rw [q,g]; rfl
 ·obtain ⟨⟨o,g,r⟩,h⟩:=h; exact ⟨⟨o,hz I rfl o g,r⟩,L.mono _ _ le h⟩
 ·refine (L.at_ z R hc h.2).elim fun us y3=>?_
  refine (y3.2.get i hx).elim fun v y2=>?_
  refine wpAny_pyNext_list_item (s:=z.s s₀) h.1 y3.1 (x:=v) (by simpa using y2.1) fun h' it' sb=>⟨v,rfl,?_⟩
  refine (id it').elim fun o' y1=>?_
  exact ownGo (s:=⟨h',_,_,z.t,_⟩) y1.1 y1.2.1 y1.2.2 (by decide) (hk v ⟨h',z.t,z.σ,z.κ⟩ rfl (.apart R hz fun b hb o e=>(sb.2 b hb).trans e) hz y2.2 ⟨it',h.2⟩)
 ·refine (L.at_ z R hc h.2).elim fun us y0=>?_
  refine wpAny_pyNext_list_end (s:=z.s s₀) hh h.1 y0.1 ?_ fun h' ex=>⟨rfl,hk ⟨h',z.t,z.σ,z.κ⟩ rfl (.apart R hz fun b hb o e=>ex b o hb e)⟩
  rw [List.getElem?_toArray,List.getElem?_eq_none_iff,← y0.2.length]; exact List.getElem?_eq_none_iff.mp hx
theorem srcTuple (hh:A.handled=none):Src X A tgt I (fun b=>b=I) xs (fun _=>True) (fun i z=>z.h.IsTupleIter I a i∧∃ us m,z.κ a=.fz (tuO us m)∧VRs X.w z.κ xs us):=by
 refine ⟨fun i z b h q=>?_,fun i z z' h le hz=>?_,fun i z s₀ Q h q=>wpAny_pyIter_tupleiter h.1 q,fun i x z s₀ Q hx h R hz hc hk=>?_,fun i z s₀ Q hx hi h R hz hc hk=>?_⟩
 ·obtain ⟨⟨o,g,_⟩,_⟩:=h; rw [q,g]; rfl
 ·obtain ⟨⟨o,g,r⟩,us,m,e,rs⟩:=h; exact ⟨⟨o,hz I rfl o g,r⟩,us,m,le.fz _ _ e,rs.mono le⟩
 ·obtain ⟨h1,us,m,e,rs⟩:=id h
  refine (rs.get i hx).elim fun v y1=>?_
  refine wpAny_pyNext_tuple_item (s:=z.s s₀) h1 ⟨_,R.fz _ _ e,rfl,m,rfl⟩ (x:=v) (by simpa using y1.1) fun h' it' sb=>⟨v,rfl,?_⟩
  refine (id it').elim fun o' y0=>?_
  exact ownGo (s:=⟨h',_,_,z.t,_⟩) y0.1 y0.2.1 y0.2.2 (by decide) (hk v ⟨h',z.t,z.σ,z.κ⟩ rfl (.apart R hz fun b hb o e=>(sb.2 b hb).trans e) hz y1.2 ⟨it',h.2⟩)
 ·obtain ⟨h1,us,m,e,rs⟩:=id h
  refine wpAny_pyNext_tuple_end (s:=z.s s₀) hh h1 ⟨_,R.fz _ _ e,rfl,m,rfl⟩ ?_ fun h' ex=>⟨rfl,hk ⟨h',z.t,z.σ,z.κ⟩ rfl (.apart R hz fun b hb o e=>ex b o hb e)⟩
  rw [List.getElem?_toArray,List.getElem?_eq_none_iff,← rs.length]; exact List.getElem?_eq_none_iff.mp hx
noncomputable def prog (a c:Int):Nat→List NV
 | 0=>[]
 | n+1=>.int a :: prog (a+c) c n
theorem prog_get {c:Int}:∀ {n:Nat} {a:Int} {j:Nat} {x:NV},(prog a c n)[j]?=some x→j < n∧x=.int (a+j * c)
 | n+1,a,0,x,h=>by obtain rfl:=Option.some.inj h; exact ⟨Nat.succ_pos n,by simp⟩
 | n+1,a,j+1,x,h=>by
  obtain ⟨h1,rfl⟩:=prog_get (n:=n) (a:=a+c) (j:=j) h
  refine ⟨Nat.succ_lt_succ h1,?_⟩
  rw [Int.natCast_succ,Int.add_mul,Int.one_mul]; congr 1; lia
theorem prog_len {c:Int}:∀ {n:Nat} {a:Int},(prog a c n).length=n
 | 0,_=>rfl
 | n+1,a=>congrArg (·+1) prog_len
theorem ups_prog:∀ (n i:Nat),ups i n=prog i 1 n
 | 0,_=>rfl
 | n+1,i=>by show NV.int i :: ups (i+1) n=NV.int i :: prog (i+1) 1 n; rw [ups_prog n (i+1)]; rfl
theorem down_prog:∀ (n:Nat) (a:Int),down a n=prog a (-1) n
 | 0,_=>rfl
 | n+1,a=>by show NV.int a :: down (a - 1) n=NV.int a :: prog (a+-1) (-1) n; rw [down_prog n (a - 1)]; rfl
theorem srcRange (hh:A.handled=none) {b c:Int} {n:Nat}:Src X A tgt I (fun b=>b=I) (prog b c n) (fun _=>True) (fun i z=>IsRangeIter z.h I (b+i * c) ((n:Int) - i) c):=by
 refine ⟨fun i z b h q=>by rw [q,h]; rfl,fun i z z' h le hz=>hz I rfl _ h,fun i z s₀ Q h q=>wpAny_pyIter_rangeiter h q,fun i x z s₀ Q hx h R hz hc hk=>?_,fun i z s₀ Q hx hi h R hz hc hk=>?_⟩
 ·obtain ⟨hi,rfl⟩:=prog_get hx
  refine wpAny_pyNext_range_item (s:=z.s s₀) h (by lia) fun h' it' sb=>⟨_,rfl,?_⟩
  have e1:b+((i+1:Nat):Int) * c=b+(i:Int) * c+c:=by rw [Int.natCast_succ,Int.add_mul,Int.one_mul,Int.add_assoc]
  have e2:(n:Int) - ((i+1:Nat):Int)=(n:Int) - (i:Int) - 1:=by lia
  exact ownGo (s:=⟨h',_,_,z.t+1,_⟩) it' rfl rfl (by decide) (hk _ ⟨h',z.t+1,z.σ,z.κ⟩ rfl (.apart R hz fun b hb o e=>(sb.2 b hb).trans e) hz (.int _ _) (by rw [e1,e2]; exact it'))
 ·have:=List.getElem?_eq_none_iff.mp hx
  rw [prog_len] at this hi
  exact wpAny_pyNext_range_end (s:=z.s s₀) hh h (by lia) fun h' ex=>⟨rfl,hk ⟨h',z.t,z.σ,z.κ⟩ rfl (.apart R hz fun b hb o e=>ex b o hb e)⟩
noncomputable def isTupT:PySem.Expr→Bool
 | .Tuple ..=>true
 | _=>false
theorem zipI_get:∀ {xs:List NV} {n i:Nat} {x:NV},(zipI n xs)[i]?=some x→∃ y,xs[i]?=some y∧x=.tup [.int ((n+i:Nat):Int),y]
 | y :: r,n,0,x,h=>by obtain rfl:=Option.some.inj h; exact ⟨y,rfl,rfl⟩
 | y :: r,n,i+1,x,h=>by
  refine (zipI_get (xs:=r) (n:=n+1) (i:=i) h).elim fun z y0=>?_
  exact ⟨z,y0.1,by rw [y0.2,Nat.add_right_comm]; rfl⟩
theorem zipI_len:∀ (xs:List NV) (n:Nat),(zipI n xs).length=xs.length
 | [],_=>rfl
 | _ :: r,n=>congrArg (·+1) (zipI_len r (n+1))
theorem srcEnum (hh:A.handled=none) (ht:isTupT tgt=true) (hne:I≠it) (L:Lst X xs chk a R0):Src X A tgt I (fun b=>b=I∨b=it) (zipI 0 xs) chk (fun i z=>(∃ old,IsEnum z.h I it i old)∧z.h.IsListIter it a i∧R0 z.κ):=by
 refine ⟨fun i z b h q=>?_,fun i z z' h le hz=>?_,fun i z s₀ Q h q=>wpAny_pyIter_enum h.1.choose_spec q,fun i x z s₀ Q hx h R hz hc hk=>?_,fun i z s₀ Q hx hi h R hz hc hk=>?_⟩
 ·obtain ⟨⟨old,e⟩,⟨o,g,_⟩,_⟩:=h
  rcases q with q | q
  ·rw [q,e]; rfl
  ·rw [q,g]; rfl
 ·obtain ⟨⟨old,e⟩,⟨o,g,r⟩,h⟩:=h
  exact ⟨⟨old,hz I (.inl rfl) _ e⟩,⟨o,hz it (.inr rfl) o g,r⟩,L.mono _ _ le h⟩
 ·obtain ⟨⟨old,e⟩,hit,h0⟩:=h
  refine (L.at_ z R hc h0).elim fun us y3=>?_
  obtain ⟨y,hy,rfl⟩:=zipI_get hx
  refine (y3.2.get i hy).elim fun v y2=>?_
  refine (id hit).elim fun oi y1=>?_
  refine wpAny_pyNext_enum_item (s:=z.s s₀) e hit y3.1 (x:=v) (by simpa using y2.1) hne fun h' k1 k2 k3 k4 k5=>⟨_,rfl,?_⟩
  have key:∀ (elts:List PySem.Expr) (x1:Nat) (pos:Pos),wpAny (model p X.w) A (letOwnedTupleGo (.Tuple elts x1 pos) (.ref I) (.ref z.h.objs.size)) (fun _ s₂=>Q (.ref z.h.objs.size) s₂) Ef ⟨h',s₀.gens,s₀.drawn,z.t+1,s₀.os⟩:=fun elts x1 pos=>by
   refine wpAny_letOwnedTupleGo_enum k1 fun h₂ e₂ sb=>?_
   have hI:I≠z.h.objs.size:=fun q=>by have:=size_none z.h; rw [← q,show z.h.get? I=_ from e] at this; cases this
   have hT:it≠z.h.objs.size:=fun q=>by have:=size_none z.h; rw [← q,show z.h.get? it=_ from y1.1] at this; cases this
   have t₁:Tr X (fun b=>b=I∨b=it) z ⟨h₂,z.t+1,z.σ,z.κ⟩:=.apart R hz fun b hb o q=>(sb.2 b (fun z=>hb (.inl z))).trans (k5 b o (fun z=>hb (.inl z)) (fun z=>hb (.inr z)) q)
   have tg:h₂.get? z.h.objs.size=some (tuO [.int i z.t,v] 0):=(sb.2 _ (Ne.symm hI)).trans k3
   have z0:=t₁.R.tagF (t:=z.t+1) (R.noOf (size_none _)) tg
   have t₂:Tr X (fun b=>(b=I∨b=it)∨b=z.h.objs.size) z ⟨h₂,z.t+1,z.σ,kset z.κ z.h.objs.size (.fz (tuO [.int i z.t,v] 0))⟩:=(t₁.weak fun b q=>.inl (.inl q)).trans (Tr.tag z0.1 z0.2 fun b nb q=>(kset_ne fun e=>nb (.inr e)).trans q)
   refine hk _ ⟨h₂,z.t+1,z.σ,_⟩ rfl (t₂.weak fun b q=>q.elim .inl fun e=>.inr (by rw [e]; exact size_none _)) (fun b q=>(kset_ne (q.elim (fun q=>q▸hI) fun q=>q▸hT)).trans (hz b q)) (.tup kset_self (.cons ?_ (.cons (y2.2.mono z0.2) .nil))) ⟨⟨v,?_⟩,?_,L.mono _ _ z0.2 h0⟩
   ·rw [Nat.zero_add]; exact .int _ _
   ·rw [Int.natCast_succ]; exact e₂
   ·exact k2.at fun o q=>(sb.2 it (Ne.symm hne)).trans q
  obtain ⟨⟩:=tgt <;> first | exact key _ _ _ | (cases ht; done)
 ·obtain ⟨⟨old,e⟩,hit,h0⟩:=h
  refine (L.at_ z R hc h0).elim fun us y0=>?_
  refine wpAny_pyNext_enum_end (s:=z.s s₀) hh e hit y0.1 ?_ fun h' ex=>⟨rfl,hk ⟨h',z.t,z.σ,z.κ⟩ rfl (.apart R hz fun b hb o e=>ex b o (fun q=>hb (.inr q)) e)⟩
  rw [List.getElem?_toArray,List.getElem?_eq_none_iff,← y0.2.length,← zipI_len xs 0]; exact List.getElem?_eq_none_iff.mp hx
theorem live_lst (hv:VR X.w z.κ v (.ref a)):Lst X xs (live v xs) a (fun κ=>VR X.w κ v (.ref a)):=by
 refine ⟨fun κ κ' le r=>r.mono le,fun z R hc r=>?_⟩
 obtain ⟨l,L,rfl⟩:=getL_inv hc
 obtain ⟨b,us,m,e,g,rs,_⟩:=L.at R r
 cases e
 exact ⟨us,⟨_,g,rfl,m,rfl⟩,rs⟩
noncomputable abbrev PostI (X:Cx) (A:Around) (tgt:PySem.Expr) (KK:List NV→(NH→Prop)→NH→Prop) (z:Z) (s₀:Shared) (Qc:Value→Shared→Prop):Prop:=
 ∀ xs chk z' I P st,KK xs chk z'.σ→Tr X X0 z z'→Src X A tgt I P xs chk st→st 0 z'→(∀ b,P b→z'.κ b=.no∧z.h.get? b=none)→Qc (.ref I) (z'.s s₀)
theorem Go.dead (g:Go X0 z z') {b:Addr} (e:z'.h.get? b=none):z.h.get? b=none:=by
 cases q:z.h.get? b with
 | none=>rfl
 | some o=>
  rcases g.live b (by rw [q]; rfl) with h | h
  ·rw [e] at h; cases h
  ·exact h.elim
variable {KK:List NV→(NH→Prop)→NH→Prop}
theorem PostI.step (hk:PostI X A tgt KK z s₀ Qc) (t:Tr X X0 z z'):PostI X A tgt KK z' s₀ Qc:=fun xs chk z₁ I P st h1 t₁ S h2 h3=>hk xs chk z₁ I P st h1 (t.trans t₁) S h2 fun b q=>⟨(h3 b q).1,Go.dead t.g (h3 b q).2⟩
theorem over_ok (hh:A.handled=none) (R:Rel X.w X.h₀ z) (r:VR X.w z.κ v x) (hw:wIt X.T .over [v] KK z.σ) (hk:PostI X A tgt KK z s₀ Qc):wpAny (model p X.w) A (pyIter x) Qc Ef (z.s s₀):=by
 have e0:=size_none z.h
 have fr:∀ b,b=z.h.objs.size→z.κ b=.no∧z.h.get? b=none:=fun b q=>by rw [q]; exact ⟨R.noOf e0,e0⟩
 have up:∀ o,Tr X X0 z ⟨z.h.push o,z.t,z.σ,z.κ⟩:=fun o=>.grow R fun b o q=>Heap.get?_push_of_some _ q
 have lst:getL z.σ (fun l=>KK l (live v l) z.σ) v→wpAny (model p X.w) A (pyIter x) Qc Ef (z.s s₀):=fun h=>by
  refine (getL_inv h).elim fun l y1=>y1.elim fun L y1=>?_
  obtain ⟨a,us,m,rfl,g,rs,_⟩:=L.at R r
  exact wpAny_pyIter_list (s:=z.s s₀) (items:=us.toArray) ⟨_,g,rfl,m,rfl⟩ (hk _ _ ⟨_,z.t,z.σ,z.κ⟩ _ _ _ y1 (up _) (srcList hh (live_lst r)) ⟨⟨_,Heap.get?_push_size _ rfl,rfl,rfl⟩,r⟩ fr)
 induction v using NV.casesOn with
 | tup l=>
  obtain ⟨a,us,m,rfl,g,rs⟩:=r.tup_inv
  exact wpAny_pyIter_tuple (s:=z.s s₀) ⟨_,R.fz _ _ g,rfl,m,rfl⟩ (hk _ _ ⟨_,z.t,z.σ,z.κ⟩ _ _ _ hw (up _) (srcTuple hh (a:=a)) ⟨⟨_,Heap.get?_push_size _ rfl,rfl,rfl⟩,us,m,g,rs⟩ fr)
 | gl g=>
  have ex:=r.gl_inv
  subst ex
  refine (opK_inv hw).elim fun o y0=>?_
  refine cps fun C kk=>?_
  obtain ⟨l,e1,rfl⟩:=Option.map_eq_some_iff.mp y0.1
  obtain ⟨sz,us,⟨o,ho,i⟩,rs⟩:=X.scr g l e1
  have L:Lst X l (fun _=>True) g (fun κ=>κ g=.fz o):=⟨fun κ κ' le h=>le.fz _ _ h,fun z R _ h=>⟨us,⟨o,R.fz _ _ h,i⟩,rs _⟩⟩
  exact kk (wpAny_pyIter_list (s:=z.s s₀) (items:=us.toArray) ⟨o,R.keep0 _ _ ho,i⟩ (hk _ _ ⟨_,z.t,z.σ,z.κ⟩ _ _ _ y0.2 (up _) (srcList hh L) ⟨⟨_,Heap.get?_push_size _ rfl,rfl,rfl⟩,R.base _ _ ho⟩ fr))
 | _=>exact lst hw
theorem size_up1 (n:Int):Builtin.Range.rangeSize 0 n 1=(n.toNat:Int):=by unfold Builtin.Range.rangeSize; simp; split <;> lia
theorem size_down (n m:Int):Builtin.Range.rangeSize n m (-1)=((n - m).toNat:Int):=by unfold Builtin.Range.rangeSize; simp; split <;> lia
theorem fits {i:Int} (h:i.natAbs≤2 * cap+1):Builtin.Range.rangeFitsLong i=true:=by
 have:(cap:Int) < 2 ^ 60:=by decide
 unfold Builtin.Range.rangeFitsLong
 simp only [Bool.and_eq_true,decide_eq_true_eq]
 lia
theorem small_up {n:Int} (h1:n≤cap) (h2:-cap≤n):Builtin.Range.small 0 n 1=true:=by
 have c6:(cap:Int)=1048576:=by decide
 unfold Builtin.Range.small
 rw [size_up1,fits (by decide),fits (by lia),fits (by decide),fits (by lia),fits (by lia)]
 simp
theorem small_down {n m:Int} (h1:n.natAbs≤cap) (h2:m.natAbs≤cap):Builtin.Range.small n m (-1)=true:=by
 have c6:(cap:Int)=1048576:=by decide
 unfold Builtin.Range.small
 rw [size_down,fits (by lia),fits (by lia),fits (by decide),fits (by lia)]
 simp
 right
 exact fits (by lia)
theorem range_ok (hh:A.handled=none) {r:Addr} {a b d:Int} {n:Nat} {t u v:Tok} (R:Rel X.w X.h₀ z) (hr:IsRange z.h r a b d t u v) (sm:Builtin.Range.small a b d=true) (sz:Builtin.Range.rangeSize a b d=n) (hw:KK (prog a d n) (fun _=>True) z.σ) (hk:PostI X A tgt KK z s₀ Qc) :
  wpAny (model p X.w) A (pyIter (.ref r)) Qc Ef (z.s s₀):=by
 have e0:=size_none z.h
 refine wpAny_pyIter_range (s:=z.s s₀) hr sm ?_
 rw [sz]
 refine hk _ _ ⟨_,z.t,z.σ,z.κ⟩ _ _ _ hw (.grow R fun b o q=>Heap.get?_push_of_some _ q) (srcRange hh (I:=z.h.objs.size)) ?_ fun b q=>by rw [q]; exact ⟨R.noOf e0,e0⟩
 have e1:a+((0:Nat):Int) * d=a:=by simp
 have e2:(n:Int) - ((0:Nat):Int)=n:=by simp
 show IsRangeIter _ _ (a+((0:Nat):Int) * d) ((n:Int) - ((0:Nat):Int)) d
 rw [e1,e2]
 exact Heap.get?_push_size _ rfl
end
end
section
noncomputable abbrev SIt (X:Cx) (k:Nat) (c:TC) (tgt e:PySem.Expr) (g:IK) (it:E):Prop:=
 ∀ ⦃A:Around⦄ ⦃env:Env⦄ ⦃fr:Fr⦄ ⦃KK:List NV→(NH→Prop)→NH→Prop⦄ ⦃Qc:Value→Shared→Prop⦄ ⦃z:Z⦄ ⦃s₀:Shared⦄,St X k A c env fr z→wE X.T (callN X.T k) it fr (fun t σ=>argK (fun vs=>wIt X.T g vs KK σ) t) z.σ→PostI X A tgt KK z s₀ Qc →
  wpAny (model p X.w) A (eval e env) (fun x s₁=>wpAny (model p X.w) A (pyIter x) Qc Ef s₁) Ef (z.s s₀)
section
variable {X:Cx} {k:Nat} {A:Around} {c:TC} {env:Env} {fr:Fr} {z z':Z} {s₀:Shared} {Q:Po} {Qc:Value→Shared→Prop} {v u:NV} {x y:Value} {tgt:PySem.Expr} {P:Addr→Prop} {KK:List NV→(NH→Prop)→NH→Prop} {n:Nat} {q q' pos:Pos}
theorem r1_inv {T:Tx} {σ:NH}:∀ {vs:List NV},wIt T .range1 vs KK σ→∃ n,vs=[.int n]∧n≤cap∧-cap≤n∧KK (ups 0 n.toNat) (fun _=>True) σ
 | [.int n],h=>⟨n,rfl,h⟩
theorem r3_inv {T:Tx} {σ:NH}:∀ {vs:List NV},wIt T .range3 vs KK σ→∃ n m s,vs=[.int n,.int m,.int s]∧s=-1∧n.natAbs≤cap∧m.natAbs≤cap∧KK (down n (n - m).toNat) (fun _=>True) σ
 | [.int n,.int m,.int s],h=>⟨n,m,s,rfl,h⟩
theorem en_inv {T:Tx} {σ:NH}:∀ {vs:List NV},wIt T .enum vs KK σ→∃ v,vs=[v]∧getL σ (fun l=>KK (zipI 0 l) (live v l) σ) v
 | [v],h=>⟨v,rfl,h⟩
theorem si_over {e:PySem.Expr} {m:E} (h:SE X k c e m):SIt X k c tgt e .over (.ec m .e0):=fun _ _ _ _ _ _ _ S hw hk=>h S hw fun _ _ _ hw t r=>over_ok S.rm.h t.R r hw (hk.step t)
theorem si_call {g:IK} {es:List PySem.Expr} {ms:E} (ng:g≠.over) (ht:g=.enum→isTupT tgt=true) (hg:c.kd (Str.ofString (itN g))=some .globalImplicit) (H:Each X k c es ms):SIt X k c tgt (.Call (.Name (Str.ofString (itN g)) q) es [] q') g ms:=fun A env fr KK Qc z s₀ S hw hk=>by
 have c6:(cap:Int)=1048576:=by decide
 rw [arm_eval_Call_Name']
 refine wpAny_bind (name_b (it_b g) S.E.s S.R hg (args_go (us₀:=[]) H S hw fun vs us z₁ hw t rs=>⟨⟨.machine,.inr (.inl rfl),by cases g <;> exact .now⟩,?_⟩))
 have hk:=hk.step t
 induction g using IK.casesOn with
 | over=>exact absurd rfl ng
 | range1=>
  obtain ⟨n,rfl,h1,h2,hq⟩:=r1_inv hw
  rcases rs with _ | ⟨r,_ | _⟩
  ·obtain ⟨tk,rfl⟩:=r.int_inv
   refine call_range_1 ?_
   have t₁:Tr X X0 z₁ ⟨z₁.h.push { cls:=.type "range",data:=.fields #[.int 0 z₁.t,.int n tk,.int 1 (z₁.t+1)] },z₁.t+1+1,z₁.σ,z₁.κ⟩:=.grow t.R fun b o q=>Heap.get?_push_of_some _ q
   refine range_ok (z:=⟨_,z₁.t+1+1,z₁.σ,z₁.κ⟩) S.rm.h t₁.R (Heap.get?_push_size _ rfl) (small_up h1 h2) (size_up1 n) (by rw [ups_prog] at hq; exact hq) (hk.step t₁)
 | range3=>
  obtain ⟨n,m,s,rfl,rfl,h1,h2,hq⟩:=r3_inv hw
  rcases rs with _ | ⟨r1,_ | ⟨r2,_ | ⟨r3,_ | _⟩⟩⟩
  ·obtain ⟨t1,rfl⟩:=r1.int_inv
   obtain ⟨t2,rfl⟩:=r2.int_inv
   obtain ⟨t3,rfl⟩:=r3.int_inv
   refine call_range_3 (by decide) ?_ (.inl (PyProof.noPylong_small (by decide)))
   exact range_ok (z:=⟨_,_,z₁.σ,z₁.κ⟩) S.rm.h (Tr.grow (t:=_) t.R fun b o q=>Heap.get?_push_of_some _ q).R (Heap.get?_push_size _ rfl) (small_down h1 h2) (size_down n m) (by rw [down_prog] at hq; exact hq) (hk.step (.grow t.R fun b o q=>Heap.get?_push_of_some _ q))
 | enum=>
  obtain ⟨v,rfl,hw⟩:=en_inv hw
  cases rs with
  | cons r rn=>
   cases rn
   obtain ⟨l,L,hq⟩:=getL_inv hw
   obtain ⟨a,us,m,rfl,g,rs,_⟩:=L.at t.R r
   refine call_enumerate_1 (s:=z₁.s s₀) g fun h₁ k1 k2 k3 k4=>?_
   have t₁:Tr X X0 z₁ ⟨h₁,z₁.t,z₁.σ,z₁.κ⟩:=.grow t.R k4
   refine wpAny_pyIter_enum k1 ?_
   refine hk _ _ ⟨h₁,z₁.t,z₁.σ,z₁.κ⟩ _ _ _ hq t₁ (srcEnum S.rm.h (ht rfl) (I:=z₁.h.objs.size+1) (it:=z₁.h.objs.size) (Nat.succ_ne_self _) (live_lst r)) ⟨⟨_,k1⟩,k2,r⟩ fun b q=>?_
   have:z₁.h.get? b=none:=q.elim (fun q=>q▸size_up (Nat.le_succ _)) fun q=>q▸size_none _
   exact ⟨t.R.noOf this,this⟩
theorem ns_cell {h:Heap} {a:Addr} {m:Str→Option Value} {v:Option Value} (n:h.Ns a m) (q:h.IsCell a v):False:=by
 obtain ⟨o',es,ep,ho,hd,_⟩:=n
 obtain ⟨o,g,hd'⟩:=q
 rw [g] at ho; obtain rfl:=Option.some.inj ho; rw [hd] at hd'; cases hd'
theorem setv_inv:∀ {fr:Fr} {i:Nat} {K:Fr→Prop},setv fr i v K→i < fr.length∧K (fr.set i (some v))
 | _ :: l,0,K,h=>⟨Nat.succ_pos _,h⟩
 | a :: l,n+1,K,h=>by
  have z0:=setv_inv (fr:=l) (i:=n) (K:=fun l'=>K (a :: l')) h
  exact ⟨Nat.succ_lt_succ z0.1,z0.2⟩
theorem zW.ze {b:Addr} {x:Str} (h:zW c env x b):ZE env b:=h.elim (fun q=>.inl q.2) fun q=>.inr ⟨x,q.2⟩
theorem set_env {h':Heap} {t:Nat} {x:Str} {i:Nat} {v:NV} {u:Value} (R:Rel X.w X.h₀ z) (E:EnvR X.w c env z fr) (hi:c.ns[i]?=some (some x)) (rv:VR X.w z.κ v u) (sb:∀ b,¬ zW c env x b→∀ o,z.h.get? b=some o→h'.get? b=some o)
  (ns:∃ m,h'.Ns env.locals m) (cl:∀ y a,env.cells.lookup y=some a→∃ v,h'.IsCell a v) (a1:At c env h' x (some u)) (a2:∀ y o,y≠x→At c env z.h y o→At c env h' y o) :
  EnvR X.w c env ⟨h',t,z.σ,z.κ⟩ (fr.set i (some v))∧Tr X (zW c env x) z ⟨h',t,z.σ,z.κ⟩:=by
 refine ⟨⟨E.s,by rw [List.length_set]; exact E.len,E.loc,ns,fun y a e=>⟨(E.cl y a e).1,cl y a e⟩,fun j y v' e1 e2=>?_⟩,.apart R (fun b q=>q.elim (fun q=>q.2▸E.loc) fun q=>(E.cl x b q.2).1) sb⟩
 by_cases yx:y=x
 ·subst yx
  have:=E.s.inj i j y hi e1
  subst this
  have hl:i < fr.length:=by rw [← E.len]; exact (List.getElem?_eq_some_iff.mp hi).1
  replace e2:=List.getElem?_set_self hl▸e2
  cases e2
  exact ⟨u,a1,rv⟩
 ·have ne:i≠j:=fun e=>yx (by rw [← e,hi] at e1; cases e1; rfl)
  rw [List.getElem?_set_ne ne] at e2
  obtain ⟨u',a,r⟩:=E.val j y v' e1 e2
  exact ⟨u',a2 y _ yx a,r⟩
theorem set_name {x:Str} {i:Nat} {v:NV} {u:Value} {Qc:Unit→Shared→Prop} (R:Rel X.w X.h₀ z) (E:EnvR X.w c env z fr) (hi:c.ns[i]?=some (some x)) (rv:VR X.w z.κ v u)
  (hk:∀ z',z'.σ=z.σ→EnvR X.w c env z' (fr.set i (some v))→Tr X (zW c env x) z z'→Qc () (z'.s s₀)):wpAny (model p X.w) A (storeName env x u) Qc Ef (z.s s₀):=by
 have hp:(env.scope.kind==.class || (env.scope.kind==.module&&env.locals != env.globals))=false:=by rw [E.s.kind]; rfl
 rcases E.s.sl i x hi with q | q
 ·obtain ⟨m,hn⟩:=E.ns
  refine wpAny_storeName_local (s:=z.s s₀) ((E.s.kd x).trans q) hn (fun h' hn' sb=>?_) hp
  have kp:∀ b,b≠env.locals→∀ o,z.h.get? b=some o→h'.get? b=some o:=fun b nb o e=>(sb.2 b nb).trans e
  have ck:∀ a v,z.h.IsCell a v→h'.IsCell a v:=fun a v hc=>let ⟨o,g,hd⟩:=hc; ⟨o,kp a (fun e=>ns_cell hn (e▸hc)) o g,hd⟩
  obtain ⟨E',t⟩:=set_env (h':=h') (t:=z.t+1) R E hi rv (fun b nb o e=>kp b (fun q'=>nb (.inl ⟨q,q'⟩)) o e) ⟨_,hn'⟩ (fun y a e=>let ⟨v,hc⟩:=(E.cl y a e).2; ⟨v,ck a v hc⟩)
   (by have a:At c env h' x _:=.loc q hn'; rw [if_pos rfl] at a; exact a) fun y o ne a=>by
    cases a with
    | @loc m' k n'=>
     have a:At c env h' y _:=.loc k hn'
     rw [if_neg ne,hn.agree n' y] at a; exact a
    | cell k l hc=>exact .cell k l (ck _ _ hc)
  exact hk ⟨h',z.t+1,z.σ,z.κ⟩ rfl E' t
 ·obtain ⟨ca,hca⟩:=E.s.cel x q
  obtain ⟨_,v0,hc0⟩:=E.cl x ca hca
  refine wpAny_storeName_cell (s:=z.s s₀) E.s.kind ((E.s.kd x).trans q) hca hc0 fun h' hc' sb=>?_
  have kp:∀ b,b≠ca→∀ o,z.h.get? b=some o→h'.get? b=some o:=fun b nb o e=>(sb.2 b nb).trans e
  have nk:∀ m,z.h.Ns env.locals m→h'.Ns env.locals m:=fun m hn=>let ⟨o,es,ep,ho,r⟩:=hn; ⟨o,es,ep,kp _ (fun e=>ns_cell hn (e▸hc0)) _ ho,r⟩
  obtain ⟨E',t⟩:=set_env (h':=h') (t:=z.t) R E hi rv (fun b nb o e=>kp b (fun q'=>nb (.inr ⟨q,q'▸hca⟩)) o e) (let ⟨m,hn⟩:=E.ns; ⟨m,nk m hn⟩) (fun y a e=>by
    by_cases ac:a=ca
    ·exact ⟨_,ac▸hc'⟩
    ·obtain ⟨_,v,o,g,hd⟩:=E.cl y a e; exact ⟨v,o,kp a ac _ g,hd⟩)
   (.cell q hca hc') fun y o ne a=>by
    cases a with
    | loc k n'=>exact .loc k (nk _ n')
    | @cell a' _ k l hc=>obtain ⟨o,g,hd⟩:=hc; exact .cell k l ⟨o,kp a' (fun e=>ne (E.s.cinj y x ca (e▸l) hca)) _ g,hd⟩
  exact hk ⟨h',z.t,z.σ,z.κ⟩ rfl E' t
noncomputable abbrev SP (X:Cx) (c:TC) (n:Nat) (tgt:PySem.Expr) (pt:Pt):Prop:=
 ∀ ⦃A:Around⦄ ⦃env:Env⦄ ⦃fr:Fr⦄ ⦃P:Addr→Prop⦄ ⦃v:NV⦄ ⦃u:Value⦄ ⦃K:Fr→Prop⦄ ⦃Qc:Unit→Shared→Prop⦄ ⦃z:Z⦄ ⦃s₀:Shared⦄,A.handled=none→(∀ (i:Nat) x b,n≤i→c.ns[i]?=some (some x)→zW c env x b→P b)→Rel X.w X.h₀ z→EnvR X.w c env z fr→VR X.w z.κ v u→bindP pt v fr K →
  (∀ fr' z',K fr'→z'.σ=z.σ→EnvR X.w c env z' fr'→Tr X P z z'→Qc () (z'.s s₀))→wpAny (model p X.w) A (assign tgt env u) Qc Ef (z.s s₀)
structure SPs (X:Cx) (c:TC) (n:Nat) (es:List PySem.Expr) (pt:Pt):Prop where
 each:∀ env,assignEach es env=es.map fun t=>(false,assign t env)
 len:∀ l fr K,bindP pt (.tup l) fr K→es.length=l.length
 go:∀ {A:Around} {env:Env} {fr:Fr} {P:Addr→Prop} {l:List NV} {us:List Value} {K:Fr→Prop} {Qc:Unit→Shared→Prop} {z:Z} {s₀:Shared},A.handled=none→(∀ (i:Nat) x b,n≤i→c.ns[i]?=some (some x)→zW c env x b→P b)→Rel X.w X.h₀ z→EnvR X.w c env z fr→VRs X.w z.κ l us→bindP pt (.tup l) fr K →
  (∀ fr' z',K fr'→z'.σ=z.σ→EnvR X.w c env z' fr'→Tr X P z z'→Qc () (z'.s s₀))→wpAny (model p X.w) A (assignInOrder (es.map fun t=>assign t env) us) Qc Ef (z.s s₀)
theorem bindP_ex:∀ {pt:Pt} {v:NV} {fr:Fr} {K:Fr→Prop},bindP pt v fr K→∃ fr',K fr'
 | .loc i,_,_,_,h=>⟨_,(setv_inv h).2⟩
 | .nil,.tup [],_,_,h=>⟨_,h⟩
 | .cons p r,.tup (x :: l),fr,K,h=>by
  obtain ⟨fr',h⟩:=bindP_ex (pt:=p) h
  exact bindP_ex (pt:=r) h
theorem each_nil (env:Env):assignEach [] env=[]:=rfl
theorem stars {es:List PySem.Expr} (env:Env):((es.map fun t=>(false,assign t env)):List (Bool × (Value→Sem Unit))).findIdx? (·.1)=none:=by
 rw [List.findIdx?_eq_none_iff]; intro y hy; obtain ⟨t,_,rfl⟩:=List.mem_map.mp hy; rfl
theorem EnvR.tr {P:Addr→Prop} (E:EnvR X.w c env z fr) (t:Tr X X0 z z'):EnvR X.w c env z' fr:=E.go t.g fun _ h=>h.elim
theorem pat_ok:∀ (pt:Pt) (e:PySem.Expr),(ptOk c n pt false=true→SP X c n (rbP c pt e) pt)∧(ptOk c n pt true=true→SPs X c n (px (rbP c pt e)) pt)
 | .loc i,e=>by
  refine ⟨fun o=>?_,fun o=>(nomatch o)⟩
  have o:(hasN c i&&decide (n≤i))=true:=by simpa [ptOk] using o
  rw [Bool.and_eq_true,decide_eq_true_eq] at o
  have hi:=(hasN_of o.1).1
  intro A env fr P v u K Qc z s₀ hh hP R E rv hb hk
  exact wpAny_assign_Name (set_name R E hi rv fun z' e' E' t=>hk _ z' (setv_inv hb).2 e' E' (t.weak fun b q=>.inl (hP i _ b o.2 hi q)))
 | .nil,e=>⟨fun o=>(nomatch o),fun _=>⟨fun env=>rfl,fun l fr K h=>by
   induction l using List.casesOn with
   | nil=>rfl
   | cons _ _=>exact h.elim,fun {A env fr P l us K Qc z s₀} hh hP R E rs hb hk=>by
   cases rs with
   | nil=>exact assignInOrder_nil (hk fr z hb rfl E (.refl R))
   | cons _ _=>exact hb.elim⟩⟩
 | .cons pt r,e=>by
  have key:(ptOk c n pt false&&ptOk c n r true)=true→SPs X c n (rbP c pt (ko e 0) :: px (rbP c r (tl e))) (.cons pt r):=fun o=>by
   simp only [Bool.and_eq_true] at o
   have h1:SP X c n (rbP c pt (ko e 0)) pt:=(pat_ok pt (ko e 0)).1 o.1
   have h2:=(pat_ok r (tl e)).2 o.2
   refine ⟨fun env=>?_,fun l fr K h=>?_,fun {A env fr P l us K Qc z s₀} hh hP R E rs hb hk=>?_⟩
   ·have:assignEach (rbP c pt (ko e 0) :: px (rbP c r (tl e))) env=(false,assign (rbP c pt (ko e 0)) env) :: assignEach (px (rbP c r (tl e))) env:=by
     cases pt with
     | nil=>exact (nomatch o.1)
     | _=>rfl
    rw [this,h2.each]; rfl
   ·induction l using List.casesOn with
    | nil=>exact h.elim
    | cons x l=>
     obtain ⟨fr',h⟩:=bindP_ex (pt:=pt) h
     exact congrArg (·+1) (h2.len l fr' K h)
   ·cases rs with
    | nil=>exact hb.elim
    | cons r1 r2=>
     refine assignInOrder_cons (h1 hh hP R E r1 hb fun fr₁ z₁ hb e₁ E₁ t₁=>?_)
     exact h2.go hh hP t₁.R E₁ (r2.go t₁) hb fun fr₂ z₂ hb e₂ E₂ t₂=>hk fr₂ z₂ hb (e₂.trans e₁) E₂ (t₁.trans t₂)
  refine ⟨fun o=>?_,fun o=>key o⟩
  have H:SPs X c n _ _:=key o
  intro A env fr P v u K Qc z s₀ hh hP R E rv hb hk
  obtain ⟨l,rfl,_⟩:=onT_inv hb
  obtain ⟨a,us,m,rfl,g,rs⟩:=rv.tup_inv
  have ln:=H.len l fr K hb
  refine assign_Tuple_tuple (s:=z.s s₀) hh ⟨_,R.fz _ _ g,rfl,m,rfl⟩ ?_ (by rw [H.each]; exact stars env) fun h₁ ex=>?_
  ·rw [H.each,List.length_map,List.size_toArray,← rs.length]; exact ln
  ·rw [H.each,List.map_map]
   have t₁:Tr X X0 z ⟨h₁,z.t,z.σ,z.κ⟩:=.grow R fun b o e=>ex b o (Nat.ne_of_lt (Heap.lt_size e)) e
   exact H.go (z:=⟨h₁,z.t,z.σ,z.κ⟩) hh hP t₁.R (E.tr (P:=P) t₁) (rs.go t₁) hb fun fr' z' hq e' E' t'=>hk fr' z' hq e' E' (t₁.up.trans t')
end
end
section
section
variable {w:World}
noncomputable def CompLoop (w:World) (cd:Value→Value→Env→Code) (target:PySem.Expr) (ifs:List PySem.Expr) (elt:PySem.Expr):Prop:=
 ∀ (A:Around) (it acc:Value) (env:Env) (R:Result→Shared→Prop) (I:Nat→Shared→Prop),
  (∀ n s,I n s→wpAny (model p w) A (pyNext it) (fun r s₁=>(r=none∧R (.ok .next) s₁)∨∃ v,r=some v ∧
   wpAny (model p w) A (letOwnedTupleGo target it v) (fun _ s₀=>wpAny (model p w) A (assign target env v) (fun _ s₂=>
    wpAny (model p w) A (forIn ifs true fun c r=>if r=true then do let ok ← isTrue c env (eval c env); pure (ForInStep.yield ok) else pure (ForInStep.yield r)) (fun ok s₃=>
     if ok=true then wpAny (model p w) A (eval elt env) (fun x s₄=>wpAny (model p w) A (call (.builtin "list.append") [acc,x]) (fun _ s₅=>∃ m,m < n∧I m s₅) Ef s₄) Ef s₃
     else ∃ m,m < n∧I m s₃) Ef s₂) Ef s₀) Ef s₁) Ef s) →
  ∀ n s,I n s→codeAny (model p w) A (cd it acc env) R s
theorem toE {α:Type} {A:Around} {m:Sem α} {Q:α→Shared→Prop} {E:Value→Shared→Prop} {s:Shared} (h:wpAny (model p w) A m Q Ef s):wpAny (model p w) A m Q E s:=wpAny_mono h (fun _ _ q=>q) fun _ _ f=>f.elim
theorem compLoop1 {elt target iter:PySem.Expr} {ifs:List PySem.Expr} {scope:Scope} {pos:Pos}:CompLoop w (fun it acc env=>.compLoop (.ListComp elt [⟨target,iter,ifs,0⟩] scope pos) 0 it acc env) target ifs elt:=by
 intro A it acc env R I turn n s h
 refine codeAny_loop rfl I (fun n s hI=>?_) n h
 show wpAny _ A ((compTurn (.ListComp elt [⟨target,iter,ifs,0⟩] scope pos) 0 it acc env).onRaise (fun x=>do noteFrame x env; theTreesLotGoes x)) _ _ s
 refine wpAny_noted ?_
 rw [compTurn_list]
 refine wpAny_bind (wpAny_standAt (wpAny_bind (wpAny_mono (turn n s hI) (fun r s₁ h₁=>?_) fun _ _ f=>f.elim)))
 rcases h₁ with ⟨rfl,h₁⟩ | ⟨v,rfl,h₁⟩
 ·exact wpAny_pure h₁
 ·refine wpAny_bind (wpAny_mono h₁ (fun _ s₀ h₀'=>?_) fun _ _ f=>f.elim)
  refine wpAny_bind (wpAny_mono h₀' (fun _ s₂ h₂=>wpAny_bind (wpAny_mono h₂ (fun ok s₃ h₃=>?_) fun _ _ f=>f.elim)) fun _ _ f=>f.elim)
  induction ok using Bool.casesOn with
  | false=>exact wpAny_pure ⟨rfl,by simpa using h₃⟩
  | true=>
   rw [if_pos rfl] at h₃
   exact wpAny_bind (wpAny_bind (wpAny_mono h₃ (fun x s₄ h₄=>wpAny_bind (wpAny_mono h₄ (fun _ s₅ h₅=>wpAny_pure (wpAny_pure ⟨rfl,h₅⟩)) fun _ _ f=>f.elim)) fun _ _ f=>f.elim))
theorem compTurn_two1 (elt target iter t2 i2:PySem.Expr) (ifs:List PySem.Expr) (scope:Scope) (pos:Pos) (it acc:Value) (env:Env) :
  compTurn (.ListComp elt [⟨target,iter,[],0⟩,⟨t2,i2,ifs,0⟩] scope pos) 1 it acc env=(do
   standAt i2.pos
   match ← pyNext it with
   | none=>pure (.done .next)
   | some v=>
    letOwnedTupleGo t2 it v
    assign t2 env v
    let mut ok:=true
    for c in ifs do
     if ok then ok ← isTrue c env (eval c env)
    if ok then
     (do let _ ← call (.builtin "list.append") [acc,← eval elt env])
    again (.compLoop (.ListComp elt [⟨target,iter,[],0⟩,⟨t2,i2,ifs,0⟩] scope pos) 1 it acc env)):=by rfl
theorem compLoop2 {elt target iter t2 i2:PySem.Expr} {scope:Scope} {pos:Pos}:CompLoop w (fun it acc env=>.compLoop (.ListComp elt [⟨target,iter,[],0⟩,⟨t2,i2,[],0⟩] scope pos) 1 it acc env) t2 [] elt:=by
 intro A it acc env R I turn n s h
 refine codeAny_loop rfl I (fun n s hI=>?_) n h
 show wpAny _ A ((compTurn (.ListComp elt [⟨target,iter,[],0⟩,⟨t2,i2,[],0⟩] scope pos) 1 it acc env).onRaise (fun x=>do noteFrame x env; theTreesLotGoes x)) _ _ s
 refine wpAny_noted ?_
 rw [compTurn_two1]
 refine wpAny_bind (wpAny_standAt (wpAny_bind (wpAny_mono (turn n s hI) (fun r s₁ h₁=>?_) fun _ _ f=>f.elim)))
 rcases h₁ with ⟨rfl,h₁⟩ | ⟨v,rfl,h₁⟩
 ·exact wpAny_pure h₁
 ·refine wpAny_bind (wpAny_mono h₁ (fun _ s₀ h₀'=>?_) fun _ _ f=>f.elim)
  refine wpAny_bind (wpAny_mono h₀' (fun _ s₂ h₂=>wpAny_bind (wpAny_mono h₂ (fun ok s₃ h₃=>?_) fun _ _ f=>f.elim)) fun _ _ f=>f.elim)
  induction ok using Bool.casesOn with
  | false=>exact wpAny_pure ⟨rfl,by simpa using h₃⟩
  | true=>
   rw [if_pos rfl] at h₃
   exact wpAny_bind (wpAny_bind (wpAny_mono h₃ (fun x s₄ h₄=>wpAny_bind (wpAny_mono h₄ (fun _ s₅ h₅=>wpAny_pure (wpAny_pure ⟨rfl,h₅⟩)) fun _ _ f=>f.elim)) fun _ _ f=>f.elim))
theorem forIn_false {A:Around} {env:Env} {Qc:Bool→Shared→Prop}:∀ (es:List PySem.Expr) (s:Shared),Qc false s →
  wpAny (model p w) A (forIn es false fun c r=>if r=true then do let ok ← isTrue c env (eval c env); pure (ForInStep.yield ok) else pure (ForInStep.yield r)) Qc Ef s
 | [],s,h=>wpAny_pure h
 | e :: es,s,h=>by
  rw [List.forIn_cons]
  refine wpAny_bind ?_
  simp only [Bool.false_eq_true,if_false]
  exact wpAny_pure (forIn_false es s h)
theorem compTurn_two0 (elt target iter t2 i2:PySem.Expr) (scope:Scope) (pos:Pos) (it acc:Value) (env:Env) :
  compTurn (.ListComp elt [⟨target,iter,[],0⟩,⟨t2,i2,[],0⟩] scope pos) 0 it acc env=(do
   standAt iter.pos
   match ← pyNext it with
   | none=>pure (.done .next)
   | some v=>
    letOwnedTupleGo target it v
    assign target env v
    let mut ok:=true
    for c in ([]:List PySem.Expr) do
     if ok then ok ← isTrue c env (eval c env)
    if ok then
     let x ← eval i2 env
     standAt i2.pos
     let x ← foldedSetIterable i2 env x
     let _ ← runOwn (.compStart (.ListComp elt [⟨target,iter,[],0⟩,⟨t2,i2,[],0⟩] scope pos) 1 (← holding [x] (pyIter x)) acc env) env
    again (.compLoop (.ListComp elt [⟨target,iter,[],0⟩,⟨t2,i2,[],0⟩] scope pos) 0 it acc env)):=by rfl
theorem codeAny_compStart_two {A:Around} {elt target iter t2 i2:PySem.Expr} {scope:Scope} {pos:Pos} {it acc:Value} {env:Env} {R:Result→Shared→Prop} {s:Shared}
  (h0:codeAny (model p w) A (.compLoop (.ListComp elt [⟨target,iter,[],0⟩,⟨t2,i2,[],0⟩] scope pos) 1 it acc env) R s)
  (h:wpAny (model p w) A (pyIter it) (fun it' s'=>codeAny (model p w) A (.compLoop (.ListComp elt [⟨target,iter,[],0⟩,⟨t2,i2,[],0⟩] scope pos) 1 it' acc env) R s') Ef s) :
  codeAny (model p w) A (.compStart (.ListComp elt [⟨target,iter,[],0⟩,⟨t2,i2,[],0⟩] scope pos) 1 it acc env) R s:=by
 refine codeAny_of_tree ?_
 show wpAny _ _ ((compStart (.ListComp elt [⟨target,iter,[],0⟩,⟨t2,i2,[],0⟩] scope pos) 1 it acc env).onRaise (fun x=>do noteFrame x env; standAt theWindowsPlace)) _ _ s
 refine wpAny_notedAt ?_
 show wpAny _ _ (ask >>= _) _ _ s
 refine wpAny_bind (wpAny_askSetting (wpAny_ite ?_))
 split
 ·first
   | exact wpAny_bind (wpAny_pure (wpAny_pure (And.intro rfl h0)))
   | exact wpAny_pure (And.intro rfl h0)
 ·refine wpAny_bind (wpAny_rule ?_)
  show wpAny _ _ (standAt i2.pos >>= _) _ _ s
  exact wpAny_bind (wpAny_standAt (wpAny_bind (wpAny_mono h (fun it' s' h'=>wpAny_pure (And.intro rfl h')) fun _ _ f=>f.elim)))
theorem outer_loop {A:Around} {elt target iter t2 i2:PySem.Expr} {scope:Scope} {pos:Pos} {it acc:Value} {env:Env} {R:Result→Shared→Prop} (hs:∀ x,foldedSetIterable i2 env x=pure x) (I:Nat→Shared→Prop)
  (turn:∀ n s,I n s→wpAny (model p w) A (pyNext it) (fun r s₁=>(r=none∧R (.ok .next) s₁)∨∃ v,r=some v ∧
   wpAny (model p w) A (letOwnedTupleGo target it v) (fun _ s₀=>wpAny (model p w) A (assign target env v) (fun _ s₂=>
    wpAny (model p w) A (eval i2 env) (fun x s₃=>wpAny (model p w) A (pyIter x) (fun it2 s₄=>
     codeAny (model p w) A (.compStart (.ListComp elt [⟨target,iter,[],0⟩,⟨t2,i2,[],0⟩] scope pos) 1 it2 acc env) (fun r s₅=>r=.ok .next∧∃ m,m < n∧I m s₅) s₄) Ef s₃) Ef s₂) Ef s₀) Ef s₁) Ef s) :
  ∀ n s,I n s→codeAny (model p w) A (.compLoop (.ListComp elt [⟨target,iter,[],0⟩,⟨t2,i2,[],0⟩] scope pos) 0 it acc env) R s:=by
 intro n s h
 refine codeAny_loop rfl I (fun n s hI=>?_) n h
 show wpAny _ A ((compTurn (.ListComp elt [⟨target,iter,[],0⟩,⟨t2,i2,[],0⟩] scope pos) 0 it acc env).onRaise (fun x=>do noteFrame x env; theTreesLotGoes x)) _ _ s
 refine wpAny_noted ?_
 rw [compTurn_two0]
 refine wpAny_bind (wpAny_standAt (wpAny_bind (wpAny_mono (turn n s hI) (fun r s₁ h₁=>?_) fun _ _ f=>f.elim)))
 rcases h₁ with ⟨rfl,h₁⟩ | ⟨v,rfl,h₁⟩
 ·exact wpAny_pure h₁
 ·refine wpAny_bind (wpAny_mono h₁ (fun _ s₀ h₀'=>?_) fun _ _ f=>f.elim)
  refine wpAny_bind (wpAny_mono h₀' (fun _ s₂ h₂=>?_) fun _ _ f=>f.elim)
  refine wpAny_bind (wpAny_tests_nil ?_)
  refine wpAny_bind (wpAny_mono h₂ (fun x s₃ h₃=>?_) fun _ _ f=>f.elim)
  refine wpAny_bind (wpAny_standAt (wpAny_bind (wpAny_of_eq (hs x) ?_)))
  refine wpAny_bind (wpAny_holding (wpAny_mono h₃ (fun it2 s₄ h₄=>?_) fun _ _ f=>f.elim))
  refine wpAny_bind (wpAny_runOwn (codeAny_mono h₄ fun r s₅ h₅=>?_))
  obtain ⟨rfl,h₅⟩:=h₅
  exact wpAny_pure ⟨rfl,h₅⟩
end
noncomputable def closeL (env:Env):List (Str × NameKind)→List (Str × Addr)→List (Str × Addr)
 | [],acc=>acc
 | (n,k) :: r,acc=>if k==.free then (match env.cells.lookup n with
   | some a=>closeL env r ((n,a) :: acc)
   | none=>closeL env r acc) else closeL env r acc
theorem closure_loop (env:Env):∀ (ns:List (Str × NameKind)) (acc:List (Str × Addr)),(∀ x∈ns,x.2=.free→∃ a,env.cells.lookup x.1=some a) →
  (forIn ns acc fun (x:Str × NameKind) (cs:List (Str × Addr))=>(if (x.2==.free)=true then do let c ← cellOf env x.1; pure (ForInStep.yield ((x.1,c) :: cs)) else pure (ForInStep.yield cs):Sem (ForInStep (List (Str × Addr)))))=pure (closeL env ns acc)
 | [],acc,_=>rfl
 | (n,kd) :: r,acc,h=>by
  rw [List.forIn_cons,closeL]
  by_cases q:(kd==NameKind.free)=true
  ·refine (h (n,kd) List.mem_cons_self (beq_iff_eq.mp q)).elim fun a y0=>?_
   have ha':env.cells.lookup n=some a:=y0
   simp only [q,if_true,ha',cellOf,pure_bind]
   exact closure_loop env r _ fun x hx=>h x (List.mem_cons_of_mem _ hx)
  ·simp only [q,if_false,pure_bind,Bool.false_eq_true]
   exact closure_loop env r _ fun x hx=>h x (List.mem_cons_of_mem _ hx)
theorem closure_eq (sc:Scope) (env:Env) (h:∀ x∈sc.names,x.2=.free→∃ a,env.cells.lookup x.1=some a):closureFor sc env=pure (closeL env sc.names []):=by
 have:=closure_loop env sc.names [] h
 unfold closureFor
 simp only [bind_pure]
 exact this
set_option tactic.hygienic true in
theorem closeL_sub (env:Env):∀ (ns:List (Str × NameKind)) (acc:List (Str × Addr)) (x:Str) (a:Addr),(x,a)∈closeL env ns acc→(x,a)∈acc∨env.cells.lookup x=some a
 | [],acc,x,a,h=>.inl h
 | (n,kd) :: r,acc,x,a,h=>by
  simp only [closeL] at h
  split at h
  ·split at h
   ·rename_i b hb
    rcases closeL_sub env r _ x a h with q | q
    ·rcases List.mem_cons.mp q with q | q
     ·cases q; exact .inr hb
     ·exact .inl q
    ·exact .inr q
   ·exact closeL_sub env r _ x a h
  ·exact closeL_sub env r _ x a h
theorem closeL_acc (env:Env):∀ (ns:List (Str × NameKind)) (acc:List (Str × Addr)) (x:Str × Addr),x∈acc→x∈closeL env ns acc
 | [],acc,x,h=>h
 | (n,kd) :: r,acc,x,h=>by
  rw [closeL]
  split
  ·split
   ·exact closeL_acc env r _ x (List.mem_cons_of_mem _ h)
   ·exact closeL_acc env r _ x h
  ·exact closeL_acc env r _ x h
theorem closeL_has (env:Env):∀ (ns:List (Str × NameKind)) (acc:List (Str × Addr)) (x:Str) (a:Addr),(x,NameKind.free)∈ns→env.cells.lookup x=some a→(x,a)∈closeL env ns acc
 | [],acc,x,a,h,_=>by cases h
 | (n,kd) :: r,acc,x,a,h,e=>by
  rw [closeL]
  rcases List.mem_cons.mp h with q | q
  ·cases q
   simp only [beq_self_eq_true,if_true,e]
   exact closeL_acc env r _ _ List.mem_cons_self
  ·split
   ·split
    ·exact closeL_has env r _ x a q e
    ·exact closeL_has env r _ x a q e
   ·exact closeL_has env r _ x a q e
theorem lookup_of_mem {α:Type}:∀ (l:List (Str × α)) (x:Str) (a:α),(x,a)∈l→(l.lookup x).isSome=true
 | (y,b) :: l,x,a,h=>by
  rw [List.lookup_cons]
  by_cases e:x=y
  ·subst e; rw [beq_self_eq_true]; rfl
  ·have:(x==y)=false:=by simpa using e
   rw [this]
   rcases List.mem_cons.mp h with q | q
   ·cases q; exact absurd rfl e
   ·exact lookup_of_mem l x a q
theorem cl_sub {env:Env} {sc:Scope} {x:Str} {a:Addr} (h:(closeL env sc.names []).lookup x=some a):env.cells.lookup x=some a:=
 (closeL_sub env sc.names [] x a (mem_of_lookup h)).elim (fun q=>by cases q) id
theorem cl_has {env:Env} {sc:Scope} {x:Str} {a:Addr} (hx:sc.names.lookup x=some .free) (h:env.cells.lookup x=some a):(closeL env sc.names []).lookup x=some a:=by
 obtain ⟨b,hb⟩:=Option.isSome_iff_exists.mp (lookup_of_mem _ _ _ (closeL_has env sc.names [] x a (mem_of_lookup hx) h))
 have:=cl_sub hb
 rw [h] at this; obtain rfl:=Option.some.inj this; exact hb
theorem map_lookup (f:Str→NameKind→Bool):∀ (l:List (Str × NameKind)) (x:Str),(l.map fun (n,k)=>if f n k=true then (n,NameKind.cell) else (n,k)).lookup x=(l.lookup x).map fun k=>if f x k=true then .cell else k
 | [],_=>rfl
 | (n,k) :: r,x=>by
  show List.lookup x ((if f n k=true then (n,NameKind.cell) else (n,k)) :: _)=_
  rw [show List.lookup x ((n,k) :: r)=(match x==n with | true=>some k | false=>List.lookup x r) from rfl]
  cases hx:x==n with
  | true=>
   have e:=eq_of_beq hx
   subst e
   by_cases q:f x k=true
   ·rw [if_pos q,List.lookup_cons,hx]; simp [q]
   ·rw [if_neg q,List.lookup_cons,hx]; simp [q]
  | false=>
   by_cases q:f n k=true
   ·rw [if_pos q,List.lookup_cons,hx]; exact map_lookup f r x
   ·rw [if_neg q,List.lookup_cons,hx]; exact map_lookup f r x
structure CompOk (c:TC) (sc:Scope) (xs:List Str) (k:Nat):Prop where
 kind:sc.kind=.function
 nd:(sc.names.map (·.1)).Nodup
 nc:∀ x∈sc.names,x.2≠.cell
 fr:∀ x∈sc.names,x.2=.free→c.kd x.1=some .cell
 xd:xs.Nodup
 xl:∀ x∈xs,sc.names.lookup x=some .local
 len:xs.length=k
theorem CompOk.of {c:TC} {sc:Scope} {xs:List Str} {k:Nat} (h:compOk c sc xs k=true):CompOk c sc xs k:=by
 unfold compOk at h
 simp only [Bool.and_eq_true,decide_eq_true_eq,List.all_eq_true,beq_iff_eq,bne_iff_ne,Bool.or_eq_true,Nat.beq_eq] at h
 obtain ⟨⟨⟨⟨⟨a,b⟩,d⟩,e⟩,f⟩,g⟩:=h
 exact ⟨a,b,fun x hx=>(d x hx).1,fun x hx q=>(d x hx).2.elim (fun z=>absurd q z) id,e,f,g⟩
section
variable {X:Cx} {k:Nat} {A:Around} {c:TC} {env:Env} {fr:Fr} {z z':Z} {s₀:Shared} {sc:Scope} {xs:List Str} {n:Nat} {C:Addr}
noncomputable def cenv (sc:Scope) (C:Addr) (env:Env):Env:=compEnvC sc (closeL env sc.names []) C env
theorem EnvR.comp (ok:CompOk c sc xs n) (E:EnvR X.w c env z fr) (nC:z.κ C=.no) (hC:z.h.Ns C fun _=>none):EnvR X.w (c.inner sc xs) (cenv sc C env) z (fr++List.replicate n none):=by
 have kd:∀ x,(cenv sc C env).kindOf x=(c.inner sc xs).kd x:=fun x=>by
  show List.lookup x (sc.names.map _)=(match sc.names.lookup x with | some .free=>some NameKind.cell | k=>k)
  rw [map_lookup fun n k=>k==.free&&env.scope.kind==.function&&env.kindOf n==some .cell]
  cases q:sc.names.lookup x with
  | none=>rfl
  | some kd=>
   cases kd with
   | free=>
    have:=ok.fr _ (mem_of_lookup q) rfl
    rw [Option.map_some,if_pos (by rw [E.s.kind,E.s.kd x,this]; rfl)]
   | _=>rfl
 have at_:∀ (i:Nat) x,(c.inner sc xs).ns[i]?=some (some x)→(i < c.ns.length∧c.ns[i]?=some (some x)∧sc.names.lookup x=some .free)∨(c.ns.length≤i∧xs[i - c.ns.length]?=some x):=fun i x h=>by
  have h:((c.ns.map fun n=>n.filter fun x=>sc.names.lookup x==some .free)++xs.map some)[i]?=some (some x):=h
  by_cases q:i < c.ns.length
  ·rw [List.getElem?_append_left (by rw [List.length_map]; exact q),List.getElem?_map] at h
   refine (Option.map_eq_some_iff.mp h).elim fun y y3=>?_
   obtain ⟨rfl,e2⟩:=Option.filter_eq_some_iff.mp y3.2
   exact .inl ⟨q,y3.1,eq_of_beq e2⟩
  ·have q:=Nat.le_of_not_lt q
   rw [List.getElem?_append_right (by rw [List.length_map]; exact q),List.length_map,List.getElem?_map] at h
   refine (Option.map_eq_some_iff.mp h).elim fun y y2=>?_
   obtain rfl:=Option.some.inj y2.2
   exact .inr ⟨q,y2.1⟩
 have kc:∀ x,sc.names.lookup x=some .free→(c.inner sc xs).kd x=some .cell:=fun x q=>by
  show (match sc.names.lookup x with | some .free=>some NameKind.cell | k=>k)=_
  rw [q]
 have kl:∀ x∈xs,(c.inner sc xs).kd x=some .local:=fun x q=>by
  show (match sc.names.lookup x with | some .free=>some NameKind.cell | k=>k)=_
  rw [ok.xl x q]
 refine ⟨⟨ok.kind,E.s.glo,E.s.bui,kd,fun i j x h h'=>?_,fun i x h=>?_,fun x h=>?_,fun x y a h1 h2=>E.s.cinj x y a (cl_sub h1) (cl_sub h2),fun h=>nomatch h⟩,?_,nC,⟨_,hC⟩,fun y a h=>E.cl y a (cl_sub h),fun i x v h e=>?_⟩
 ·rcases at_ i x h with ⟨a1,a2,a3⟩ | ⟨a1,a2⟩ <;> rcases at_ j x h' with ⟨b1,b2,b3⟩ | ⟨b1,b2⟩
  ·exact E.s.inj i j x a2 b2
  ·rw [ok.xl x (List.mem_of_getElem? b2)] at a3; cases a3
  ·rw [ok.xl x (List.mem_of_getElem? a2)] at b3; cases b3
  ·have:=(List.getElem?_inj (List.getElem?_eq_some_iff.mp a2).1 ok.xd).mp (a2.trans b2.symm); lia
 ·rcases at_ i x h with ⟨_,_,q⟩ | ⟨_,q⟩
  ·exact .inr (kc x q)
  ·exact .inl (kl x (List.mem_of_getElem? q))
 ·have h:(match sc.names.lookup x with | some .free=>some NameKind.cell | k=>k)=some NameKind.cell:=h
  cases q:sc.names.lookup x with
  | none=>rw [q] at h; cases h
  | some kd=>
   cases kd with
   | free=>
    refine (E.s.cel x (ok.fr _ (mem_of_lookup q) rfl)).elim fun a y1=>?_
    exact ⟨a,cl_has q y1⟩
   | cell=>exact absurd rfl (ok.nc _ (mem_of_lookup q))
   | _=>rw [q] at h; cases h
 ·show ((c.ns.map _)++xs.map some).length=_
  rw [List.length_append,List.length_append,List.length_map,List.length_map,List.length_replicate,E.len,ok.len]
 ·rcases at_ i x h with ⟨a1,a2,a3⟩ | ⟨a1,a2⟩
  ·rw [List.getElem?_append_left (by rw [← E.len]; exact a1)] at e
   refine (E.val i x v a2 e).elim fun u y0=>y0.elim fun a y0=>?_
   have q:=ok.fr _ (mem_of_lookup a3) rfl
   refine ⟨u,?_,y0⟩
   generalize some u=uu at a
   cases a with
   | loc k' _=>rw [q] at k'; cases k'
   | cell _ l hc=>exact .cell (kc x a3) (cl_has a3 l) hc
  ·rw [List.getElem?_append_right (by rw [← E.len]; exact a1),List.getElem?_replicate] at e
   split at e <;> exact nomatch e
end
end
section
structure DAt (X:Cx) (env:Env) (D:Addr) (z:Z) (acc:List NV):Prop where
 no:z.κ D=.no
 nz:¬ ZE env D
 at_:∃ us m,z.h.get? D=some (liO us m)∧VRs X.w z.κ acc us
 sz:acc.length≤cap
structure PAt (env:Env) (P:Addr→Prop) (D:Addr) (z:Z):Prop where
 no:∀ b,P b→z.κ b=.no
 nz:∀ b,P b→¬ ZE env b
 nD:¬ P D
 lv:∀ b,P b→(z.h.get? b).isSome=true
noncomputable def XL (env:Env) (P:Addr→Prop) (D b:Addr):Prop:=b=env.locals∨b=D∨P b
noncomputable abbrev CG (X:Cx) (k:Nat) (c:TC) (fs:List PySem.Expr) (cs:Fr→(Bool→NH→Prop)→NH→Prop):Prop:=
 ∀ ⦃A:Around⦄ ⦃env:Env⦄ ⦃fr:Fr⦄ ⦃KK:Bool→NH→Prop⦄ ⦃Qc:Bool→Shared→Prop⦄ ⦃z:Z⦄ ⦃s₀:Shared⦄,St X k A c env fr z→cs fr KK z.σ→(∀ b z',KK b z'.σ→Tr X X0 z z'→Qc b (z'.s s₀)) →
  wpAny (model p X.w) A (forIn fs true fun c r=>if r=true then do let ok ← isTrue c env (eval c env); pure (ForInStep.yield ok) else pure (ForInStep.yield r)) Qc Ef (z.s s₀)
section
variable {X:Cx} {k:Nat} {A:Around} {c:TC} {env:Env} {fr:Fr} {z z' z₀:Z} {s₀:Shared} {sc:Scope} {n:Nat} {C D I:Addr} {P P':Addr→Prop} {acc xs:List NV} {v:NV} {x:Value} {st:Nat→Z→Prop} {chk:NH→Prop} {tgt elt:PySem.Expr} {Q:Po} {Qc:Value→Shared→Prop}
theorem cg_nil:CG X k c [] fun _ K σ=>K true σ:=fun _ _ _ _ _ _ _ S hw hk=>wpAny_pure (hk true _ hw (.refl S.R))
theorem cg_one {o:COp} {a b:PySem.Expr} {ma mb:E} {q:Pos} (hm:behindInMarks (copB o) b=false) (ha:SE X k c a ma) (hb:SE X k c b mb):CG X k c [.Compare a [copB o] [b] q] fun fr K σ=>wE X.T (callN X.T k) (.cp o ma mb) fr (fun v σ=>cndK (fun b=>K b σ) v) σ:=fun _ _ _ _ _ _ _ S hw hk=>by
 rw [List.forIn_cons]
 refine wpAny_bind ?_
 simp only [if_true]
 refine wpAny_bind (st_cp' hm ha hb S hw fun b z' hq t=>wpAny_pure ?_)
 exact wpAny_pure (hk b z' hq t)
theorem DAt.go (d:DAt X env D z acc) (t:Tr X P z z') (hP:¬ P D):DAt X env D z' acc:=by
 refine (d.at_).elim fun us y1=>y1.elim fun m y1=>?_
 refine (t.g.no D _ d.no y1.1 hP).elim fun h1 y0=>?_
 exact ⟨h1,d.nz,⟨us,m,y0,y1.2.go t⟩,d.sz⟩
theorem PAt.kept (d:PAt env P D z) (t:Tr X P' z z') (hP:∀ b,P b→¬ P' b):∀ b,P b→∀ o,z.h.get? b=some o→z'.κ b=.no∧z'.h.get? b=some o:=fun b q o e=>t.g.no b o (d.no b q) e (hP b q)
theorem PAt.go (d:PAt env P D z) (t:Tr X P' z z') (hP:∀ b,P b→¬ P' b):PAt env P D z':=by
 refine ⟨fun b q=>?_,d.nz,d.nD,fun b q=>?_⟩ <;> obtain ⟨o,e⟩:=Option.isSome_iff_exists.mp (d.lv b q)
 ·exact (d.kept t hP b q o e).1
 ·rw [(d.kept t hP b q o e).2]; rfl
structure Bn (X:Cx) (env:Env) (P:Addr→Prop) (D:Addr) (z₀:Z) (st:Nat→Z→Prop) (i:Nat) (z:Z) (acc:List NV):Prop where
 st:st i z
 d:DAt X env D z acc
 p:PAt env P D z
 t:Tr X (XL env P D) z₀ z
theorem Bn.step {i:Nat} (S:Src X A tgt I P xs chk st) (b:Bn X env P D z₀ st i z acc) (t:Tr X P' z z') (hD:¬ P' D) (hP:∀ b,P b→¬ P' b) (hx:∀ b,P' b→XL env P D b∨z₀.h.get? b=none):Bn X env P D z₀ st i z' acc:=
 ⟨S.go i z z' b.st t.g.le fun x q o e=>(b.p.kept t hP x q o e).2,b.d.go t hD,b.p.go t hP,
  (((b.t.weak fun b q=>.inl (.inl q)).trans (t.weak (P':=fun b=>XL env P D b∨z₀.h.get? b=none) fun b q=>.inl (hx b q)))).weak fun b q=>q⟩
theorem Bn.step0 {i:Nat} (S:Src X A tgt I P xs chk st) (b:Bn X env P D z₀ st i z acc) (t:Tr X X0 z z'):Bn X env P D z₀ st i z' acc:=b.step S t id (fun _ _ h=>h) fun _ h=>h.elim
theorem append_D {Qc:Value→Shared→Prop} (R:Rel X.w X.h₀ z) (d:DAt X env D z acc) (rv:VR X.w z.κ v x) (sz:acc.length < cap)
  (hk:∀ z',z'.σ=z.σ→Tr X (fun b=>b=D) z z'→DAt X env D z' (acc++[v])→Qc .none (z'.s s₀)):wpAny (model p X.w) A (call (.builtin "list.append") [.ref D,x]) Qc Ef (z.s s₀):=by
 refine (d.at_).elim fun us y1=>y1.elim fun n y1=>y1.elim fun g y1=>?_
 have cs:cap≤sizeLine:=by decide
 have cc:us.toArray.size≤sizeLine:=by rw [List.size_toArray,← y1.length]; lia
 refine call_meets (s:=z.s s₀) PySem.F.slot_list_append ⟨_,g,rfl⟩ PySem.F.entry_list_append (PySem.F.args_list_append_2 _ _) (AutoListH.list_append_list_val_0 D us.toArray n x cc) ⟨g,?_⟩
 have o:∃ n',(liO us n).mapSeq (fun z=>z.push x)=liO (us++[x]) n':=⟨_,by unfold liO; simp [Obj.mapSeq]; rfl⟩
 refine o.elim fun n' y0=>?_
 have e':(z.h.update D (Obj.mapSeq fun z=>z.push x)).get? D=some (liO (us++[x]) n'):=by rw [Heap.get?_update_self _ g (by rw [y0]; rfl),y0]
 have t:Tr X (fun b=>b=D) z ⟨z.h.update D (Obj.mapSeq fun z=>z.push x),z.t,z.σ,z.κ⟩:=.apart R (fun b q=>q▸d.no) fun b hb y0 q=>(Heap.get?_update_ne _ _ _ _ hb).trans q
 exact hk ⟨_,z.t,z.σ,z.κ⟩ rfl t ⟨d.no,d.nz,⟨_,n',e',All2.append (.cons rv .nil) y1⟩,by rw [List.length_append]; exact sz⟩
theorem loop_core {cd:Value→Value→Env→Code} {ifs:List PySem.Expr} {pt:Pt} {cs:Fr→(Bool→NH→Prop)→NH→Prop} {m:E} (CL:CompLoop (w:=X.w) cd tgt ifs elt) (SPt:SP X c n tgt pt) (hn:∀ (i:Nat) x,n≤i→c.ns[i]?=some (some x)→c.kd x=some .local) (Hc:CG X k c ifs cs) (He:SE X k c elt m)
  (S:Src X A tgt I P xs chk st) {KK:Fr→List NV→NH→Prop} {RR:Result→Shared→Prop} (S₀:St X k A c env fr z) (b₀:Bn X env P D z st 0 z acc)
  (hw:loopC pt chk cs (fun fr Q σ=>wE X.T (callN X.T k) m fr Q σ) KK xs fr acc z.σ)
  (fin:∀ z' fr' acc',KK fr' acc' z'.σ→St X k A c env fr' z'→Tr X (XL env P D) z z'→DAt X env D z' acc'→RR (.ok .next) (z'.s s₀)):codeAny (model p X.w) A (cd (.ref I) (.ref D) env) RR (z.s s₀):=by
 let INV:Nat→Shared→Prop:=fun n s'=>∀ C:Prop,(∀ z₁ i fr' acc',s'=z₁.s s₀→n=xs.length - i→i≤xs.length→St X k A c env fr' z₁→Bn X env P D z st i z₁ acc' →
  loopC pt chk cs (fun fr Q σ=>wE X.T (callN X.T k) m fr Q σ) KK (xs.drop i) fr' acc' z₁.σ→C)→C
 refine CL A (.ref I) (.ref D) env RR INV ?_ _ _ fun _ k=>k z 0 fr acc rfl rfl (Nat.zero_le _) S₀ b₀ hw
 intro n' s' hI
 refine hI _ fun z₁ i fr' acc' e1 e2 hi S₁ b₁ hw'=>?_
 subst e1 e2
 have nl:∀ b,P b→b≠env.locals:=fun b q e=>b₀.p.nz b q (.inl e)
 have nDl:D≠env.locals:=fun e=>b₀.d.nz (.inl e)
 by_cases hlt:i < xs.length
 ·have hx:xs[i]?=some xs[i]:=List.getElem?_eq_getElem hlt
  rw [List.drop_eq_getElem_cons hlt] at hw'
  obtain ⟨hc,hb⟩:=hw'
  refine wpAny_mono (S.item i _ z₁ s₀ (fun v s₀=>wpAny (model p X.w) A (assign tgt env v) (fun _ s₂=>
    wpAny (model p X.w) A (forIn ifs true fun c r=>if r=true then do let ok ← isTrue c env (eval c env); pure (ForInStep.yield ok) else pure (ForInStep.yield r)) (fun ok s₃=>
     if ok=true then wpAny (model p X.w) A (eval elt env) (fun x s₄=>wpAny (model p X.w) A (call (.builtin "list.append") [.ref D,x]) (fun _ s₅=>∃ m,m < xs.length - i∧INV m s₅) Ef s₄) Ef s₃
     else ∃ m,m < xs.length - i∧INV m s₃) Ef s₂) Ef s₀) hx b₁.st S₁.R b₁.p.no hc fun v z₂ e₂ t₂ no₂ rv st₂=>?_) (fun r s₁ q=>.inr q) fun _ _ f=>f.elim
  have b₂:Bn X env P D z st (i+1) z₂ acc':=⟨st₂,b₁.d.go t₂ b₁.p.nD,⟨no₂,b₁.p.nz,b₁.p.nD,fun b q=>S.live _ _ b st₂ q⟩,b₁.t.trans (t₂.weak fun b q=>.inl (.inr (.inr q)))⟩
  have E₂:=S₁.E.go t₂.g b₁.p.nz
  refine SPt (P:=fun b=>b=env.locals) S₁.rm.h (fun j x b h1 h2 h3=>h3.elim (fun q=>q.2) fun q=>by rw [hn j x h1 h2] at q; exact nomatch q.1) t₂.R E₂ rv hb fun fr₃ z₃ hw₃ e₃ E₃ t₃=>?_
  have b₃:=b₂.step S t₃ nDl nl fun b q=>.inl (.inl q)
  rw [← e₂,← e₃] at hw₃
  have S₃:St X k A c env fr₃ z₃:=⟨S₁.rm,E₃,t₃.R⟩
  refine Hc S₃ hw₃ fun b z₄ hw₄ t₄=>?_
  have b₄:=b₃.step0 S t₄
  have S₄:=S₃.go t₄
  rcases b with _ | _
  ·exact ⟨xs.length - (i+1),Nat.sub_succ_lt_self _ _ hlt,fun _ k=>k z₄ (i+1) fr₃ acc' rfl rfl hlt S₄ b₄ hw₄⟩
  ·rw [if_pos rfl]
   refine He S₄ hw₄ fun v₅ u₅ z₅ hw₅ t₅ rv₅=>?_
   refine hw₅.elim fun sz y0=>?_
   have b₅:=b₄.step0 S t₅
   have S₅:=S₄.go t₅
   refine append_D S₅.R b₅.d rv₅ sz fun z₆ e₆ t₆ d₆=>?_
   have hD:∀ b,P b→¬ b=D:=fun b q e=>b₀.p.nD (e▸q)
   exact ⟨xs.length - (i+1),Nat.sub_succ_lt_self _ _ hlt,fun _ k=>k z₆ (i+1) fr₃ (acc'++[v₅]) rfl rfl hlt ⟨S₅.rm,S₅.E.go t₆.g fun b q=>q▸b₀.d.nz,t₆.R⟩ ⟨S.go _ _ _ b₅.st t₆.g.le fun x q o e=>(b₅.p.kept t₆ hD x q o e).2,d₆,b₅.p.go t₆ hD,b₅.t.trans (t₆.weak fun b q=>.inl (.inr (.inl q)))⟩ (by rw [e₆]; exact y0)⟩
 ·have hx:xs[i]?=none:=List.getElem?_eq_none_iff.mpr (Nat.le_of_not_lt hlt)
  rw [List.drop_of_length_le (Nat.le_of_not_lt hlt)] at hw'
  obtain ⟨hc,hw'⟩:=hw'
  refine wpAny_mono (S.done i z₁ s₀ (fun s₁=>RR (.ok .next) s₁) hx hi b₁.st S₁.R b₁.p.no hc fun z₂ e₂ t₂=>?_) (fun r s₁ q=>.inl q) fun _ _ f=>f.elim
  exact fin z₂ fr' acc' (by rw [e₂]; exact hw') ⟨S₁.rm,S₁.E.go t₂.g b₁.p.nz,t₂.R⟩ (b₁.t.trans (t₂.weak fun b q=>.inl (.inr (.inr q)))) (b₁.d.go t₂ b₁.p.nD)
noncomputable abbrev FinC (X:Cx) (A:Around) (use:Option (Value→Sem Unit)) (Q:Po) (Qc:Value→Shared→Prop) (z:Z) (s₀:Shared):Prop:=
 ∀ v D C z',Q v z'.σ→Tr X X0 z z'→VR X.w z'.κ v (.ref D)→z'.κ C=.no→z.h.get? C=none→(∃ m,z'.h.Ns C m)→compPost (model p X.w) A Ef use Qc (.ref D) C (.ok .next) (z'.s s₀)
theorem comp_any {e:PySem.Expr} {pos:Pos} {g:Comprehension} {gs:List Comprehension} {use:Option (Value→Sem Unit)} {it:E} {ik:IK} {ns:List Str} {q:Pol} (ok:CompOk c sc ns n) (hcl:clausesOf e=g :: gs) (SI:SIt X k c g.target g.iter ik it)
  {KK:List NV→(NH→Prop)→NH→Prop} (hs:∀ x,foldedSetIterable g.iter env x=pure x) (S:St X k A c env fr z)
  (hw:wE X.T (callN X.T k) it fr (fun t σ=>argK (fun vs=>wIt X.T ik vs KK σ) t) z.σ)
  (run:∀ xs chk z' I P st D C RR,KK xs chk z'.σ→St X k A (c.inner sc ns) (cenv sc C env) (fr++List.replicate n none) z'→Src X A g.target I P xs chk st→Bn X (cenv sc C env) P D z' st 0 z' [] →
   (∀ z'' fr' acc',alloc q acc' Q z''.σ→St X k A (c.inner sc ns) (cenv sc C env) fr' z''→Tr X (XL (cenv sc C env) P D) z' z''→DAt X (cenv sc C env) D z'' acc'→RR (.ok .next) (z''.s s₀)) →
   codeAny (model p X.w) A (.compStart e 0 (.ref I) (.ref D) (cenv sc C env)) RR (z'.s s₀))
  (fin:FinC X A use Q Qc z s₀):wpAny (model p X.w) A (comprehension e sc env pos (newList []) false (eval g.iter env) use) Qc Ef (z.s s₀):=by
 have hfree:∀ x∈sc.names,x.2=.free→∃ a,env.cells.lookup x.1=some a:=fun x hx q=>S.E.s.cel x.1 (ok.fr x hx q)
 refine wpAny_comprehension_free hcl hs (closure_eq sc env hfree) ok.kind (fun x hx q=>by
  have:=lookup_mem sc.names ok.nd x.1 x.2 hx
  rw [q] at this; exact this) ?_
 refine SI S hw fun xs chk z₂ I P st hKK t₂ Sr st₂ hz=>?_
 refine wpAny_newObj_type ?_
 have e0:z₂.h.get? z₂.h.objs.size=none:=size_none _
 refine wpAny_newFunctionEnv ok.nc (by intro y hy; simp at hy) (fun h₄ hns hsb=>?_) ok.kind
 dsimp only at hns hsb ⊢
 generalize hH:z₂.h.push { cls:=.type "list",data:=.seq ([]:List Value).toArray }=h₃ at hns hsb ⊢
 have e1:h₃.get? h₃.objs.size=none:=size_none h₃
 have hsz:h₃.objs.size=z₂.h.objs.size+1:=by rw [← hH,Heap.size_push]
 have up₄:∀ b o,h₃.get? b=some o→h₄.get? b=some o:=fun b o q=>(hsb.2 b (Nat.ne_of_lt (Heap.lt_size q))).trans (Heap.get?_push_of_some _ q)
 have up:∀ b o,z₂.h.get? b=some o→h₄.get? b=some o:=fun b o q=>up₄ b o (by rw [← hH]; exact Heap.get?_push_of_some _ q)
 have D3:h₃.get? z₂.h.objs.size=some (liO [] 0):=by rw [← hH]; exact Heap.get?_push_size _ rfl
 have hDC:z₂.h.objs.size≠h₃.objs.size:=by rw [hsz]; exact Nat.ne_of_lt (Nat.lt_succ_self _)
 have C2:z₂.h.get? h₃.objs.size=none:=size_up (by rw [hsz]; exact Nat.le_succ _)
 have t₄:Tr X X0 z₂ ⟨h₄,z₂.t+0,z₂.σ,z₂.κ⟩:=.grow t₂.R up
 have S₄:=(S.go t₂).go t₄
 have S₅:St X k A (c.inner sc ns) (cenv sc h₃.objs.size env) (fr++List.replicate n none) ⟨h₄,z₂.t+0,z₂.σ,z₂.κ⟩:=⟨S.rm,S₄.E.comp ok (t₂.R.noOf C2) hns,S₄.R⟩
 have zeC:∀ b,ZE (cenv sc h₃.objs.size env) b→b=h₃.objs.size∨ZE env b:=fun b q=>q.imp id fun ⟨y,q⟩=>.inr ⟨y,cl_sub q⟩
 have live:∀ b,ZE env b→(z.h.get? b).isSome=true:=fun b q=>(S.E.live q).2
 have nz:∀ b,z.h.get? b=none→b≠h₃.objs.size→¬ ZE (cenv sc h₃.objs.size env) b:=fun b e ne q=>(zeC b q).elim ne fun q=>by have:=live b q; rw [e] at this; cases this
 have dd:∀ b,z₂.h.get? b=none→z.h.get? b=none:=fun b q=>Go.dead t₂.g q
 have lv:∀ b,P b→(z₂.h.get? b).isSome=true:=fun b q=>Sr.live 0 _ b st₂ q
 have bn:Bn X (cenv sc h₃.objs.size env) P z₂.h.objs.size ⟨h₄,z₂.t+0,z₂.σ,z₂.κ⟩ st 0 ⟨h₄,z₂.t+0,z₂.σ,z₂.κ⟩ []:=by
  refine ⟨Sr.go 0 z₂ _ st₂ t₄.g.le fun b q o e=>up b o e,⟨t₂.R.noOf e0,nz _ (dd _ e0) hDC,⟨[],0,up₄ _ _ D3,.nil⟩,Nat.zero_le _⟩,⟨fun b q=>(hz b q).1,fun b q=>nz b (hz b q).2 fun e=>?_,fun q=>?_,fun b q=>?_⟩,.refl t₄.R⟩
  ·have:=lv b q; rw [e,C2] at this; cases this
  ·have:=lv _ q; rw [e0] at this; cases this
  ·refine (Option.isSome_iff_exists.mp (lv b q)).elim fun o y2=>?_
   show (h₄.get? b).isSome=true
   rw [up b o y2]; rfl
 show codeAny (model p X.w) A (.compStart e 0 (.ref I) (.ref z₂.h.objs.size) (cenv sc h₃.objs.size env)) (compPost (model p X.w) A Ef use Qc (.ref z₂.h.objs.size) h₃.objs.size) ((Z.mk h₄ (z₂.t+0) z₂.σ z₂.κ).s s₀)
 refine run xs chk ⟨h₄,z₂.t+0,z₂.σ,z₂.κ⟩ I P st z₂.h.objs.size h₃.objs.size _ hKK S₅ Sr bn fun z₆ fr' acc' hq S₆ t₆ d₆=>?_
 refine (d₆.at_).elim fun us y1=>y1.elim fun m y1=>?_
 refine (alloc_ok S₆.R d₆.no y1.1 y1.2 d₆.sz hq).elim fun v y0=>y0.elim fun σ' y0=>y0.elim fun κ' y0=>?_
 have lc:=S₆.E.live (.inl rfl)
 obtain ⟨oC,hoC⟩:=Option.isSome_iff_exists.mp lc.2
 have tt:Tr X (fun b=>XL (cenv sc h₃.objs.size env) P z₂.h.objs.size b∨b=z₂.h.objs.size) z ⟨z₆.h,z₆.t,σ',κ'⟩:=
  (((t₂.trans t₄).up).trans (t₆.weak fun b q=>.inl (.inl q))).trans (y0.2.1.weak fun b q=>.inl (.inr q))
 refine fin v _ _ ⟨z₆.h,z₆.t,σ',κ'⟩ y0.1 (tt.fresh fun b q=>?_) y0.2.2 (y0.2.1.g.no _ oC lc.1 hoC (Ne.symm hDC)).1 (dd _ C2) S₆.E.ns
 rcases q with (q | q | q) | q
 ·rw [show b=h₃.objs.size from q]; exact dd _ C2
 ·rw [q]; exact dd _ e0
 ·exact (hz b q).2
 ·rw [q]; exact dd _ e0
theorem drop_C {h₂:Heap} {t:Nat} (tr:Tr X X0 z z') (nC:z'.κ C=.no) (dC:z.h.get? C=none) (sb:Heap.SameBut C z'.h h₂):Tr X X0 z ⟨h₂,t,z'.σ,z'.κ⟩:=
 ((tr.up (P:=fun b=>b=C)).trans (.apart tr.R (fun b q=>q▸nC) fun b hb o e=>(sb.2 b hb).trans e)).fresh fun b q=>q▸dC
noncomputable def CompOK (X:Cx) (k:Nat) (c:TC) (e:PySem.Expr) (m:E):Prop:=
 ∃ (elt:PySem.Expr) (gens:List Comprehension) (sc:Scope) (pos:Pos),e=.ListComp elt gens sc pos∧firstAsync gens=false ∧
 ∀ {A:Around} {env:Env} {fr:Fr} {Q:Po} {Qc:Value→Shared→Prop} {z:Z} {s₀:Shared} {use:Option (Value→Sem Unit)} {pos':Pos},St X k A c env fr z→wE X.T (callN X.T k) m fr Q z.σ→FinC X A use Q Qc z s₀ →
  wpAny (model p X.w) A (comprehension e sc env pos' (newList []) false (firstIter gens env) use) Qc Ef (z.s s₀)
theorem CompOK.se {e:PySem.Expr} {m:E} (h:CompOK X k c e m):SE X k c e m:=fun _ _ _ _ _ _ _ S hw hk=>by
 obtain ⟨elt,gens,sc,pos,rfl,ha,h⟩:=h
 rw [eval_ListComp,ha]
 exact h (use:=none) S hw fun v D C z' hq t r nC dC n=>⟨_,n.choose_spec,fun h'' sb=>hk v _ ⟨h'',_,z'.σ,z'.κ⟩ hq (drop_C t nC dC sb) r⟩
theorem inner_local {ns:List Str} {xs:List Str} (ok:CompOk c sc xs n) (i:Nat) (x:Str) (h1:c.ns.length≤i) (h:(c.inner sc xs).ns[i]?=some (some x)):(c.inner sc xs).kd x=some .local:=by
 have h:((c.ns.map fun n=>n.filter fun x=>sc.names.lookup x==some .free)++xs.map some)[i]?=some (some x):=h
 rw [List.getElem?_append_right (by rw [List.length_map]; exact h1),List.length_map,List.getElem?_map] at h
 obtain ⟨y,hy,e⟩:=Option.map_eq_some_iff.mp h
 cases e
 show (match sc.names.lookup x with | some .free=>some NameKind.cell | k=>k)=_
 rw [ok.xl x (List.mem_of_getElem? hy)]
theorem comp1_ok {t i:PySem.Expr} {fs:List PySem.Expr} {pos:Pos} {m it cs:E} {pt:Pt} {g:IK} {q:Pol} {ns:List Str} (ok:CompOk c sc ns n) (hs:∀ env x,foldedSetIterable i env x=pure x) (SPt:SP X (c.inner sc ns) c.ns.length t pt)
  (SI:SIt X k c t i g it) (He:SE X k (c.inner sc ns) elt m) (Hc:CG X k (c.inner sc ns) fs fun fr K σ=>wE X.T (callN X.T k) cs fr (fun v σ=>cndK (fun b=>K b σ) v) σ):CompOK X k c (.ListComp elt [⟨t,i,fs,0⟩] sc pos) (.cm q n pt g it cs m):=by
 refine ⟨_,_,_,_,rfl,rfl,fun S hw fin=>?_⟩
 refine comp_any (g:=⟨t,i,fs,0⟩) (q:=q) ok rfl SI (hs _) S hw (fun xs chk z' I P st D C RR hw' S' Sr bn fin'=>?_) fin
 have loop:=loop_core (cd:=fun it acc env=>.compLoop (.ListComp elt [⟨t,i,fs,0⟩] sc pos) 0 it acc env) compLoop1 SPt (inner_local (ns:=ns) ok) Hc He Sr S' bn hw' fin'
 exact codeAny_compStart_list loop (toE (Sr.iter 0 z' _ _ bn.st loop))
end
end
section
section
variable {X:Cx} {k:Nat} {A:Around} {c:TC} {sc:Scope} {n:Nat} {elt:PySem.Expr}
theorem comp2_ok {t i t2 i2:PySem.Expr} {pos:Pos} {m it mi2:E} {pt pt2:Pt} {g:IK} {ns:List Str} (ok:CompOk c sc ns n) (hs:∀ env x,foldedSetIterable i env x=pure x) (hs2:∀ env x,foldedSetIterable i2 env x=pure x) (SPt:SP X (c.inner sc ns) c.ns.length t pt) (SPt2:SP X (c.inner sc ns) c.ns.length t2 pt2)
  (SI:SIt X k c t i g it) (He:SE X k (c.inner sc ns) elt m) (Hi2:SE X k (c.inner sc ns) i2 mi2):CompOK X k c (.ListComp elt [⟨t,i,[],0⟩,⟨t2,i2,[],0⟩] sc pos) (.c2 n pt g it pt2 mi2 m):=by
 refine ⟨_,_,_,_,rfl,rfl,fun {A env fr Q Qc z s₀ use pos'} S hw fin=>?_⟩
 refine comp_any (g:=⟨t,i,[],0⟩) (q:=.f) ok rfl SI (hs _) S hw (fun xs chk z₀ I P st D C RR hw' S₀ Sr b₀ fin'=>?_) fin
 have hn:=inner_local (ns:=ns) ok
 generalize cenv sc C env=cv at S₀ b₀ fin' ⊢
 have nl:∀ b,P b→b≠cv.locals:=fun b q e=>b₀.p.nz b q (.inl e)
 have nDl:D≠cv.locals:=fun e=>b₀.d.nz (.inl e)
 let INV:Nat→Shared→Prop:=fun n' s'=>∀ C:Prop,(∀ z₁ j fr' acc',s'=z₁.s s₀→n'=xs.length - j→j≤xs.length→St X k A (c.inner sc ns) cv fr' z₁→Bn X cv P D z₀ st j z₁ acc' →
  loopC2 X.T pt pt2 chk (fun fr Q σ=>wE X.T (callN X.T k) mi2 fr Q σ) (fun fr Q σ=>wE X.T (callN X.T k) m fr Q σ) (fun acc σ=>Q (.fl acc) σ) (xs.drop j) fr' acc' z₁.σ→C)→C
 have loop:codeAny (model p X.w) A (.compLoop (.ListComp elt [⟨t,i,[],0⟩,⟨t2,i2,[],0⟩] sc pos) 0 (.ref I) (.ref D) cv) RR (z₀.s s₀):=by
  refine outer_loop (hs2 cv) INV ?_ _ _ fun _ k=>k z₀ 0 _ [] rfl rfl (Nat.zero_le _) S₀ b₀ hw'
  intro n' s₁ hI
  refine hI _ fun z₁ j fr₁ acc₁ e1 e2 hi S₁ b₁ hw₁=>?_
  subst e1 e2
  by_cases hlt:j < xs.length
  ·have hx:xs[j]?=some xs[j]:=List.getElem?_eq_getElem hlt
   replace hw₁:=List.drop_eq_getElem_cons hlt▸hw₁
   refine wpAny_mono (Sr.item j _ z₁ s₀ (fun v s₀=>wpAny (model p X.w) A (assign t cv v) (fun _ s₂=>wpAny (model p X.w) A (eval i2 cv) (fun x s₃=>wpAny (model p X.w) A (pyIter x) (fun it2 s₄=>
     codeAny (model p X.w) A (.compStart (.ListComp elt [⟨t,i,[],0⟩,⟨t2,i2,[],0⟩] sc pos) 1 it2 (.ref D) cv) (fun r s₅=>r=.ok .next∧∃ m,m < xs.length - j∧INV m s₅) s₄) Ef s₃) Ef s₂) Ef s₀) hx b₁.st S₁.R b₁.p.no hw₁.1 fun v z₂ e₂ t₂ no₂ rv st₂=>?_) (fun r s₁ q=>.inr q) fun _ _ f=>f.elim
   have b₂:Bn X cv P D z₀ st (j+1) z₂ acc₁:=⟨st₂,b₁.d.go t₂ b₁.p.nD,⟨no₂,b₁.p.nz,b₁.p.nD,fun b q=>Sr.live _ _ b st₂ q⟩,b₁.t.trans (t₂.weak fun b q=>.inl (.inr (.inr q)))⟩
   refine SPt (P:=fun b=>b=cv.locals) S₁.rm.h (fun j x b h1 h2 h3=>h3.elim (fun q=>q.2) fun q=>by rw [hn j x h1 h2] at q; exact nomatch q.1) t₂.R (S₁.E.go t₂.g b₁.p.nz) rv hw₁.2 fun fr₃ z₃ hw₃ e₃ E₃ t₃=>?_
   have b₃:=b₂.step Sr t₃ nDl nl fun b q=>.inl (.inl q)
   rw [← e₂,← e₃] at hw₃
   have S₃:St X k A (c.inner sc ns) cv fr₃ z₃:=⟨S₁.rm,E₃,t₃.R⟩
   refine Hi2 S₃ hw₃ fun v₄ x₄ z₄ hw₄ t₄ rv₄=>?_
   have b₄:=b₃.step0 Sr t₄
   have S₄:=S₃.go t₄
   refine over_ok (tgt:=t2) S₄.rm.h S₄.R rv₄ hw₄ fun ys chk2 z₅ I2 P2 st2 hw₅ t₅ S2 st20 hz2=>?_
   have b₅:=b₄.step0 Sr t₅
   have S₅:=S₄.go t₅
   have nP2:∀ b,P2 b→(z₄.h.get? b).isSome=true→False:=fun b q l=>by rw [(hz2 b q).2] at l; cases l
   have lD:(z₄.h.get? D).isSome=true:=by obtain ⟨us,m,e,_⟩:=b₄.d.at_; rw [e]; rfl
   have bi:Bn X cv P2 D z₅ st2 0 z₅ acc₁:=⟨st20,b₅.d,⟨fun b q=>(hz2 b q).1,fun b q zq=>nP2 b q (S₄.E.live zq).2,fun q=>nP2 D q lD,fun b q=>S2.live 0 _ b st20 q⟩,.refl S₅.R⟩
   have nx:∀ b,P b→¬ XL cv P2 D b:=fun b q x=>x.elim (nl b q) fun x=>x.elim (fun e=>b₀.p.nD (e▸q)) fun x=>nP2 b x (b₄.p.lv b q)
   have inner:codeAny (model p X.w) A (.compLoop (.ListComp elt [⟨t,i,[],0⟩,⟨t2,i2,[],0⟩] sc pos) 1 (.ref I2) (.ref D) cv) (fun r s₅=>r=.ok .next∧∃ m',m' < xs.length - j∧INV m' s₅) (z₅.s s₀):=by
    refine loop_core (cd:=fun it acc env=>.compLoop (.ListComp elt [⟨t,i,[],0⟩,⟨t2,i2,[],0⟩] sc pos) 1 it acc env) compLoop2 SPt2 hn cg_nil He S2 S₅ bi hw₅ fun z₆ fr' acc' hq S₆ t₆ d₆=>⟨rfl,xs.length - (j+1),Nat.sub_succ_lt_self _ _ hlt,fun _ k=>k z₆ (j+1) fr' acc' rfl rfl hlt S₆ ⟨Sr.go _ _ _ b₅.st t₆.g.le fun x q o e=>(b₅.p.kept t₆ nx x q o e).2,d₆,b₅.p.go t₆ nx,?_⟩ hq⟩
    refine ((b₅.t.weak (P':=fun b=>XL cv P D b∨z₀.h.get? b=none) fun b q=>.inl (.inl q)).trans (t₆.weak fun b x=>.inl ?_)).weak fun b q=>q
    rcases x with x | x | x
    ·exact .inl (.inl x)
    ·exact .inl (.inr (.inl x))
    ·refine .inr ?_
     cases e:z₀.h.get? b with
     | none=>rfl
     | some o=>
      rcases b₄.t.g.live b (by rw [e]; rfl) with q | q | q | q
      ·exact (nP2 b x q).elim
      ·exact (nP2 b x (S₄.E.live (.inl q)).2).elim
      ·exact (nP2 b x (q▸lD)).elim
      ·exact (nP2 b x (b₄.p.lv b q)).elim
   exact codeAny_compStart_two inner (S2.iter 0 z₅ _ _ st20 inner)
  ·have hx:xs[j]?=none:=List.getElem?_eq_none_iff.mpr (Nat.le_of_not_lt hlt)
   rw [List.drop_of_length_le (Nat.le_of_not_lt hlt)] at hw₁
   obtain ⟨hc,hw₁⟩:=hw₁
   refine wpAny_mono (Sr.done j z₁ s₀ (fun s₁=>RR (.ok .next) s₁) hx hi b₁.st S₁.R b₁.p.no hc fun z₂ e₂ t₂=>?_) (fun r s₁ q=>.inl q) fun _ _ f=>f.elim
   exact fin' z₂ fr₁ acc₁ (by rw [e₂]; exact hw₁) ⟨S₁.rm,S₁.E.go t₂.g b₁.p.nz,t₂.R⟩ (b₁.t.trans (t₂.weak fun b q=>.inl (.inr (.inr q)))) (b₁.d.go t₂ b₁.p.nD)
 exact codeAny_compStart_list loop (toE (Sr.iter 0 z₀ _ _ b₀.st loop))
end
end
section
theorem al {a b:Bool} (h:(a&&b)=true):a=true:=((Bool.and_eq_true a b).mp h).1
theorem ar {a b:Bool} (h:(a&&b)=true):b=true:=((Bool.and_eq_true a b).mp h).2
theorem an {a b:Bool} (h:(a&&b)=true):a=true∧b=true:=(Bool.and_eq_true a b).mp h
theorem nt {b:Bool} (h:(!b)=true):b=false:=(Bool.not_eq_true' b).mp h
theorem noMark {e:PySem.Expr} (g:good e=true) (op:CmpOp):behindInMarks op e=false:=by
 induction e using PySem.Expr.casesOn <;> first | rfl | exact absurd g Bool.false_ne_true
theorem noSet {e:PySem.Expr} (g:good e=true) (env:Env) (x:Value):foldedSetIterable e env x=pure x:=by
 induction e using PySem.Expr.casesOn <;> first | rfl | exact absurd g Bool.false_ne_true
structure EX (X:Cx) (k:Nat) (c:TC) (e:PySem.Expr) (m:E):Prop where
 gd:good e=true
 se:SE X k c e m
 tr:STr X k c e m
 cp:isComp e=true→CompOK X k c e m
structure PX (X:Cx) (k:Nat) (c:TC) (m:E) (e:PySem.Expr):Prop where
 ex:isArg m=false→EX X k c e m
 ar:isArg m=true→Each X k c (px e) m
 bo:∀ b,isBo b m=true→BE X k c b (px e) m∧BT X k c b (px e) m∧px e≠[]
 cg:isCp m=true→CG X k c (match isE0 m with
  | true=>[]
  | false=>[e]) fun fr K σ=>wE X.T (callN X.T k) m fr (fun v σ=>cndK (fun b=>K b σ) v) σ
section
variable {X:Cx} {k:Nat} {c:TC} {e:PySem.Expr} {m:E}
theorem EX.of (h:SE X k c e m) (he:∀ env whole,isTrue e env whole=(do let v ← whole; standAt e.pos; holding [v] (truthy v))) (g:good e=true) (nc:isComp e=false):EX X k c e m:=
 ⟨g,h,st_value h he,fun q=>by rw [nc] at q; cases q⟩
theorem PX.of (x:EX X k c e m) (h1:isArg m=false) (h2:∀ b,isBo b m=false) (h3:isCp m=false):PX X k c m e:=
 ⟨fun _=>x,(fun q=>by rw [h1] at q; cases q),(fun b q=>by rw [h2] at q; cases q),fun q=>by rw [h3] at q; cases q⟩
theorem EX.comp (h:CompOK X k c e m) (g:good e=true):EX X k c e m:=by
 have hc:=h
 obtain ⟨elt,gens,sc,pos,rfl,_⟩:=h
 exact ⟨g,hc.se,st_value hc.se fun _ _=>rfl,fun _=>hc⟩
set_option tactic.hygienic true in
theorem lit_ex {v:NV} {e:PySem.Expr} (o:litOk v=true):EX X k c (rbLit v e) (.li v):=by
 induction v using NV.casesOn <;> first | exact absurd o Bool.false_ne_true | exact .of (se_lit o) (fun _ _=>rfl) rfl rfl | skip
 case int i=>rcases i with _ | _ <;> exact .of (se_lit o) (fun _ _=>rfl) rfl rfl
theorem tupT {pt:Pt} {n:Nat} {e:PySem.Expr} (o:ptOk c n pt false=true) (h:isTup pt=true):isTupT (rbP c pt e)=true:=by
 cases pt with
 | loc i=>cases h
 | nil=>cases o
 | cons a b=>rfl
theorem sit_ok {g:IK} {it:E} {pt:Pt} {e tgt r:PySem.Expr} (ho:itOk g it pt c=true) (H:Each X k c (px r) it) (ht:isTup pt=true→isTupT tgt=true):SIt X k c tgt (rbI g r e) g it∧∀ env x,foldedSetIterable (rbI g r e) env x=pure x:=by
 cases g with
 | over=>
  show SIt X k c tgt (((px r)[0]?).getD default) .over it∧∀ env x,foldedSetIterable (((px r)[0]?).getD default) env x=pure x
  generalize px r=es at H
  cases H with
  | nil=>cases ho
  | cons g1 h1 H=>
   cases H with
   | cons _ _ _=>cases ho
   | nil=>exact ⟨si_over h1,noSet g1⟩
 | enum=>exact ⟨si_call (g:=.enum) (fun h=>nomatch h) (fun _=>ht (an ho).1) (eq_of_beq (an ho).2) H,fun _ _=>rfl⟩
 | range1=>exact ⟨si_call (g:=.range1) (fun h=>nomatch h) (fun h=>nomatch h) (eq_of_beq ho) H,fun _ _=>rfl⟩
 | range3=>exact ⟨si_call (g:=.range3) (fun h=>nomatch h) (fun h=>nomatch h) (eq_of_beq ho) H,fun _ _=>rfl⟩
theorem all_lt {ks:List Nat} (h:(ks.all fun n=>decide (n < tab.length))=true):∀ k∈ks,k < tab.length:=fun k hk=>of_decide_eq_true (List.all_eq_true.mp h k hk)
end
theorem isName_eq {e:PySem.Expr} (h:isName e=true):∃ x q,e=.Name x q:=by
 induction e using PySem.Expr.casesOn <;> first | exact absurd h Bool.false_ne_true | exact ⟨_,_,rfl⟩
theorem bo_ok {X:Cx} {k:Nat} {c:TC} {e:PySem.Expr} {j m:Bool} {a b:E} (x1:EX X k c (rb a c (ko e 0)) a)
  (h1:m=true→BE X k c j (px (rb (.bo j m a b) c e)) (.bo j m a b)∧BT X k c j (px (rb (.bo j m a b) c e)) (.bo j m a b))
  (h2:m=false→BE X k c j (px (rb (.bo j m a b) c e)) (.bo j m a b)∧BT X k c j (px (rb (.bo j m a b) c e)) (.bo j m a b)):PX X k c (.bo j m a b) (rb (.bo j m a b) c e):=by
 have key:BE X k c j (px (rb (.bo j m a b) c e)) (.bo j m a b)∧BT X k c j (px (rb (.bo j m a b) c e)) (.bo j m a b):=by
  rcases m with _ | _
  ·exact h2 rfl
  ·exact h1 rfl
 refine ⟨fun _=>⟨rfl,fun _ _ _ _ _ _ _ S hw hk=>?_,fun _ _ _ _ _ _ _ _ S hw hk=>?_,fun q=>nomatch q⟩,(fun q=>nomatch q),fun b' q=>?_,fun q=>nomatch q⟩
 ·show wpAny _ _ (eval (.BoolOp _ _ _) _) _ _ _
  rw [arm_eval_BoolOp]
  have:=key.1 S hw hk (e.pos)
  rcases j with _ | _ <;> exact this
 ·refine wpAny_isTrue_BoolOp ?_
  have:=key.2 S hw hk
  rcases j with _ | _ <;> exact this
 ·obtain rfl:b'=j:=eq_of_beq (show (b'==j)=true from q)
  exact ⟨key.1,key.2,fun q=>nomatch q⟩
theorem exp_ok {X:Cx} {k:Nat} (OK:CallOK X k):∀ (m:E) (c:TC) (e:PySem.Expr),ok m c e=true→PX X k c m (rb m c e):=by
 intro m
 induction m with
 | li v=>exact fun c e h=>.of (lit_ex h) rfl (fun _=>rfl) rfl
 | gb x v=>exact fun c e h=>.of (.of (se_gb h) (fun _ _=>rfl) rfl rfl) rfl (fun _=>rfl) rfl
 | lo i=>exact fun c e h=>.of (.of (se_lo h) (fun _ _=>rfl) rfl rfl) rfl (fun _=>rfl) rfl
 | ar o f ih=>
  intro c e h
  exact .of (.of (se_ar (ar h) ((ih c _ (al (al h))).ex (nt (ar (al h)))).se) (fun _ _=>rfl) rfl rfl) rfl (fun _=>rfl) rfl
 | bm o f ih=>
  intro c e h
  exact .of (.of (se_bm (ar (al h)) (of_decide_eq_true (ar h)) ((ih c _ (al (al (al h)))).ex (nt (ar (al (al h))))).se) (fun _ _=>rfl) rfl rfl) rfl (fun _=>rfl) rfl
 | sb o i ih1 ih2=>
  intro c e h
  have x2:=(ih2 c _ (ar (al h))).ex (nt (ar h))
  exact .of (.of (se_sb x2.gd ((ih1 c _ (al (al (al h)))).ex (nt (ar (al (al h))))).se x2.se) (fun _ _=>rfl) rfl rfl) rfl (fun _=>rfl) rfl
 | tk o i ih1 ih2=>
  intro c e h
  exact .of (.of (se_tk ((ih1 c _ (al (al (al h)))).ex (nt (ar (al (al h))))).se ((ih2 c _ (ar (al h))).ex (nt (ar h))).se) (fun _ _=>rfl) rfl rfl) rfl (fun _=>rfl) rfl
 | dp o i ih1 ih2=>
  intro c e h
  exact .of (.of (se_dp ((ih1 c _ (al (al (al h)))).ex (nt (ar (al (al h))))).se ((ih2 c _ (ar (al h))).ex (nt (ar h))).se) (fun _ _=>rfl) rfl rfl) rfl (fun _=>rfl) rfl
 | rv o ih=>
  intro c e h
  exact .of (.of (se_rv ((ih c _ (al h)).ex (nt (ar h))).se) (fun _ _=>rfl) rfl rfl) rfl (fun _=>rfl) rfl
 | ca f as ih1 ih2=>
  intro c e h
  exact .of (.of (se_ca OK (ar (al (al h))) ((ih1 c _ (al (al (al (al h))))).ex (nt (ar (al (al (al h)))))).se ((ih2 c _ (ar (al h))).ar (ar h))) (fun _ _=>rfl) rfl rfl) rfl (fun _=>rfl) rfl
 | nw f as ih1 ih2=>
  intro c e h
  exact .of (.of (se_nw OK (ar (al (al h))) ((ih1 c _ (al (al (al (al h))))).ex (nt (ar (al (al (al h)))))).se ((ih2 c _ (ar (al h))).ar (ar h))) (fun _ _=>rfl) rfl rfl) rfl (fun _=>rfl) rfl
 | mt o j as ih1 ih2=>
  intro c e h
  exact .of (.of (se_mt OK (ar (al (al (al h)))) (Nat.eq_of_beq_eq_true (ar (al (al h)))) (of_decide_eq_true (ar (al h))) (of_decide_eq_true (ar h)) ((ih1 c _ (al (al (al (al (al (al (al h)))))))).ex (nt (ar (al (al (al (al (al (al h))))))))).se ((ih2 c _ (ar (al (al (al (al (al h))))))).ar (ar (al (al (al (al h))))))) (fun _ _=>rfl) rfl rfl) rfl (fun _=>rfl) rfl
 | bu b as ih=>
  intro c e h
  refine .of (.of (se_bu (eq_of_beq (al (al (al h)))) (fun q=>?_) ((ih c _ (ar (al h))).ar (ar h))) (fun _ _=>rfl) rfl rfl) rfl (fun _=>rfl) rfl
  have h2:=ar (al (al h))
  rw [q] at h2
  exact ⟨eq_of_beq (al h2),ar h2⟩
 | bn o a b ih1 ih2=>
  intro c e h
  exact .of (.of (se_bn ((ih1 c _ (al (al (al h)))).ex (nt (ar (al (al h))))).se ((ih2 c _ (ar (al h))).ex (nt (ar h))).se) (fun _ _=>rfl) rfl rfl) rfl (fun _=>rfl) rfl
 | ng a ih=>
  intro c e h
  have x:=(ih c _ (al h)).ex (nt (ar h))
  exact .of ⟨rfl,(se_ng x.tr x.se).1,(se_ng x.tr x.se).2,fun q=>nomatch q⟩ rfl (fun _=>rfl) rfl
 | bo j m a b ih1 ih2=>
  intro c e h
  have x1:=(ih1 c _ (al (al h))).ex (nt (ar (al h)))
  exact bo_ok x1 (fun q=>by
   subst q
   have y:=(ih2 c _ (ar (ar h))).bo j (al (ar h))
   exact ⟨be_cons x1.se y.1 y.2.2,bt_cons x1.tr y.2.1⟩) fun q=>by
   subst q
   have x2:=(ih2 c _ (al (ar h))).ex (nt (ar (ar h)))
   exact ⟨be_cons x1.se (be_one x2.se) (fun q=>nomatch q),bt_cons x1.tr (bt_one x2.tr)⟩
 | cp o a b ih1 ih2=>
  intro c e h
  have x1:=(ih1 c _ (al (al (al h)))).ex (nt (ar (al (al h))))
  have x2:=(ih2 c _ (ar (al h))).ex (nt (ar h))
  exact ⟨fun _=>⟨rfl,se_cp (noMark x2.gd _) x1.se x2.se,st_cp (noMark x2.gd _) x1.se x2.se,fun q=>nomatch q⟩,(fun q=>nomatch q),(fun _ q=>nomatch q),fun _=>cg_one (noMark x2.gd _) x1.se x2.se⟩
 | ch a o1 b o2 d ih1 ih2 ih3=>
  intro c e h
  have x3:=(ih3 c _ (ar (al h))).ex (nt (ar h))
  have key:=se_ch (k:=k) (q:=e.pos) (o1:=o1) (o2:=o2) (noMark x3.gd _) ((ih1 c _ (al (al (al (al (al h)))))).ex (nt (ar (al (al (al (al h))))))).se ((ih2 c _ (ar (al (al (al h))))).ex (nt (ar (al (al h))))).se x3.se
  exact .of ⟨rfl,key.1,key.2,fun q=>nomatch q⟩ rfl (fun _=>rfl) rfl
 | ie t a b ih1 ih2 ih3=>
  intro c e h
  have x1:=(ih1 c _ (al (al (al (al (al h)))))).ex (nt (ar (al (al (al (al h))))))
  have x2:=(ih2 c _ (ar (al (al (al h))))).ex (nt (ar (al (al h))))
  have x3:=(ih3 c _ (ar (al h))).ex (nt (ar h))
  exact .of ⟨rfl,se_ie x1.tr x2.se x3.se,st_ie x1.tr x2.tr x3.tr,fun q=>nomatch q⟩ rfl (fun _=>rfl) rfl
 | ls q as ih=>
  intro c e h
  exact .of (.of (se_ls (of_decide_eq_true (ar h)) ((ih c _ (al (al h))).ar (ar (al h)))) (fun _ _=>rfl) rfl rfl) rfl (fun _=>rfl) rfl
 | tp as ih=>
  intro c e h
  exact .of (.of (se_tp (of_decide_eq_true (ar h)) ((ih c _ (al (al h))).ar (ar (al h)))) (fun _ _=>rfl) rfl rfl) rfl (fun _=>rfl) rfl
 | dc q ks as ih=>
  intro c e h
  exact .of (.of (se_dc (Nat.eq_of_beq_eq_true (ar (al (al (al (al h)))))) (Nat.eq_of_beq_eq_true (ar h)) (of_decide_eq_true (ar (al (al (al h))))) (of_decide_eq_true (ar (al (al h)))) (all_lt (ar (al h))) ((ih c _ (al (al (al (al (al (al h))))))).ar (ar (al (al (al (al (al h)))))))) (fun _ _=>rfl) rfl rfl) rfl (fun _=>rfl) rfl
 | cm q n pt g it cs elt ih1 ih2 ih3=>
  intro c e h
  obtain ⟨s1,s2⟩:=sit_ok (X:=X) (k:=k) (e:=(pg e 0).iter) (tgt:=rbP (in1 c e) pt (pg e 0).target) (ar (al (al (al (al (al (al h))))))) ((ih1 c _ (ar (al (al (al (al (al h))))))).ar (ar (al (al (al (al h)))))) (tupT (ar (al (al (al (al (al (al (al h)))))))))
  refine .of (.comp (comp1_ok (CompOk.of (al (al (al (al (al (al (al (al h))))))))) s2 ((pat_ok pt _).1 (ar (al (al (al (al (al (al (al h))))))))) s1 ((ih3 _ _ (ar (al h))).ex (nt (ar h))).se ?_) rfl) rfl (fun _=>rfl) rfl
  exact (ih2 _ _ (ar (al (al h)))).cg (ar (al (al (al h))))
 | c2 n pt g it pt2 it2 elt ih1 ih2 ih3=>
  intro c e h
  obtain ⟨s1,s2⟩:=sit_ok (X:=X) (k:=k) (e:=(pg e 0).iter) (tgt:=rbP (in2 c e) pt (pg e 0).target) (ar (al (al (al (al (al (al h))))))) ((ih1 c _ (ar (al (al (al (al (al h))))))).ar (ar (al (al (al (al h)))))) (tupT (ar (al (al (al (al (al (al (al (al h))))))))))
  have x2:=(ih2 _ _ (ar (al (al (al h))))).ex (nt (ar (al (al h))))
  exact .of (.comp (comp2_ok (CompOk.of (al (al (al (al (al (al (al (al (al h)))))))))) s2 (noSet x2.gd) ((pat_ok pt _).1 (ar (al (al (al (al (al (al (al (al h)))))))))) ((pat_ok pt2 _).1 (ar (al (al (al (al (al (al (al h))))))))) s1 ((ih3 _ _ (ar (al h))).ex (nt (ar h))).se x2.se) rfl) rfl (fun _=>rfl) rfl
 | lm j=>exact fun c e h=>.of (.of (se_lm (an h).1 (of_decide_eq_true (an h).2)) (fun _ _=>rfl) rfl rfl) rfl (fun _=>rfl) rfl
 | fz f a ih=>
  intro c e h
  obtain ⟨x,q,e1⟩:=isName_eq (ar h)
  refine .of ?_ rfl (fun _=>rfl) rfl
  show EX X k c (rb a c e) (.fz f a)
  have h':=(ih c _ (al (al h))).ex (nt (ar (al h)))
  rw [e1] at h' ⊢
  exact .of (se_fz h'.se) (fun _ _=>rfl) rfl rfl
 | e0=>exact fun c e h=>⟨(fun q=>nomatch q),fun _=>.nil,(fun _ q=>nomatch q),fun _=>cg_nil⟩
 | ec a r ih1 ih2=>
  intro c e h
  have x:=(ih1 c _ (al (al (al h)))).ex (nt (ar (al (al h))))
  exact ⟨(fun q=>nomatch q),fun _=>.cons x.gd x.se ((ih2 c _ (ar (al h))).ar (ar h)),(fun _ q=>nomatch q),fun q=>nomatch q⟩
end
section
inductive FlR (w:World) (κ:Ka):Fl→Flow→Prop
 | nxt:FlR w κ .nxt .next
 | cont:FlR w κ .cont .cont
 | ret {v:NV} {u:Value}:VR w κ v u→FlR w κ (.ret v) (.ret u)
noncomputable abbrev PostS (X:Cx) (k:Nat) (A:Around) (c:TC) (env:Env) (Q:PoS) (z:Z) (s₀:Shared) (Qc:Flow→Shared→Prop):Prop:=
 ∀ fl f fr' z',Q fl fr' z'.σ→St X k A c env fr' z'→Tr X (ZE env) z z'→FlR X.w z'.κ fl f→Qc f (z'.s s₀)
noncomputable abbrev S1 (X:Cx) (k:Nat) (c:TC) (x:Stmt) (s:S):Prop:=
 ∀ ⦃A:Around⦄ ⦃env:Env⦄ ⦃fr:Fr⦄ ⦃Q:PoS⦄ ⦃Qc:Flow→Shared→Prop⦄ ⦃z:Z⦄ ⦃s₀:Shared⦄,St X k A c env fr z→wS X.T (callN X.T k) s fr Q z.σ→PostS X k A c env Q z s₀ Qc→wpAny (model p X.w) A (exec x env) Qc Ef (z.s s₀)
noncomputable abbrev SS (X:Cx) (k:Nat) (c:TC) (xs:List Stmt) (s:S):Prop:=
 ∀ ⦃A:Around⦄ ⦃env:Env⦄ ⦃fr:Fr⦄ ⦃Q:PoS⦄ ⦃Qc:Flow→Shared→Prop⦄ ⦃z:Z⦄ ⦃s₀:Shared⦄,St X k A c env fr z→wS X.T (callN X.T k) s fr Q z.σ→PostS X k A c env Q z s₀ Qc→wpAny (model p X.w) A (execs xs env) Qc Ef (z.s s₀)
section
variable {w:World}
theorem for_loop {A:Around} {env:Env} {t:PySem.Expr} {it:Value} {body:List Stmt} {R:Result→Shared→Prop} (I:Nat→Shared→Prop)
  (turn:∀ n s,I n s→wpAny (model p w) A (pyNext it) (fun r s₁=>(r=none∧R (.ok .next) s₁)∨∃ v,r=some v ∧
   wpAny (model p w) A (letOwnedTupleGo t it v) (fun _ s₀=>wpAny (model p w) A (assign t env v) (fun _ s₂=>wpAny (model p w) A (execs body env) (fun f s₃=>
    ((f=.next∨f=.cont)∧∃ m,m < n∧I m s₃)∨∃ v,f=.ret v∧R (.ok (.ret v)) s₃) Ef s₂) Ef s₀) Ef s₁) Ef s) (n:Nat) (s:Shared) (h:I n s) :
  codeAny (model p w) A (.forLoop t it body [] env) R s:=by
 refine codeAny_forLoop_any I (fun n s hI=>wpAny_mono (turn n s hI) (fun r s₁ h₁=>?_) fun _ _ f=>f.elim) n h
 rcases h₁ with ⟨rfl,h₁⟩ | ⟨v,rfl,h₁⟩
 ·exact wpAny_execs_nil h₁
 ·refine wpAny_mono h₁ (fun _ s₀ h₂=>wpAny_mono h₂ (fun _ s₂ h₃=>wpAny_mono h₃ (fun f s₃ h₄=>?_) fun _ _ f=>f.elim) fun _ _ f=>f.elim) fun _ _ f=>f.elim
  rcases h₄ with ⟨rfl | rfl,h₄⟩ | ⟨v,rfl,h₄⟩
  ·exact h₄
  ·exact h₄
  ·exact h₄
theorem setItem_list' {A:Around} {l:Addr} {items:Array Value} {n:Nat} {k:Int} {t:Tok} {v:Value} {s:Shared} {Q:Unit→Shared→Prop} (ho:s.heap.get? l=some { cls:=.type "list",data:=.seq items n }) (h0:0≤k) (hfit:k < 2 ^ 63) (hn:k < items.size)
  (hQ:Q () { s with heap:=s.heap.update l (Obj.mapSeq (·.setIfInBounds k.toNat v)) }):wpAny (model p w) A (setItem (.ref l) (.int k t) v) Q Ef s:=by
 have hl:s.heap.IsList l items:=⟨_,ho,rfl,n,rfl⟩
 unfold setItem
 try with_reducible refine wpAny_holding ?_
 first | refine wpAny_bind (wpAny_pure ?_) | skip
 refine wpAny_bind (wpAny_sequenceKey hl.typeIs (by decide) ?_)
 refine wpAny_bind (wpAny_callSpecial?_slot (name:=Str.ofString "__setitem__") hl.typeIs slot_list_setitem
  (wpAny_call_entry slot_list_setitem hl.typeIs entry_list_setitem ?_ (args_list_setitem _ _ _)))
 show wpAny _ _ (Builtin.List.listSubscript? (.int k t) >>= _) _ _ s
 refine wpAny_bind (wpAny_listSubscript_int (fitsIndex_of h0 hfit) ?_)
 clear hfit
 obtain ⟨j,rfl⟩:=Int.eq_ofNat_of_zero_le h0
 have hj:j < items.size:=by lia
 have hx':items[j]?=some items[j]:=Array.getElem?_eq_getElem hj
 show wpAny _ _ ((seqItemAt l j >>= fun r=>pure (r.map (j,·))) >>= _) _ _ s
 refine wpAny_bind (wpAny_bind (wpAny_seqItemAt ho rfl (wpAny_pure ?_)))
 rw [hx']
 show wpAny _ _ (setSeqItemAt l j v >>= _) _ _ s
 refine wpAny_bind (wpAny_setSeqItemAt ho rfl ?_)
 first
  | exact wpAny_bind (wpAny_pure (wpAny_pure ⟨.none,rfl,wpAny_pure hQ⟩))
  | exact wpAny_pure ⟨.none,rfl,wpAny_pure hQ⟩
theorem draw_list {A:Around} {E:Value→Shared→Prop} {it t:Addr} {items:Array Value} (hne:t≠it):∀ (n i:Nat) (s:Shared) (Q:List Value→Shared→Prop),s.heap.IsListIter it t i→s.heap.IsList t items→i+n≤items.size →
  (∀ h',h'.IsListIter it t (i+n)→Heap.SameBut it s.heap h'→Q ((items.toList.drop i).take n) { s with heap:=h' })→wpAny (model p w) A (draw (.ref it) n) Q E s
 | 0,i,s,Q,hit,_,_,hQ=>by
  show wpAny _ _ (pure []) Q E s
  exact wpAny_pure (by simpa using hQ s.heap hit (Heap.SameBut.refl ..))
 | n+1,i,s,Q,hit,ht,hle,hQ=>by
  have hlt:i < items.size:=by lia
  show wpAny _ _ (pyNext (.ref it) >>= _) Q E s
  refine wpAny_bind (wpAny_pyNext_list_item hit ht (x:=items[i]) (by simp [hlt]) fun h₁ hit₁ hs₁=>?_)
  have ht₁:h₁.IsList t items:=by
   obtain ⟨o,ho,r⟩:=ht
   exact ⟨o,(hs₁.2 t hne).trans ho,r⟩
  refine wpAny_bind (wpAny_holding (draw_list hne n (i+1) _ _ hit₁ ht₁ (by lia) fun h₂ hit₂ hs₂=>wpAny_pure ?_))
  have hd:items.toList.drop i=items[i] :: items.toList.drop (i+1):=by simp [List.drop_eq_getElem_cons,hlt]
  have:=hQ h₂ (by rw [show i+(n+1)=i+1+n by lia]; exact hit₂) (hs₁.trans hs₂)
  rw [hd,List.take_succ_cons] at this
  exact this
theorem unpackItems_list {A:Around} {E:Value→Shared→Prop} {s:Shared} {t:Addr} {items:Array Value} {Q:List Value→Shared→Prop} (hh:A.handled=none) (ht:s.heap.IsList t items)
  (hQ:∀ h',Heap.ExtBut s.heap.objs.size s.heap h'→Q items.toList { s with heap:=h' }):wpAny (model p w) A (unpackItems (.ref t) items.size none) Q E s:=by
 have hlt:t≠s.heap.objs.size:=by obtain ⟨o,ho,_⟩:=ht; exact Nat.ne_of_lt (Heap.lt_size ho)
 have lk:∀ {h:Heap},(∀ b o,b≠s.heap.objs.size→s.heap.get? b=some o→h.get? b=some o)→h.IsList t items:=fun k=>by
  obtain ⟨o,ho,r⟩:=ht
  exact ⟨o,k t o hlt ho,r⟩
 refine wpAny_bind ?_
 refine wpAny_bind (wpAny_specialOf ht.typeIs slot_list_iter.lookup ?_)
 refine wpAny_pure ?_
 simp only [Bool.false_eq_true,if_false]
 refine wpAny_bind (wpAny_holding (wpAny_pyIter_list ht ?_))
 refine wpAny_bind (wpAny_holding (draw_list hlt items.size 0 _ _ ⟨_,Heap.get?_push_size _ rfl,rfl,rfl⟩ (lk fun b o _ e=>Heap.get?_push_of_some _ e) (by lia) fun h₁ hit₁ hs₁=>?_))
 have hall:List.take items.size (List.drop 0 items.toList)=items.toList:=by
  rw [List.drop_zero]; exact List.take_of_length_le (by simp)
 rw [hall]
 rw [if_neg (by simp)]
 have ht₁:h₁.IsList t items:=lk fun b o hb e=>(hs₁.2 b hb).trans (Heap.get?_push_of_some _ e)
 refine wpAny_bind (wpAny_holding (wpAny_pyNext_list_end hh hit₁ ht₁ (by simp) fun h₂ he₂=>?_))
 simp only [Option.isSome_none,Bool.false_eq_true,if_false]
 exact wpAny_pure (hQ h₂ fun b o hb e=>he₂ b o hb (hs₁.extBut b o hb (Heap.get?_push_of_some _ e)))
theorem assign_Tuple_list {A:Around} {E:Value→Shared→Prop} {s:Shared} {env:Env} {elts:List PySem.Expr} {x1} {pos:Pos} {t:Addr} {items:Array Value} {Q:Unit→Shared→Prop} (hh:A.handled=none) (ht:s.heap.IsList t items)
  (hn:(assignEach elts env).length=items.size) (hstar:(assignEach elts env).findIdx? (·.1)=none)
  (h:∀ h',Heap.ExtBut s.heap.objs.size s.heap h'→wpAny (model p w) A (assignInOrder ((assignEach elts env).map (·.2)) items.toList) Q E { s with heap:=h' }) :
  wpAny (model p w) A (assign (.Tuple elts x1 pos) env (.ref t)) Q E s:=by
 rw [assign_Tuple]
 refine wpAny_bind (wpAny_standAt ?_)
 unfold unpack
 rw [hn,hstar]
 exact wpAny_bind (wpAny_holding (unpackItems_list hh ht h))
set_option backward.match.sparseCases true in
noncomputable def swapF (env:Env) (line:Nat):PySem.Expr→Option Str
 | .Name id pos=>if env.kindOf id==some .local&&pos.line==line then some id else none
 | _=>none
theorem filterMap_full {α β:Type} (f:α→Option β):∀ (l:List α),(l.filterMap f).length=l.length→l.map f=(l.filterMap f).map some
 | [],_=>rfl
 | a :: l,h=>by
  cases e:f a with
  | none=>
   rw [List.filterMap_cons_none e] at h
   have:=List.length_filterMap_le f l
   simp only [List.length_cons] at h
   lia
  | some b=>
   rw [List.filterMap_cons_some e] at h ⊢
   rw [List.map_cons,e,List.map_cons,filterMap_full f l (by simpa using h)]
set_option backward.match.sparseCases true in
theorem swap_eq (ts vs:List PySem.Expr) (n n':Nat) (q q':Pos) (env:Env):swappedStores [.Tuple ts n q] (.Tuple vs n' q') env=(if (!(ts.length==2 || ts.length==3) || vs.length != ts.length || env.blockKind != .function)=true then pure none else
  if (vs.any fun | .Starred ..=>true | _=>false)=true then pure none else
  if ((ts.filterMap (swapF env ((ts.head?.map (·.pos.line)).getD 0))).length != ts.length || (ts.filterMap (swapF env ((ts.head?.map (·.pos.line)).getD 0))).eraseDups.length != (ts.filterMap (swapF env ((ts.head?.map (·.pos.line)).getD 0))).length)=true then pure none else
  if vs.all (foldedForSure 8)=true then pure none else if vs.all (constantsAlone 8)=true then unsupported "assign.tuple-of-constant-expressions:order-of-the-stores" else pure (some (ts.filterMap (swapF env ((ts.head?.map (·.pos.line)).getD 0))))):=by rfl
set_option tactic.hygienic true in
theorem swapped (ts vs:List PySem.Expr) (n n':Nat) (q q':Pos) (env:Env) (hc:vs.all (constantsAlone 8)=false):swappedStores [.Tuple ts n q] (.Tuple vs n' q') env=pure none∨∃ names line,swappedStores [.Tuple ts n q] (.Tuple vs n' q') env=pure (some names)∧ts.map (swapF env line)=names.map some∧names.length=ts.length:=by
 rw [swap_eq]
 split
 ·exact .inl rfl
 split
 ·exact .inl rfl
 split
 ·exact .inl rfl
 rename_i h3
 split
 ·exact .inl rfl
 rw [hc]
 simp only [Bool.or_eq_true,bne_iff_ne,ne_eq,not_or,Decidable.not_not] at h3
 exact .inr ⟨_,_,rfl,filterMap_full _ _ h3.1,h3.1⟩
end
section
variable {X:Cx} {k:Nat} {A:Around} {c:TC} {env:Env} {fr:Fr} {z z':Z} {s₀:Shared} {Qc:Flow→Shared→Prop} {Q:PoS} {q pos:Pos} {e o:PySem.Expr} {m mo:E} {i f:Nat}
theorem PostS.step (hk:PostS X k A c env Q z s₀ Qc) (t:Tr X (ZE env) z z'):PostS X k A c env Q z' s₀ Qc:=fun fl f fr' z₁ hq S t₁ r=>hk fl f fr' z₁ hq S (t.trans t₁) r
theorem PostS.step0 (hk:PostS X k A c env Q z s₀ Qc) (t:Tr X X0 z z'):PostS X k A c env Q z' s₀ Qc:=hk.step t.up
theorem PostS.nxt (hk:PostS X k A c env Q z s₀ Qc) (S:St X k A c env fr z') (t:Tr X (ZE env) z z') (hq:Q .nxt fr z'.σ):Qc .next (z'.s s₀):=hk _ _ _ _ hq S t .nxt
theorem ss_one {x:Stmt} {s:S} (h:S1 X k c x s):SS X k c [x] s:=fun _ _ _ _ _ _ _ S hw hk=>wpAny_execs_cons (h S hw fun fl f fr' z' hq S' t r=>by
 have:=hk _ _ _ _ hq S' t r
 cases r with
 | nxt=>exact wpAny_execs_nil this
 | _=>exact this)
theorem noSwap {e:PySem.Expr} (g:good e=true) (nc:isComp e=false) (t:Option PySem.Expr) (l:Nat) (env:Env):swapsWith e t l env=pure false:=by
 cases e <;> first | rfl | (cases g; done) | (cases nc; done)
theorem noSwapA (e o:PySem.Expr) (a:Str) (q:Pos) (l:Nat) (env:Env):swapsWith e (some (.Attribute o a q)) l env=pure false:=by cases e <;> rfl
theorem noSwapI (e o i:PySem.Expr) (q:Pos) (l:Nat) (env:Env):swapsWith e (some (.Subscript o i q)) l env=pure false:=by cases e <;> rfl
theorem noSwapT (e:PySem.Expr) (ts:List PySem.Expr) (n:Nat) (q:Pos) (l:Nat) (env:Env):swapsWith e (some (.Tuple ts n q)) l env=pure false:=by cases e <;> rfl
theorem set_nm {v:NV} {u:Value} {K:Fr→Prop} {Qc:Unit→Shared→Prop} (S:St X k A c env fr z) (hi:hasN c i=true) (r:VR X.w z.κ v u) (hw:setv fr i v K) (hk:∀ fr' z',K fr'→z'.σ=z.σ→St X k A c env fr' z'→Tr X (ZE env) z z'→Qc () (z'.s s₀)):wpAny (model p X.w) A (storeName env (nm c i) u) Qc Ef (z.s s₀):=
 set_name S.R S.E (hasN_of hi).1 r fun z' e E' t=>hk _ z' (setv_inv hw).2 e ⟨S.rm,E',t.R⟩ (t.weak fun b q=>.inl q.ze)
theorem st_st (hs:∀ t l env,swapsWith e t l env=pure false) (hi:hasN c i=true) (h:SE X k c e m):S1 X k c (.Assign [.Name (nm c i) q] e pos) (.st i m):=fun _ _ _ _ _ _ _ S hw hk=>
 wpAny_Assign_Name (h S hw fun v u z₁ hw t r=>set_nm (S.go t) hi r hw fun fr' z' hq e S' t'=>(hk.step0 t).nxt S' t' (by rw [e]; exact hq)) (hs _ _ _)
theorem swaps_bool (elt:PySem.Expr) (gens:List Comprehension) (sc:Scope) (pos:Pos) (x:Str) (q:Pos) (l:Nat) (env:Env):∃ b,swapsWith (.ListComp elt gens sc pos) (some (.Name x q)) l env=pure b:=⟨_,rfl⟩
theorem st_stC (hi:hasN c i=true) (h:CompOK X k c e m):S1 X k c (.Assign [.Name (nm c i) q] e pos) (.st i m):=fun A env fr Q Qc z s₀ S hw hk=>by
 have hse:SE X k c e m:=h.se
 obtain ⟨elt,gens,sc,cpos,rfl,ha,h⟩:=h
 obtain ⟨b,hb⟩:=swaps_bool elt gens sc cpos (nm c i) q pos.line env
 induction b using Bool.casesOn with
 | false=>exact wpAny_Assign_Name (hse S hw fun v u z₁ hw t r=>set_nm (S.go t) hi r hw fun fr' z' hq e S' t'=>(hk.step0 t).nxt S' t' (by rw [e]; exact hq)) hb
 | true=>
  rw [exec_Assign_Name_used _ _ _ _ hb]
  refine wpAny_bind (wpAny_standAt (wpAny_bind ?_))
  show wpAny _ A (do let _ ← comprehension (.ListComp elt gens sc cpos) sc env (firstIterPos gens cpos) (newList []) (firstAsync gens) (firstIter gens env) (some (assign (.Name (nm c i) q) env))) _ _ _
  rw [ha]
  refine wpAny_bind (wpAny_mono (h (Qc:=fun _ s'=>Qc .next s') (use:=some (assign (.Name (nm c i) q) env)) S hw fun v D C z' hq t r nC dC n=>?_) (fun _ s' hq=>wpAny_pure (wpAny_pure hq)) fun _ _ f=>f.elim)
  show wpAny _ A (assign (.Name (nm c i) q) env (.ref D)) _ _ _
  have zC:∀ z₁:Z,¬ ZE env C:=fun _ x=>by have:=(S.E.live x).2; rw [dC] at this; cases this
  refine wpAny_assign_Name (set_nm (s₀:=s₀) (S.go t) hi r hq fun fr' z₂ hq e S₂ t₂=>?_)
  obtain ⟨m',o,es,ep,ho,rr⟩:=n
  have kC:=t₂.g.no C o nC ho (zC z₂)
  refine ⟨m',⟨o,es,ep,kC.2,rr⟩,fun h₃ sb=>?_⟩
  have t₃:Tr X (fun b=>b=C) z₂ ⟨h₃,z₂.t,z₂.σ,z₂.κ⟩:=.apart S₂.R (fun b q=>q▸kC.1) fun b hb o e=>(sb.2 b hb).trans e
  have tt:Tr X (fun b=>ZE env b∨b=C) z ⟨h₃,z₂.t,z₂.σ,z₂.κ⟩:=(t.up.trans (t₂.weak fun b q=>.inl (.inl q))).trans (t₃.weak fun b q=>.inl (.inr q))
  exact hk.nxt (z':=⟨h₃,z₂.t,z₂.σ,z₂.κ⟩) ⟨S₂.rm,S₂.E.go t₃.g fun b q=>q▸zC z₂,t₃.R⟩ (tt.weak fun b q=>q.elim .inl fun q=>.inr (by rw [q]; exact dC)) (by show Q .nxt fr' z₂.σ; rw [e]; exact hq)
theorem st_sa (ho:SE X k c o mo) (he:SE X k c e m):S1 X k c (.Assign [.Attribute o (aS f) q] e pos) (.sa mo f m):=fun _ _ _ _ _ _ _ S hw hk=>
 plainObj_wpAny_Assign_Attribute (he S hw fun v u z₁ hw t r=>ho (S.go t) hw fun ov y z₂ hw t₂ r₂=>attr_set t₂.R r₂ (r.go t₂) hw fun z₃ hq t₃=>hk.nxt (((S.go t).go t₂).go t₃) ((t.trans t₂).trans t₃).up hq) (noSwapA _ _ _ _ _ _)
theorem stored_hit {K:Type} [DecidableEq K] {y:K} {b u:Value} {kvs:List (K × Value)} (n:y ∉ kvs.map (·.1)):stored ((y,b) :: kvs) y u=(y,u) :: kvs:=by
 unfold stored
 rw [if_pos (by simp),List.map_cons,if_pos rfl]
 congr 1
 rw [List.map_congr_left (g:=id),List.map_id]
 intro z hz
 rw [if_neg (fun e=>n (by rw [← e]; exact List.mem_map_of_mem (f:=(·.1)) hz))]; rfl
theorem stored_miss {K:Type} [DecidableEq K] {y k:K} {b u:Value} {kvs:List (K × Value)} (n:¬ y=k):stored ((y,b) :: kvs) k u=(y,b) :: stored kvs k u:=by
 unfold stored
 simp only [List.any_cons,List.map_cons,n,decide_false,Bool.false_or,if_false]
 split <;> rfl
theorem look_put {k:Int} {v:NV} {w:World} {κ:Ka} {u:Value} (r:VR w κ v u) {l:List (Int × NV)}:∀ {kvs:List (Int × Value)},kvs.map (·.1)=l.map (·.1)→VRs w κ (l.map (·.2)) (kvs.map (·.2))→(kvs.map (·.1)).Nodup→(stored kvs k u).map (·.1)=(put k v l).map (·.1)∧VRs w κ ((put k v l).map (·.2)) ((stored kvs k u).map (·.2))∧(stored kvs k u).length≤kvs.length+1:=by
 induction l with
 | nil=>
  intro kvs e rs nd
  induction kvs using List.casesOn with
  | nil=>exact ⟨rfl,.cons r .nil,Nat.le_refl _⟩
  | cons _ _=>cases e
 | cons a l ih=>
  intro kvs e rs nd
  induction kvs using List.casesOn with
  | nil=>cases e
  | cons b kvs=>
   obtain ⟨k',x⟩:=a
   have e1:b.1=k':=(List.cons.inj e).1
   subst e1
   rw [List.map_cons,List.nodup_cons] at nd
   have rs:VRs w κ (x :: l.map (·.2)) (b.2 :: kvs.map (·.2)):=rs
   have pe:put k v ((b.1,x) :: l)=(match decide (b.1=k) with | true=>(b.1,v) :: l | false=>(b.1,x) :: put k v l):=rfl
   cases rs with
   | cons ra rs=>
    have z0:=ih (List.cons.inj e).2 rs nd.2
    by_cases q:b.1=k
    ·subst q
     rw [stored_hit nd.1,pe,decide_eq_true rfl]
     exact ⟨e,.cons r rs,Nat.le_succ _⟩
    ·rw [decide_eq_false q] at pe
     rw [stored_miss q,pe]
     exact ⟨congrArg (b.1 :: ·) z0.1,.cons ra z0.2.1,Nat.succ_le_succ z0.2.2⟩
theorem stored_at {w:World} {κ:Ka} {s:Nat} {v:NV} {u:Value} (hs:s < tab.length) (rv:VR w κ v u) {ks:List Nat}:∀ {l:List NV} {kvs:List (Str × Value)} {K:List Nat→List NV→Prop} {Y:NV→Prop},kvs.map (·.1)=ks.map tb→(∀ k∈ks,k < tab.length)→VRs w κ l (kvs.map (·.2))→(kvs.map (·.1)).Nodup→fldK Y False s ks l→fput s v K ks l→∃ l',K ks l'∧(stored kvs (tb s) u).map (·.1)=ks.map tb∧VRs w κ l' ((stored kvs (tb s) u).map (·.2)):=by
 induction ks with
 | nil=>
  intro l kvs K Y e kr rs nd h h2
  induction l using List.casesOn <;> exact h.elim
 | cons k ks ih=>
  intro l kvs K Y e kr rs nd h h2
  induction kvs using List.casesOn with
  | nil=>cases e
  | cons b kvs=>
   induction l using List.casesOn with
   | nil=>exact h.elim
   | cons x l=>
    obtain ⟨y,b⟩:=b
    have e1:y=tb k:=(List.cons.inj e).1
    have h:(match Nat.beq k s with | true=>Y x | false=>fldK Y False s ks l):=h
    have h2:(match Nat.beq k s with | true=>K (k :: ks) (v :: l) | false=>fput s v (fun ks' l'=>K (k :: ks') (x :: l')) ks l):=h2
    have q:=(tb_ok (kr k List.mem_cons_self)).2 s hs
    rw [List.map_cons,List.nodup_cons] at nd
    have rs:VRs w κ (x :: l) (b :: kvs.map (·.2)):=rs
    cases rs with
    | cons ra rs2=>
     cases hq:Nat.beq k s with
     | true=>
      rw [hq] at h h2 q
      have ye:y=tb s:=e1.trans (eq_of_beq q)
      subst ye
      exact (stored_hit nd.1).symm▸⟨_,h2,e,.cons rv rs2⟩
     | false=>
      rw [hq] at h h2 q
      obtain ⟨l',h3,h4,h5⟩:=ih (List.cons.inj e).2 (fun k hk=>kr k (List.mem_cons_of_mem _ hk)) rs2 nd.2 h h2
      rw [stored_miss fun h=>by rw [← e1,h,beq_self_eq_true] at q; exact nomatch q]
      exact ⟨_,h3,by rw [List.map_cons,List.map_cons,h4,e1],.cons ra h5⟩
end
end
section
section
variable {X:Cx} {k:Nat} {A:Around} {c:TC} {env:Env} {fr:Fr} {z z':Z} {s₀:Shared} {Qc:Flow→Shared→Prop} {Q:PoS} {q pos:Pos} {e o t:PySem.Expr} {m mo mi:E} {i f:Nat} {sa sb:S} {la lb:List Stmt}
theorem setIt_inv {σ:NH} {v:NV} {K:NH→Prop} {o k:NV} (h:setIt σ v K o k):(∃ n i,o=.dct n∧k=.int i∧regK σ.reg n (dciK fun l=>l.length < cap∧K (σ.put n (.E (put i v l))))) ∨
  (∃ n s,o=.dct n∧k=.str s∧regK σ.reg n (dctK fun ks l=>fldK (fun _=>fput s v (fun ks l=>K (σ.put n (.D ks l))) ks l) False s ks l))∨∃ j:Nat,k=.int j∧getL σ (fun l=>j < l.length∧setL σ (l.set j v) K o) o:=by
 induction k using NV.casesOn with
 | int i=>
  induction o using NV.casesOn with
  | dct n=>exact .inl ⟨n,i,rfl,rfl,h⟩
  | _=>
   induction i using Int.casesOn with
   | ofNat j=>exact .inr (.inr ⟨j,rfl,h⟩)
   | negSucc j=>exact h.elim
 | str s=>
  induction o using NV.casesOn with
  | dct n=>exact .inr (.inl ⟨n,s,rfl,rfl,h⟩)
  | _=>exact h.elim
 | _=>exact h.elim
theorem DictOf.nd {κ:Type} [DecidableEq κ] {w:World} {K:PySem.KeyKind p w κ} {h:Heap} {a:Addr} {kvs:List (κ × Value)} (d:h.DictOf K a kvs):(kvs.map (·.1)).Nodup:=by obtain ⟨o,es,ep,_,_,_,_,_,nd⟩:=d; exact nd
theorem DictOf.lv {κ:Type} [DecidableEq κ] {w:World} {K:PySem.KeyKind p w κ} {h:Heap} {a:Addr} {kvs:List (κ × Value)} (d:h.DictOf K a kvs):(h.get? a).isSome=true:=by obtain ⟨o,es,ep,ho,_⟩:=d; rw [ho]; rfl
theorem st_si (ho:SE X k c o mo) {i:PySem.Expr} (hi:SE X k c i mi) (he:SE X k c e m):S1 X k c (.Assign [.Subscript o i q] e pos) (.si mo mi m):=fun A env fr Q Qc z s₀ S hw hk=>by
 refine wpAny_Assign_Subscript (he S hw fun v u z₁ hw t r=>ho (S.go t) hw fun ov y z₂ hw t₂ r₂=>hi ((S.go t).go t₂) hw fun iv x z₃ hw t₃ r₃=>?_) (noSwapI _ _ _ _ _ _)
 have r:=(r.go t₂).go t₃
 have r₂:=r₂.go t₃
 have S:=((S.go t).go t₂).go t₃
 have hk:=((hk.step0 t).step0 t₂).step0 t₃
 have fin:∀ z':Z,Q .nxt fr z'.σ→Tr X X0 z₃ z'→Qc .next (z'.s s₀):=fun z' hq t'=>hk.nxt (S.go t') t'.up hq
 rcases setIt_inv hw with ⟨n,i,rfl,rfl,h⟩ | ⟨n,s,rfl,rfl,h⟩ | ⟨j,rfl,h⟩
 ·obtain ⟨tk,rfl⟩:=r₃.int_inv
  refine dciC (C:=fun y=>wpAny _ A (setItem y (.int i tk) u) (fun _=>Qc .next) Ef (z₃.s s₀)) S.R r₂ h fun {a l kvs} ka at_ hd ek rs sz h=>?_
  have hnd:=DictOf.nd hd
  have len:kvs.length=l.length:=by have:=congrArg List.length ek; rwa [List.length_map,List.length_map] at this
  refine wpAny_setItem_pairs (s:=z₃.s s₀) (knd:=intKind p X.w) (k:=i) (by simp [intKind,Value.isInt]) hd (fun h' hd' sb=>?_) (Nat.le_trans sz (show cap≤sizeLine by decide))
  obtain ⟨e2,e3,e4⟩:=look_put (k:=i) r ek rs hnd
  obtain ⟨R',g'⟩:=S.R.upd (h':=h') (x:=a) (b:=a) (.inl ka) ka (fun b hb o q=>(sb.2 b hb).trans q) (DictOf.lv hd') (ob':=.E (put i v l)) (put_at at_).1 (put_at at_).2 (fun c ks l h=>by rw [at_] at h; exact nomatch h) ⟨_,hd',e2,e3,by have:=h.1; lia⟩
  exact fin ⟨h',_,_,_⟩ h.2 ⟨R',g'⟩
 ·obtain ⟨tk,rfl,hs⟩:=r₃.str_inv
  refine dctC (C:=fun y=>wpAny _ A (setItem y (.str (tb s) tk) u) (fun _=>Qc .next) Ef (z₃.s s₀)) S.R r₂ h fun {a ks l kvs} ka at_ hd ek kr rs sz h=>?_
  obtain ⟨_,hp,_⟩:=fldK_and (Y':=fun _=>True) h
  have hnd:=DictOf.nd hd
  refine wpAny_setItem_pairs (s:=z₃.s s₀) (knd:=PySem.strKind p X.w) (k:=tb s) (by simp [PySem.strKind,Value.isStrOf]) hd (fun h' hd' sb=>?_) (Nat.le_trans sz (show cap≤sizeLine by decide))
  obtain ⟨l',hq,e2,e3⟩:=stored_at hs r ek kr rs hnd h hp
  have ln:(stored kvs (tb s) u).length=kvs.length:=by
   have h1:=congrArg List.length e2
   have h2:=congrArg List.length ek
   rw [List.length_map,List.length_map] at h1 h2
   exact h1.trans h2.symm
  obtain ⟨R',g'⟩:=S.R.upd (h':=h') (x:=a) (b:=a) (.inl ka) ka (fun b hb o q=>(sb.2 b hb).trans q) (DictOf.lv hd') (ob':=.D ks l') (put_at at_).1 (put_at at_).2 (fun c ks l h=>by rw [at_] at h; exact nomatch h) ⟨_,hd',e2,kr,e3,by rw [ln]; exact sz⟩
  exact fin ⟨h',_,_,_⟩ hq ⟨R',g'⟩
 ·obtain ⟨tk,rfl⟩:=r₃.int_inv
  exact turnL (C:=fun y=>wpAny _ A (setItem y (.int j tk) u) (fun _=>Qc .next) Ef (z₃.s s₀)) S.R r₂ h fun {l a ys n} hs g rs sz turn=>
   setItem_list' (s:=z₃.s s₀) g (Int.natCast_nonneg j) (by have:=c63; have:=hs.1; lia) (by rw [List.size_toArray,← rs.length]; exact Int.ofNat_lt.2 hs.1) (turn (us':=ys.set j u) (fun z=>z.setIfInBounds j u) hs.2 (by simp) (rs.set r j) (by rw [List.length_set]; exact sz) fun σ' hq t'=>fin ⟨_,z₃.t,σ',_⟩ hq (t' _))
theorem fOk_of {c f:Nat} (h:f < 34):fOk c f=true:=by
 unfold fOk
 have e:Nat.beq f 34=false:=by
  cases q:Nat.beq f 34 with
  | false=>rfl
  | true=>have:=Nat.eq_of_beq_eq_true q; lia
 have e2:Nat.beq f 35=false:=by
  cases q:Nat.beq f 35 with
  | false=>rfl
  | true=>have:=Nat.eq_of_beq_eq_true q; lia
 rw [Nat.ble_eq_true_of_le (show f≤35 by lia),e,e2]
theorem st_au (lt:f < 34) (ho:SE X k c o mo) (he:SE X k c e m):S1 X k c (.AugAssign (.Attribute o (aS f) q) .Add e pos) (.au mo f m):=fun _ _ _ _ _ _ _ S hw hk=>by
 refine wpAny_AugAssign_AttributeAny (ho S hw fun ov y z₁ hw t r=>?_)
 refine getI_C hw fun {cc ks l} I hw=>?_
 obtain ⟨ok,a,d,es,n,rfl,g,g2,rs,_⟩:=I.at t.R r
 have hl:f < 90:=by lia
 rcases fld_at hl rs hw with ⟨v,y,hw,ry,e'⟩ | ⟨h,_⟩
 ·obtain ⟨x,rfl,hw⟩:=onI_inv hw
  obtain ⟨tk,rfl⟩:=ry.int_inv
  have t₁:Tr X X0 z₁ ⟨z₁.h,z₁.t+1,z₁.σ,z₁.κ⟩:=.grow t.R fun _ _ h=>h
  refine attr_get hl t.R rfl ok g g2 (X.fok _ _ (fOk_of lt)) e' rfl (he ((S.go t).go t₁) hw fun v u z₂ hw t₂ r₂=>?_)
  obtain ⟨y,rfl,hw⟩:=onI_inv hw
  obtain ⟨tk',rfl⟩:=r₂.int_inv
  refine PySem.AutoIntOps.iadd_0 ?_
  have t₃:Tr X X0 z₂ ⟨z₂.h,z₂.t+1,z₂.σ,z₂.κ⟩:=.grow t₂.R fun _ _ h=>h
  have tt:=(t.trans t₁).trans (t₂.trans t₃)
  exact attr_set t₃.R (((r.go t₁).go t₂).go t₃) (.int _ _) hw fun z' hq t'=>hk.nxt ((S.go tt).go t') (tt.trans t').up hq
 ·exact h.elim
theorem st_ex (g:good e=true) (nc:isComp e=false) (h:SE X k c e m):S1 X k c (.Expr e pos) (.ex m):=fun _ _ _ _ _ _ _ S hw hk=>
 wpAny_Expr_any (h S hw fun v u z₁ hw t r=>hk.nxt (S.go t) t.up hw) (by unfold interactive; rw [S.E.s.kind]; rfl) (noSwap g nc _ _ _)
theorem st_co:S1 X k c (.Continue pos) .co:=fun _ _ _ _ _ _ _ S hw hk=>wpAny_Continue (hk _ _ _ _ hw S (.refl S.R) .cont)
theorem st_re (h:SE X k c e m):S1 X k c (.Return (some e) pos) (.re m):=fun _ _ _ _ _ _ _ S hw hk=>wpAny_Return_some (h S hw fun v u z₁ hw t r=>hk _ _ _ _ hw (S.go t) t.up (.ret r))
theorem st_re0:S1 X k c (.Return none pos) (.re (.li .none)):=fun _ _ _ _ _ _ _ S hw hk=>wpAny_Return_none (hk _ _ _ _ hw S (.refl S.R) (.ret .none))
theorem st_if (ht:STr X k c t m) (ha:SS X k c la sa) (hb:SS X k c lb sb):S1 X k c (.If t la lb pos) (.ie m sa sb):=fun _ _ _ _ _ _ _ S hw hk=>by
 refine wpAny_If (ht S hw fun b z₁ hq t=>?_)
 induction b using Bool.casesOn with
 | true=>exact ha (S.go t) hq (hk.step0 t)
 | false=>exact hb (S.go t) hq (hk.step0 t)
theorem st_wh (ht:STr X k c t m) (hb:SS X k c lb sb):S1 X k c (.While t lb [] pos) (.wh m sb):=fun A env fr Q Qc z s₀ S hw hk=>by
 obtain ⟨n,hw⟩:=hw
 refine wpAny_While (codeAny_whileLoop (fun n s'=>∃ z₁ fr',s'=z₁.s s₀∧St X k A c env fr' z₁∧Tr X (ZE env) z z₁ ∧
  whlW (fun fr Q σ=>wE X.T (callN X.T k) m fr Q σ) (fun fr Q σ=>wS X.T (callN X.T k) sb fr Q σ) Q n fr' z₁.σ) ?_ n ⟨z,fr,rfl,S,.refl S.R,hw⟩)
 rintro n s' ⟨z₁,fr',rfl,S₁,t₁,hw'⟩
 induction n using Nat.casesOn with
 | zero=>exact hw'.elim
 | succ n=>
  refine toE (ht S₁ hw' fun b z₂ hq t₂=>?_)
  have t₃:=t₁.trans t₂.up
  induction b using Bool.casesOn with
  | false=>exact wpAny_execs_nil (hk.nxt (S₁.go t₂) t₃ hq)
  | true=>
   refine toE (hb (S₁.go t₂) hq fun fl f fr₂ z₃ hq₃ S₃ t₄ r=>?_)
   have t₅:=t₃.trans t₄
   cases r with
   | nxt=>exact ⟨n,Nat.lt_succ_self n,z₃,fr₂,rfl,S₃,t₅,hq₃⟩
   | cont=>exact ⟨n,Nat.lt_succ_self n,z₃,fr₂,rfl,S₃,t₅,hq₃⟩
   | ret r=>exact hk _ _ _ _ hq₃ S₃ t₅ (.ret r)
theorem st_fo {i:PySem.Expr} {pt:Pt} {g:IK} {it:E} (hs:∀ env x,foldedSetIterable i env x=pure x) (SPt:SP X c 0 t pt) (SI:SIt X k c t i g it) (hb:SS X k c lb sb):S1 X k c (.For t i lb [] pos) (.fo pt g it sb):=fun A env fr Q Qc z s₀ S hw hk=>by
 refine wpAny_For (SI S hw fun xs chk z₀ I P st hw₀ t₀ Sr st0 hz=>?_) (hs env)
 have pz:∀ b,P b→¬ ZE env b:=fun b q x=>by have:=(S.E.live x).2; rw [(hz b q).2] at this; cases this
 have pn:∀ {z₁ z₂:Z} {j:Nat},st j z₁→(∀ b,P b→z₁.κ b=.no)→Tr X (ZE env) z₁ z₂→(∀ b,P b→z₂.κ b=.no)∧∀ b,P b→∀ o,z₁.h.get? b=some o→z₂.h.get? b=some o:=fun {z₁ z₂ j} s no t=>by
  have key:∀ b,P b→∀ o,z₁.h.get? b=some o→z₂.κ b=.no∧z₂.h.get? b=some o:=fun b q o e=>t.g.no b o (no b q) e (pz b q)
  exact ⟨fun b q=>by obtain ⟨o,e⟩:=Option.isSome_iff_exists.mp (Sr.live _ _ b s q); exact (key b q o e).1,fun b q o e=>(key b q o e).2⟩
 let INV:Nat→Shared→Prop:=fun n s'=>∃ z₁ j fr',s'=z₁.s s₀∧n=xs.length - j∧j≤xs.length∧st j z₁∧(∀ b,P b→z₁.κ b=.no)∧St X k A c env fr' z₁∧Tr X (fun b=>ZE env b∨P b) z z₁ ∧
  forW pt chk (fun fr Q σ=>wS X.T (callN X.T k) sb fr Q σ) Q (xs.drop j) fr' z₁.σ
 have cl:∀ {z₁:Z},Tr X (fun b=>ZE env b∨P b) z z₁→Tr X (ZE env) z z₁:=fun t=>t.weak fun b q=>q.elim .inl fun q=>.inr (hz b q).2
 refine for_loop INV ?_ _ _ ⟨z₀,0,fr,rfl,rfl,Nat.zero_le _,st0,fun b q=>(hz b q).1,S.go t₀,t₀.up,hw₀⟩
 rintro n s' ⟨z₁,j,fr₁,rfl,rfl,hi,hst,no₁,S₁,t₁,hw₁⟩
 by_cases hlt:j < xs.length
 ·have hx:xs[j]?=some xs[j]:=List.getElem?_eq_getElem hlt
  rw [List.drop_eq_getElem_cons hlt] at hw₁
  obtain ⟨hc,hb₁⟩:=hw₁
  refine wpAny_mono (Sr.item j _ z₁ s₀ (fun v s₁=>wpAny (model p X.w) A (assign t env v) (fun _ s₂=>wpAny (model p X.w) A (execs lb env) (fun f s₃=>
      ((f=.next∨f=.cont)∧∃ m,m < xs.length - j∧INV m s₃)∨∃ v,f=.ret v∧Qc (.ret v) s₃) Ef s₂) Ef s₁) hx hst S₁.R no₁ hc fun v z₂ e₂ t₂ no₂ rv st₂=>?_) (fun r s₁ q=>.inr q) fun _ _ f=>f.elim
  refine SPt (P:=ZE env) S₁.rm.h (fun i x b _ _ h=>h.ze) t₂.R (S₁.E.go t₂.g pz) rv hb₁ fun fr₃ z₃ hw₃ e₃ E₃ t₃=>?_
  rw [← e₂,← e₃] at hw₃
  have z1:=pn st₂ no₂ t₃
  have st₃:=Sr.go _ _ _ st₂ t₃.g.le z1.2
  have T₃:=(t₁.trans (t₂.weak (P':=fun b=>ZE env b∨P b) fun b q=>.inl (.inr q))).trans (t₃.weak fun b q=>.inl (.inl q))
  refine hb ⟨S₁.rm,E₃,t₃.R⟩ hw₃ fun fl f fr₄ z₄ hq₄ S₄ t₄ r=>?_
  have z0:=pn st₃ z1.1 t₄
  have T₄:=T₃.trans (t₄.weak fun b q=>.inl (.inl q))
  have again:forW pt chk (fun fr Q σ=>wS X.T (callN X.T k) sb fr Q σ) Q (xs.drop (j+1)) fr₄ z₄.σ→∃ m,m < xs.length - j∧INV m (z₄.s s₀):=fun hq=>⟨xs.length - (j+1),by lia,z₄,j+1,fr₄,rfl,rfl,hlt,Sr.go _ _ _ st₃ t₄.g.le z0.2,z0.1,S₄,T₄,hq⟩
  cases r with
  | nxt=>exact .inl ⟨.inl rfl,again hq₄⟩
  | cont=>exact .inl ⟨.inr rfl,again hq₄⟩
  | ret r=>exact .inr ⟨_,rfl,hk _ _ _ _ hq₄ S₄ (cl T₄) (.ret r)⟩
 ·have hx:xs[j]?=none:=List.getElem?_eq_none_iff.mpr (by lia)
  rw [List.drop_of_length_le (by lia)] at hw₁
  obtain ⟨hc,hw₁⟩:=hw₁
  refine wpAny_mono (Sr.done j z₁ s₀ (fun s₁=>Qc .next s₁) hx hi hst S₁.R no₁ hc fun z₂ e₂ t₂=>?_) (fun r s₁ q=>.inl q) fun _ _ f=>f.elim
  exact hk.nxt ⟨S₁.rm,S₁.E.go t₂.g pz,t₂.R⟩ (cl (t₁.trans (t₂.weak fun b q=>.inl (.inr q)))) (by rw [e₂]; exact hw₁)
structure TgsOK (X:Cx) (k:Nat) (c:TC) (es:List PySem.Expr) (ts:List Tg):Prop where
 each:∀ env,assignEach es env=es.map fun t=>(false,assign t env)
 len:es.length=ts.length
 go:∀ {A:Around} {env:Env} {fr:Fr} {l:List NV} {us:List Value} {K:Fr→NH→Prop} {Qc:Unit→Shared→Prop} {z:Z} {s₀:Shared},St X k A c env fr z→VRs X.w z.κ l us→wTgs ts l fr K z.σ →
  (∀ fr' z',K fr' z'.σ→St X k A c env fr' z'→Tr X (ZE env) z z'→Qc () (z'.s s₀))→wpAny (model p X.w) A (assignInOrder (es.map fun t=>assign t env) us) Qc Ef (z.s s₀)
theorem tgs_ok:∀ (ts:List Tg) (e:PySem.Expr),tgOk c ts=true→TgsOK X k c (rbT c ts e) ts
 | [],e,_=>⟨fun _=>rfl,rfl,fun {A env fr l us K Qc z s₀} S rs hw hk=>by
   cases rs with
   | nil=>exact assignInOrder_nil (hk fr z hw S (.refl S.R))
   | cons _ _=>exact hw.elim⟩
 | .loc i :: ts,e,o=>by
  have H:=tgs_ok ts (tl e) (ar o)
  refine ⟨fun env=>by show assignEach (.Name _ _ :: _) env=_; rw [show assignEach (.Name (nm c i) (ko e 0).pos :: rbT c ts (tl e)) env=(false,assign (.Name (nm c i) (ko e 0).pos) env) :: assignEach (rbT c ts (tl e)) env from rfl,H.each]; rfl,congrArg (·+1) H.len,fun {A env fr l us K Qc z s₀} S rs hw hk=>?_⟩
  cases rs with
  | nil=>exact hw.elim
  | cons r1 r2=>
   exact assignInOrder_cons (wpAny_assign_Name (set_nm S (al o) r1 (K:=fun fr=>wTgs ts _ fr K z.σ) hw fun fr' z' hw e S' t=>H.go S' (r2.go t) (by rw [e]; exact hw) fun fr₂ z₂ hq S₂ t₂=>hk fr₂ z₂ hq S₂ (t.trans t₂)))
 | .attr i f :: ts,e,o=>by
  have H:=tgs_ok ts (tl e) (ar o)
  refine ⟨fun env=>by show assignEach (.Attribute _ _ _ :: _) env=_; rw [show assignEach (.Attribute (.Name (nm c i) (ko (ko e 0) 0).pos) (aS f) (ko e 0).pos :: rbT c ts (tl e)) env=(false,assign (.Attribute (.Name (nm c i) (ko (ko e 0) 0).pos) (aS f) (ko e 0).pos) env) :: assignEach (rbT c ts (tl e)) env from rfl,H.each]; rfl,congrArg (·+1) H.len,fun {A env fr l us K Qc z s₀} S rs hw hk=>?_⟩
  cases rs with
  | nil=>exact hw.elim
  | @cons v u vs us r1 r2=>
   obtain ⟨ov,e1,hw⟩:=getv_inv hw
   obtain ⟨y,a,ro⟩:=S.E.val i _ ov (hasN_of (al o)).1 e1
   refine assignInOrder_cons ?_
   show wpAny _ A (assign (.Attribute (.Name (nm c i) (ko (ko e 0) 0).pos) (aS f) (ko e 0).pos) env u) _ _ _
   rw [assign_Attribute]
   refine wpAny_bind (wpAny_holding (name_at S.E.s (hasN_of (al o)).2 a ?_))
   refine wpAny_bind (wpAny_standAt (wpAny_bind (wpAny_holding (attr_set S.R ro r1 hw fun z' hw t=>?_))))
   refine wpAny_release ?_
   exact H.go (S.go t) (r2.go t) hw fun fr₂ z₂ hq S₂ t₂=>hk fr₂ z₂ hq S₂ (t.up.trans t₂)
theorem unpV_inv {W:List NV→Prop} {n:Nat} {σ:NH} {v:NV} (h:unpV W n σ v):(∃ l,v=.tup l∧n=l.length∧W l)∨∃ l,LS σ l v∧n=l.length∧W l:=by
 have gen:getL σ (fun vs=>bK (W vs) (Nat.beq n vs.length)) v→∃ l,LS σ l v∧n=l.length∧W l:=fun h=>by
  obtain ⟨l,L,h⟩:=getL_inv h
  have z0:=bK_inv h
  exact ⟨l,L,Nat.eq_of_beq_eq_true z0.1,z0.2⟩
 induction v using NV.casesOn with
 | tup l=>obtain ⟨h1,h2⟩:=bK_inv h; exact .inl ⟨l,rfl,Nat.eq_of_beq_eq_true h1,h2⟩
 | _=>exact .inr (gen h)
theorem st_up {ts:List Tg} {es:List PySem.Expr} {n:Nat} (hsw:∀ env,swappedStores [.Tuple es n q] e env=pure none) (H:TgsOK X k c es ts) (h:SE X k c e m):S1 X k c (.Assign [.Tuple es n q] e pos) (.up ts m):=fun A env fr Q Qc z s₀ S hw hk=>by
 refine wpAny_Assign_stores (h S hw fun v u z₁ hw t r=>?_) (show swapsWithSole [.Tuple es n q] e pos.line env=pure false from noSwapT e es n q pos.line env) (hsw env)
 have hk:=hk.step0 t
 have S:=S.go t
 have fin:∀ (l:List NV) (us:List Value),ts.length=l.length→VRs X.w z₁.κ l us→wTgs ts l fr (fun fr σ=>Q .nxt fr σ) z₁.σ→(assignEach es env).length=us.toArray.size∧∀ h₂,Heap.ExtBut z₁.h.objs.size z₁.h h₂→wpAny (model p X.w) A (assignInOrder ((assignEach es env).map (·.2)) us.toArray.toList) (fun _ s'=>Qc .next s') Ef ⟨h₂,s₀.gens,s₀.drawn,z₁.t,s₀.os⟩:=fun l us ln rs hw=>by
  refine ⟨by rw [H.each,List.length_map,List.size_toArray,← rs.length,H.len,ln],fun h₂ ex=>?_⟩
  rw [H.each,List.map_map]
  have t₂:Tr X X0 z₁ ⟨h₂,z₁.t,z₁.σ,z₁.κ⟩:=.grow S.R fun b o e=>ex b o (Nat.ne_of_lt (Heap.lt_size e)) e
  exact H.go (z:=⟨h₂,z₁.t,z₁.σ,z₁.κ⟩) (S.go t₂) (rs.go t₂) hw fun fr' z' hq S' t'=>(hk.step0 t₂).nxt S' t' hq
 have hst:(assignEach es env).findIdx? (·.1)=none:=by rw [H.each]; exact stars env
 show wpAny _ A (assign (.Tuple es n q) env u) _ _ _
 rcases unpV_inv hw with ⟨l,rfl,ln,hw⟩ | ⟨l,L,ln,hw⟩
 ·obtain ⟨a,us,m',rfl,g,rs⟩:=r.tup_inv
  exact assign_Tuple_tuple (s:=z₁.s s₀) S.rm.h ⟨_,S.R.fz _ _ g,rfl,m',rfl⟩ (fin l us ln rs hw).1 hst (fin l us ln rs hw).2
 ·obtain ⟨a,us,m',rfl,g,rs,_⟩:=L.at S.R r
  exact assign_Tuple_list (s:=z₁.s s₀) S.rm.h ⟨_,g,rfl,m',rfl⟩ (fin l us ln rs hw).1 hst (fin l us ln rs hw).2
end
end
section
noncomputable def setAll0:List Nat→List NV→Fr→Option Fr
 | [],[],fr=>some fr
 | i :: is,v :: vs,fr=>if i < fr.length then setAll0 is vs (fr.set i (some v)) else none
 | _,_,_=>none
theorem setAll_inv:∀ {is:List Nat} {vs:List NV} {fr:Fr} {K:Fr→Prop},setAll is vs fr K→∃ fr',setAll0 is vs fr=some fr'∧K fr'
 | [],[],fr,K,h=>⟨fr,rfl,h⟩
 | i :: is,v :: vs,fr,K,h=>by
  obtain ⟨h1,h2⟩:=setv_inv (K:=fun fr=>setAll is vs fr K) h
  obtain ⟨fr',h3,h4⟩:=setAll_inv h2
  exact ⟨fr',by rw [setAll0,if_pos h1]; exact h3,h4⟩
theorem setAll_len:∀ (is:List Nat) (vs:List NV) (fr fr':Fr),setAll0 is vs fr=some fr'→is.length=vs.length
 | [],[],_,_,_=>rfl
 | i :: is,v :: vs,fr,fr',h=>by
  rw [setAll0] at h
  split at h
  ·simp [setAll_len is vs _ _ h]
  ·cases h
 | [],_ :: _,_,_,h=>by cases h
 | _ :: _,[],_,_,h=>by cases h
set_option tactic.hygienic true in
theorem setAll_snoc (i:Nat) (v:NV):∀ (is:List Nat) (vs:List NV) (fr fr₁:Fr),setAll0 is vs fr=some fr₁→i < fr₁.length→setAll0 (is++[i]) (vs++[v]) fr=some (fr₁.set i (some v))
 | [],[],fr,fr₁,h,hi=>by
  cases h
  show (if i < fr.length then setAll0 [] [] (fr.set i (some v)) else none)=_
  rw [if_pos hi]; rfl
 | j :: is,u :: vs,fr,fr₁,h,hi=>by
  rw [setAll0] at h
  split at h
  ·rename_i hj
   show (if j < fr.length then setAll0 (is++[i]) (vs++[v]) (fr.set j (some u)) else none)=_
   rw [if_pos hj]; exact setAll_snoc i v is vs _ fr₁ h hi
  ·cases h
 | [],_ :: _,_,_,h,_=>by cases h
 | _ :: _,[],_,_,h,_=>by cases h
set_option tactic.hygienic true in
theorem setAll_comm (i:Nat) (v:NV):∀ (is:List Nat) (vs:List NV) (fr fr':Fr),i ∉ is→setAll0 is vs (fr.set i (some v))=some fr'→∃ f₀,setAll0 is vs fr=some f₀∧fr'=f₀.set i (some v)∧f₀.length=fr.length
 | [],[],fr,fr',_,h=>by cases h; exact ⟨fr,rfl,rfl,rfl⟩
 | j :: is,u :: vs,fr,fr',hn,h=>by
  rw [setAll0] at h
  split at h
  ·rename_i hj
   have ne:i≠j:=fun e=>hn (e▸List.mem_cons_self)
   rw [List.set_comm _ _ ne] at h
   obtain ⟨f₀,e1,e2,e3⟩:=setAll_comm i v is vs (fr.set j (some u)) fr' (fun q=>hn (List.mem_cons_of_mem _ q)) h
   refine ⟨f₀,?_,e2,by rw [e3]; simp⟩
   rw [setAll0,if_pos (by simpa using hj)]; exact e1
  ·cases h
 | [],_ :: _,_,_,_,h=>by cases h
 | _ :: _,[],_,_,_,h=>by cases h
set_option tactic.hygienic true in
theorem setAll_rev:∀ (is:List Nat) (vs:List NV) (fr fr':Fr),is.Nodup→setAll0 is vs fr=some fr'→setAll0 is.reverse vs.reverse fr=some fr'
 | [],[],fr,fr',_,h=>h
 | i :: is,v :: vs,fr,fr',hn,h=>by
  rw [List.nodup_cons] at hn
  rw [setAll0] at h
  split at h
  ·rename_i hi
   obtain ⟨f₀,e1,rfl,e3⟩:=setAll_comm i v is vs fr fr' hn.1 h
   rw [List.reverse_cons,List.reverse_cons]
   exact setAll_snoc i v _ _ _ _ (setAll_rev is vs fr f₀ hn.2 e1) (by rw [e3]; exact hi)
  ·cases h
 | [],_ :: _,_,_,_,h=>by cases h
 | _ :: _,[],_,_,_,h=>by cases h
section
variable {X:Cx} {k:Nat} {A:Around} {c:TC} {env:Env} {fr:Fr} {z z':Z} {s₀:Shared} {Qc:Flow→Shared→Prop} {Q:PoS} {q pos:Pos} {e o t:PySem.Expr} {m:E}
inductive Stores (w:World) (c:TC) (env:Env):List (Value→Sem Unit)→List Nat→Prop
 | nil:Stores w c env [] []
 | cons {f:Value→Sem Unit} {fs:List (Value→Sem Unit)} {i:Nat} {is:List Nat}:hasN c i=true→(∀ (A:Around) (u:Value) (Q:Unit→Shared→Prop) (s:Shared),wpAny (model p w) A (storeName env (nm c i) u) Q Ef s→wpAny (model p w) A (f u) Q Ef s)→Stores w c env fs is→Stores w c env (f :: fs) (i :: is)
theorem Stores.snoc {w:World} {f:Value→Sem Unit} {i:Nat} (h1:hasN c i=true) (h2:∀ (A:Around) (u:Value) (Q:Unit→Shared→Prop) (s:Shared),wpAny (model p w) A (storeName env (nm c i) u) Q Ef s→wpAny (model p w) A (f u) Q Ef s) {fs:List (Value→Sem Unit)} {is:List Nat} (H:Stores w c env fs is):Stores w c env (fs++[f]) (is++[i]):=by
 induction H with
 | nil=>exact .cons h1 h2 .nil
 | cons a b _ ih=>exact .cons a b ih
theorem Stores.rev {w:World} {fs:List (Value→Sem Unit)} {is:List Nat} (H:Stores w c env fs is):Stores w c env fs.reverse is.reverse:=by
 induction H with
 | nil=>exact .nil
 | cons a b _ ih=>rw [List.reverse_cons,List.reverse_cons]; exact .snoc a b ih
theorem stores_go {fs:List (Value→Sem Unit)} {is:List Nat} (H:Stores X.w c env fs is):∀ {vs:List NV} {us:List Value} {fr fr':Fr} {z:Z} {Qc:Unit→Shared→Prop},St X k A c env fr z→VRs X.w z.κ vs us→setAll0 is vs fr=some fr' →
  (∀ z',z'.σ=z.σ→St X k A c env fr' z'→Tr X (ZE env) z z'→Qc () (z'.s s₀))→wpAny (model p X.w) A (assignInOrder fs us) Qc Ef (z.s s₀):=by
 induction H with
 | nil=>
  intro vs us fr fr' z Qc S rs hs hk
  cases rs with
  | nil=>cases hs; exact assignInOrder_nil (hk z rfl S (.refl S.R))
  | cons _ _=>cases hs
 | @cons f fs i is hi hf _ ih=>
  intro vs us fr fr' z Qc S rs hs hk
  cases rs with
  | nil=>cases hs
  | cons r1 r2=>
   rw [setAll0] at hs
   split at hs
   ·exact assignInOrder_cons (hf _ _ _ _ (set_name S.R S.E (hasN_of hi).1 r1 fun z₁ e₁ E₁ t₁=>
     have t:Tr X (ZE env) z z₁:=t₁.weak fun b q=>.inl q.ze
     ih ⟨S.rm,E₁,t.R⟩ (r2.go t) hs fun z₂ e₂ S₂ t₂=>hk z₂ (e₂.trans e₁) S₂ (t.trans t₂)))
   ·cases hs
theorem names_each (env:Env):∀ (is:List Nat) (e:PySem.Expr),assignEach (rbN c is e) env=(rbN c is e).map fun t=>(false,assign t env)
 | [],e=>rfl
 | i :: is,e=>by
  rw [show assignEach (rbN c (i :: is) e) env=(false,assign (.Name (nm c i) (ko e 0).pos) env) :: assignEach (rbN c is (tl e)) env from rfl,names_each env is (tl e)]; rfl
theorem names_len:∀ (is:List Nat) (e:PySem.Expr),(rbN c is e).length=is.length
 | [],e=>rfl
 | i :: is,e=>congrArg (·+1) (names_len is (tl e))
theorem stores_plain {w:World}:∀ (is:List Nat) (e:PySem.Expr),is.all (hasN c)=true→Stores w c env ((rbN c is e).map fun t=>assign t env) is
 | [],e,_=>.nil
 | i :: is,e,h=>.cons (an h).1 (fun A u Q s q=>wpAny_assign_Name q) (stores_plain is (tl e) (an h).2)
theorem stores_names {w:World} {line:Nat}:∀ (is:List Nat) (e:PySem.Expr) {names:List Str},is.all (hasN c)=true→(rbN c is e).map (swapF env line)=names.map some→Stores w c env (names.map fun n=>bindName env n) is
 | [],e,[],_,_=>.nil
 | i :: is,e,y :: ys,h,hn=>by
  have h1:swapF env line (.Name (nm c i) (ko e 0).pos)=some y:=(List.cons.inj hn).1
  have h2:=stores_names (w:=w) is (tl e) (an h).2 (List.cons.inj hn).2
  unfold swapF at h1
  simp only at h1
  split at h1
  ·cases h1; exact .cons (an h).1 (fun A u Q s q=>wpAny_bindName q) h2
  ·cases h1
theorem st_sw {vs:List PySem.Expr} {n n':Nat} {q':Pos} {is:List Nat} (hc:vs.all (constantsAlone 8)=false) (hi:is.all (hasN c)=true) (hnd:is.Nodup) (hl:vs.length≤1000) (hv:Each X k c vs m):S1 X k c (.Assign [.Tuple (rbN c is e) n q] (.Tuple vs n' q') pos) (.sw is m):=fun A env fr Q Qc z s₀ S hw hk=>by
 have he:SE X k c (.Tuple vs n' q') (.tp m):=se_tp hl hv
 have hw:wE X.T (callN X.T k) (.tp m) fr (fun t σ=>argK (fun vs=>setAll is vs fr fun fr=>Q .nxt fr σ) t) z.σ:=hw
 have fin:∀ {v u} {z₁:Z},argK (fun vs=>setAll is vs fr fun fr=>Q .nxt fr z₁.σ) v→Rel X.w X.h₀ z₁→VR X.w z₁.κ v u→∃ a us m' fr' l,u=.ref a∧z₁.h.get? a=some (tuO us m')∧VRs X.w z₁.κ l us∧setAll0 is l fr=some fr'∧Q .nxt fr' z₁.σ:=fun {v u z₁} hq R r=>by
  obtain ⟨l,rfl,hq⟩:=onT_inv hq
  obtain ⟨a,us,m',rfl,g,rs⟩:=r.tup_inv
  obtain ⟨fr',h1,h2⟩:=setAll_inv hq
  exact ⟨a,us,m',fr',l,rfl,R.fz _ _ g,rs,h1,h2⟩
 have up:∀ {z₁:Z} {h₂:Heap},Rel X.w X.h₀ z₁→Heap.ExtBut z₁.h.objs.size z₁.h h₂→Tr X X0 z₁ ⟨h₂,z₁.t,z₁.σ,z₁.κ⟩:=fun R ex=>.grow R fun b o e=>ex b o (Nat.ne_of_lt (Heap.lt_size e)) e
 rcases swapped (rbN c is e) vs n n' q q' env hc with hz | ⟨names,line,hz,hn,hnl⟩
 ·refine wpAny_Assign_stores (he S hw fun v u z₁ hw t r=>?_) (show swapsWithSole [.Tuple (rbN c is e) n q] (.Tuple vs n' q') pos.line env=pure false from noSwapT (.Tuple vs n' q') (rbN c is e) n q pos.line env) hz
  obtain ⟨a,us,m',fr',l,rfl,g,rs,hs,hq⟩:=fin hw t.R r
  have S:=S.go t
  show wpAny _ A (assign (.Tuple (rbN c is e) n q) env (.ref a)) _ _ _
  refine assign_Tuple_tuple (s:=z₁.s s₀) S.rm.h ⟨_,g,rfl,m',rfl⟩ ?_ (by rw [names_each]; exact stars env) fun h₂ ex=>?_
  ·rw [names_each,List.length_map,List.size_toArray,← rs.length,names_len,setAll_len _ _ _ _ hs]
  ·rw [names_each,List.map_map]
   have t₂:=up S.R ex
   exact stores_go (z:=⟨h₂,z₁.t,z₁.σ,z₁.κ⟩) (stores_plain is e hi) (S.go t₂) (rs.go t₂) hs fun z' e' S' t'=>((hk.step0 t).step0 t₂).nxt S' t' (by rw [e']; exact hq)
 ·rw [exec_Assign_arm]
  refine wpAny_bind (wpAny_standAt ?_)
  rw [show swapsWithSole [.Tuple (rbN c is e) n q] (.Tuple vs n' q') pos.line env=pure false from noSwapT (.Tuple vs n' q') (rbN c is e) n q pos.line env]
  refine wpAny_bind (wpAny_pure ?_)
  rw [if_neg (by decide)]
  refine wpAny_bind (he S hw fun v u z₁ hw t r=>?_)
  obtain ⟨a,us,m',fr',l,rfl,g,rs,hs,hq⟩:=fin hw t.R r
  have S:=S.go t
  rw [hz]
  refine wpAny_bind (wpAny_pure ?_)
  unfold assignStores
  refine wpAny_bind (wpAny_rule ?_)
  have len:names.length=us.toArray.size:=by rw [hnl,names_len,setAll_len _ _ _ _ hs,List.size_toArray,rs.length]
  rw [len]
  refine wpAny_bind (unpackItems_tuple (s:=z₁.s s₀) S.rm.h ⟨_,g,rfl,m',rfl⟩ fun h₂ ex=>?_)
  have t₂:=up S.R ex
  rw [List.map_reverse]
  refine wpAny_bind (stores_go (z:=⟨h₂,z₁.t,z₁.σ,z₁.κ⟩) (stores_names is e hi hn).rev (S.go t₂) (All2.reverse (rs.go t₂)) (setAll_rev _ _ _ _ hnd hs) fun z' e' S' t'=>?_)
  exact wpAny_pure (((hk.step0 t).step0 t₂).nxt S' t' (by rw [e']; exact hq))
theorem swapNone {ts vs:List PySem.Expr} {n n':Nat} {q q':Pos} {env:Env} (h:∀ line,(ts.filterMap (swapF env line)).length≠ts.length):swappedStores [.Tuple ts n q] (.Tuple vs n' q') env=pure none:=by
 rw [swap_eq]
 split
 ·rfl
 split
 ·rfl
 rw [if_pos]
 rw [Bool.or_eq_true]
 left
 simpa using h _
theorem noSw {ts:List PySem.Expr} {n:Nat} (h:(!isTupE e || ts.any (fun e=>!isName e))=true) (env:Env):swappedStores [.Tuple ts n q] e env=pure none:=by
 cases e with
 | Tuple vs n' q'=>
  have h:ts.any (fun e=>!isName e)=true:=h
  refine swapNone fun line el=>?_
  obtain ⟨a,ha,na⟩:=List.any_eq_true.mp h
  have:=filterMap_full _ _ el
  have:swapF env line a∈(ts.filterMap (swapF env line)).map some:=by rw [← this]; exact List.mem_map_of_mem ha
  obtain ⟨b,_,hb⟩:=List.mem_map.mp this
  cases a <;> first | (cases na; done) | (cases hb; done)
 | _=>rfl
end
set_option tactic.hygienic true in
theorem isNoneL_eq {m:E} (h:isNoneL m=true):m=.li .none:=by
 induction m using E.casesOn <;> first | exact absurd h Bool.false_ne_true | skip
 case li v=>induction v using NV.casesOn <;> first | exact absurd h Bool.false_ne_true | rfl
theorem stm_ok {X:Cx} {k:Nat} (OK:CallOK X k):∀ (s:S) (c:TC) (l:List Stmt),okS s c l=true→(isS1 s=true→∃ x,rbL s c l=[x]∧S1 X k c x s)∧SS X k c (rbL s c l) s:=by
 have one:∀ {s:S} {c:TC} {l:List Stmt} {x:Stmt},rbL s c l=[x]→S1 X k c x s→(isS1 s=true→∃ x,rbL s c l=[x]∧S1 X k c x s)∧SS X k c (rbL s c l) s:=fun {s c l x} e h=>⟨fun _=>⟨x,e,h⟩,by rw [e]; exact ss_one h⟩
 have E:=fun m c e h=>exp_ok OK m c e h
 intro s
 induction s with
 | sk=>exact fun c l h=>⟨(fun q=>nomatch q),fun _ _ _ _ _ _ _ S hw hk=>wpAny_execs_nil (hk _ _ _ _ hw S (.refl S.R) .nxt)⟩
 | sq a b ih1 ih2=>
  intro c l h
  obtain ⟨x,e,hx⟩:=(ih1 c _ (ar (al h))).1 (al (al h))
  have hb:SS X k c (rbL b c l.tail) b:=(ih2 c _ (ar h)).2
  refine ⟨(fun q=>nomatch q),fun _ _ _ _ _ _ _ S hw hk=>?_⟩
  show wpAny _ _ (execs (rbL a c (l.take 1)++rbL b c l.tail) _) _ _ _
  rw [e]
  refine wpAny_execs_cons (hx S hw fun fl f fr' z' hq S' t r=>?_)
  cases r with
  | nxt=>exact hb S' hq (hk.step t)
  | cont=>exact hk _ _ _ _ hq S' t .cont
  | ret r=>exact hk _ _ _ _ hq S' t (.ret r)
 | st i m=>
  intro c l h
  have x:=(E m c _ (ar (al h))).ex (nt (ar h))
  cases hc:isComp (rb m c (sve l 0)) with
  | false=>exact one rfl (st_st (noSwap x.gd hc) (al (al h)) x.se)
  | true=>exact one rfl (st_stC (al (al h)) (x.cp hc))
 | sa o f m=>
  intro c l h
  exact one rfl (st_sa ((E o c _ (al (al (al h)))).ex (nt (ar (al (al h))))).se ((E m c _ (ar (al h))).ex (nt (ar h))).se)
 | si o i m=>
  intro c l h
  exact one rfl (st_si ((E o c _ (al (al (al (al (al h)))))).ex (nt (ar (al (al (al (al h))))))).se ((E i c _ (ar (al (al (al h))))).ex (nt (ar (al (al h))))).se ((E m c _ (ar (al h))).ex (nt (ar h))).se)
 | up ts m=>
  intro c l h
  exact one rfl (st_up (noSw (ar h)) (tgs_ok ts _ (al (al (al h)))) ((E m c _ (ar (al (al h)))).ex (nt (ar (al h)))).se)
 | sw is m=>
  intro c l h
  exact one rfl (st_sw (nt (ar h)) (al (al (al (al (al h))))) (of_decide_eq_true (ar (al (al (al (al h)))))) (of_decide_eq_true (ar (al h))) ((E m c _ (ar (al (al (al h))))).ar (ar (al (al h)))))
 | au o f m=>
  intro c l h
  exact one rfl (st_au (of_decide_eq_true (ar h)) ((E o c _ (al (al (al (al h))))).ex (nt (ar (al (al (al h)))))).se ((E m c _ (ar (al (al h)))).ex (nt (ar (al h)))).se)
 | ex m=>
  intro c l h
  have x:=(E m c _ (al (al h))).ex (nt (ar (al h)))
  exact one rfl (st_ex x.gd (nt (ar h)) x.se)
 | ie m a b ih1 ih2=>
  intro c l h
  exact one rfl (st_if ((E m c _ (al (al (al h)))).ex (nt (ar (al (al h))))).tr (ih1 c _ (ar (al h))).2 (ih2 c _ (ar h)).2)
 | wh m b ih=>
  intro c l h
  exact one rfl (st_wh ((E m c _ (al (al h))).ex (nt (ar (al h)))).tr (ih c _ (ar h)).2)
 | fo pt g it b ih=>
  intro c l h
  obtain ⟨s1,s2⟩:=sit_ok (X:=X) (k:=k) (e:=sve l 0) (tgt:=rbP c pt (sve l 1)) (ar (al (al (al h)))) ((E it c _ (ar (al (al h)))).ar (ar (al h))) (tupT (al (al (al (al h)))))
  exact one rfl (st_fo s2 ((pat_ok pt _).1 (al (al (al (al h))))) s1 (ih c _ (ar h)).2)
 | re m=>
  intro c l h
  have x:=(E m c _ (al (al h))).ex (nt (ar (al h)))
  have h2:=ar h
  rcases hq:(sv l).isEmpty with _ | _ <;> rw [hq] at h2
  ·refine one (x:=.Return (some (rb m c (sve l 0))) (sp l)) ?_ (st_re x.se)
   show [Stmt.Return (match (sv l).isEmpty with | true=>none | false=>some _) _]=_
   rw [hq]
  ·rw [isNoneL_eq h2]
   refine one (x:=.Return none (sp l)) ?_ st_re0
   show [Stmt.Return (match (sv l).isEmpty with | true=>none | false=>some _) _]=_
   rw [hq]
 | co=>exact fun c l h=>one rfl st_co
 | fa=>exact fun c l h=>⟨(fun q=>nomatch q),fun _ _ _ _ _ _ _ S hw hk=>hw.elim⟩
end
section
section
variable {X:Cx} {k:Nat}
theorem codeRec_up {h h':Heap} {c:Value} {q:Str} (up:∀ b o,h.get? b=some o→h'.get? b=some o) (x:h.CodeRec c q):h'.CodeRec c q:=by
 obtain ⟨a,o,vs,t,e1,e2,e3,e4⟩:=x
 exact ⟨a,o,vs,t,e1,up _ _ e2,e3,e4⟩
theorem funOK_succ (OK:CallOK X k):FunOK X (k+1):=fun A i a vs us Q RR z s₀ rf R fa rs hw0 hk=>by
 obtain ⟨d,hd,hw1⟩:=defK_inv (leave hw0)
 obtain ⟨hok,hw⟩:=bK_inv hw1
 clear hw1 hw0
 obtain ⟨f1,f2⟩:=an hok
 have f1:=Nat.le_of_ble_eq_true f1
 have f2:=Nat.le_of_ble_eq_true f2
 have hdepth:A.depth < recursionLimit:=by have:=rf.d; lia
 have rm:∀ env,Room (A.deeper env) k:=fun env=>by
  refine ⟨rf.h,?_,?_⟩
  ·show A.depth+1+4 * k+8 < recursionLimit
   have:=rf.d; lia
  ·show A.units+3+16 * k+200 < cLine
   have:=rf.u; lia
 have lv:=rs.length
 have out:∀ {env:Env} {z₁ z':Z},Tr X X0 z z₁→(∀ b,ZE env b→z.h.get? b=none)→Tr X (ZE env) z₁ z'→Tr X X0 z z':=fun t zd t'=>(t.up.trans t').fresh zd
 rcases fa with ⟨rfl,lt⟩ | ⟨j,fd,rfl,L⟩
 ·obtain ⟨fd,body,ns,ds,F⟩:=X.fns a d lt hd
  have ld:d.dfl.length=ds.length:=(F.dv z.κ).length
  have ln:=F.sc.na
  refine codeAny_call_function (s:=z.s s₀) hdepth (R.keep0 _ _ F.at_) rfl F.sc.co F.sc.gen F.bod (codeRec_up R.keep0 F.code) ?_
  refine toE (binds_plain (s:=z.s s₀) F.args (F.dfl.keeps R.keep0) F.dle (by lia) (by lia) _ _ _ _ ?_)
  rw [F.glo,F.clo,F.bui]
  refine toE (into_frame (l:=isV fd) (ws:=vs++d.dfl.drop (d.dfl.length+vs.length - d.na)) (fun q=>⟨F.lam q,by rw [eq_of_beq (show (fd.qualname==("_law_view" : Str))=true from q)]; decide⟩) R F.sc F.args.nd ?_ ?_ fun env h₁ t₁ E t zd=>⟨X.nolim.keeps t.R.keep0,?_⟩)
  ·rw [ld,lv,← ln]
   exact ((F.dv z.κ).drop _).append rs
  ·rw [List.length_append,List.length_drop]; lia
  have ss:SS X k (scTC fd.scope (isV fd)) (rbL d.body (scTC fd.scope (isV fd)) body) d.body:=(stm_ok OK d.body (scTC fd.scope (isV fd)) body F.ok).2
  rw [F.tr] at ss
  refine codeAny_func (toE (ss (z:=⟨h₁,t₁,z.σ,z.κ⟩) ⟨rm env,E,t.R⟩ hw fun fl f fr' z' hq S' t' r=>?_))
  have T:=out t zd t'
  cases r with
  | nxt=>exact hk _ _ _ hq T .none
  | cont=>exact hq.elim
  | ret r=>exact hk _ _ _ hq T r
 ·obtain ⟨ns,M⟩:=X.lam j d hd
  have pa:=M.args fd L.params
  have ln:=M.sc.na
  have hb0:d.dfl=[]:=M.dfl
  rw [hb0] at f2
  obtain ⟨c,o,vs',t,hc1,hc2,hc3,hc4⟩:=L.code
  refine kla_callFunE (s:=z.s s₀) hdepth (R.fz _ _ L.at') rfl (by rw [L.scope]; exact M.sc.co) (by rw [L.scope]; exact M.sc.gen) L.body ⟨c,o,vs',t,hc1,R.fz _ _ hc2,hc3,hc4⟩ ?_
  refine toE (binds_plain (s:=z.s s₀) pa (ds:=[]) L.dfl (Nat.zero_le _) (by lia) (by simp only [List.length_nil] at f2 ⊢; lia) _ _ _ _ ?_)
  rw [L.glo,L.clo,L.bui,L.scope]
  simp only [List.drop_nil,List.append_nil]
  have hfr:d.frame vs=vs.map some++List.replicate (d.n - d.na) none:=by unfold FD.frame; rw [hb0,List.drop_nil,List.append_nil]
  rw [hfr] at hw
  refine toE (into_frame (l:=false) (ws:=vs) (d:=d) (fun q=>nomatch q) R M.sc pa.nd rs (by simp only [List.length_nil] at f2; lia) fun env h₁ t₁ E t zd=>⟨X.nolim.keeps t.R.keep0,?_⟩)
  obtain ⟨m,hm,na,hr,hk'⟩:=M.bod
  rw [hm] at hw
  have se:SE X k (scTC (lamP j).2.2 false) (rb m (scTC (lamP j).2.2 false) (lamP j).2.1) m:=((exp_ok OK m _ _ hk').ex na).se
  rw [hr] at se
  exact kla_codeExpr (toE (se (z:=⟨h₁,t₁,z.σ,z.κ⟩) ⟨rm env,E,t.R⟩ hw fun v u z' hq t' r=>hk _ _ _ hq (t.trans t') r))
theorem funOK (X:Cx):∀ k,FunOK X k
 | 0=>fun _ _ _ _ _ _ _ _ _ rf R fa rs hw hk=>(call_0 hw).elim
 | k+1=>funOK_succ (CallOK.of (funOK X k))
end
end
section
noncomputable section
structure Base (w:World) (h₀:Heap) (ns:List Int):Prop where
 keep:∀ b o,b≠tabP→(HEnd w).get? b=some o→h₀.get? b=some o
 n0:h₀.get? tabP=none
 scr:∃ vs:List Value,h₀.IsList 1004 vs.toArray∧IntsAre vs ns∧ns.length≤cap
theorem Base.ns {w:World} {h₀:Heap} {l:List Int} (B:Base w h₀ l) {a:Addr} {m:Str→Option Value} (h:(HEnd w).Ns a m) (ne:a≠tabP):h₀.Ns a m:=
 let ⟨o,es,ep,e,r⟩:=h; ⟨o,es,ep,B.keep _ _ ne e,r⟩
theorem lkp_in {α:Type} {i:Nat}:∀ {l:List (Nat × α)} {v:α},lkp i l=some v→(i,v)∈l
 | (k,u) :: r,v,h=>by
  have h:(match Nat.beq k i with | true=>some u | false=>lkp i r)=some v:=h
  cases q:Nat.beq k i with
  | true=>rw [q] at h; cases h; rw [Nat.eq_of_beq_eq_true q]; exact List.mem_cons_self
  | false=>rw [q] at h; exact List.mem_cons_of_mem _ (lkp_in h)
noncomputable def isNon:Value→Bool
 | .none=>true
 | _=>false
noncomputable def isI (i:Int):Value→Bool
 | .int j _=>i==j
 | _=>false
noncomputable def isStr (s:Str):Value→Bool
 | .str t _=>t==s
 | _=>false
noncomputable def isRef (a:Addr):Value→Bool
 | .ref b=>a==b
 | _=>false
theorem isNon_eq {u:Value} (h:isNon u=true):u=.none:=by
 induction u using Value.casesOn <;> first | exact absurd h Bool.false_ne_true | rfl
theorem isI_eq {i:Int} {u:Value} (h:isI i u=true):∃ t,u=.int i t:=by
 induction u using Value.casesOn <;> first | exact absurd h Bool.false_ne_true | exact ⟨_,congrArg (fun x=>Value.int x _) (eq_of_beq (show (i==_)=true from h)).symm⟩
theorem isStr_eq {s:Str} {u:Value} (h:isStr s u=true):∃ t,u=.str s t:=by
 induction u using Value.casesOn <;> first | exact absurd h Bool.false_ne_true | exact ⟨_,congrArg (fun x=>Value.str x _) (eq_of_beq (show (_==s)=true from h))⟩
theorem isRef_eq {a:Addr} {u:Value} (h:isRef a u=true):u=.ref a:=by
 induction u using Value.casesOn <;> first | exact absurd h Bool.false_ne_true | exact (eq_of_beq (show (a==_)=true from h))▸rfl
noncomputable def flat:NV→Value→Bool
 | .none,u=>isNon u
 | .int i,u=>isI i u
 | .str n,u=>isStr (tb n) u&&decide (n < tab.length)
 | .fn a,u=>isRef a u&&decide (a < 2000)
 | .cls a,u=>isRef a u
 | .gl a,u=>isRef a u
 | _,_=>false
theorem flat_vr {v:NV} {u:Value} (h:flat v u=true) (w:World) (κ:Ka):VR w κ v u:=by
 induction v using NV.casesOn <;> first | exact absurd h Bool.false_ne_true | skip
 ·exact isNon_eq h▸.none
 ·exact (isI_eq h).elim fun t e=>e▸.int _ t
 ·exact (isStr_eq (al h)).elim fun t e=>e▸.str t (of_decide_eq_true (ar h))
 ·exact isRef_eq (al h)▸.fn (of_decide_eq_true (ar h))
 ·exact isRef_eq h▸.cls _
 ·exact isRef_eq h▸.gl _
noncomputable def flats:List NV→List Value→Bool
 | [],[]=>true
 | x :: xs,v :: vs=>flat x v&&flats xs vs
 | _,_=>false
theorem flats_vr (w:World) (κ:Ka):∀ {l:List NV} {us:List Value},flats l us=true→VRs w κ l us:=by
 intro l
 induction l with
 | nil=>
  intro us h
  rcases us with _ | _
  ·exact .nil
  ·exact absurd h Bool.false_ne_true
 | cons x xs ih=>
  intro us h
  rcases us with _ | ⟨v,vs⟩
  ·exact absurd h Bool.false_ne_true
  ·exact .cons (flat_vr (al h) w κ) (ih (ar h))
noncomputable def someB {α:Type} (f:α→Bool):Option α→Bool
 | some x=>f x
 | none=>false
theorem someB_of {α:Type} {f:α→Bool} {o:Option α} (h:someB f o=true):∃ x,o=some x∧f x=true:=by
 rcases o with _ | x
 ·exact absurd h Bool.false_ne_true
 ·exact ⟨x,rfl,h⟩
noncomputable def gOk (w:World):Bool:=gtab.all fun x=>someB (flat x.2) ((HEnd w).nsMap mainGlobals (Str.ofString x.1))
theorem gOk_true (w:World):gOk w=true:=by kernel_rfl
theorem plain_true (w:World):(plainNames.all fun x=>((HEnd w).nsMap mainGlobals x).isNone)=true:=by kernel_rfl
theorem lim_true (w:World):((HEnd w).isNs cStatics&&((HEnd w).nsMap cStatics "sys.recursionlimit").isNone)=true:=by kernel_rfl
noncomputable def isTy (t:String):Value→Bool
 | .type c=>c==t
 | _=>false
theorem isTy_eq {t:String} {u:Value} (h:isTy t u=true):u=.type t:=by
 induction u using Value.casesOn <;> first | exact absurd h Bool.false_ne_true | exact (eq_of_beq (show (_==t)=true from h))▸rfl
noncomputable def seqOf:Data→Option (List Value)
 | .seq vs m=>some vs.toList
 | _=>none
theorem seqOf_eq {d:Data} {us:List Value} (h:seqOf d=some us):∃ m,d=.seq us.toArray m:=by
 induction d using Data.casesOn <;> first | exact (Option.some_ne_none _ h.symm).elim | exact ⟨_,by rw [← Option.some.inj h]⟩
noncomputable def seqAt (w:World) (g:Addr) (t:String):Option (List Value):=(HEnd w).get? g >>= fun o=>match isTy t o.cls&&o.dict.isNone&&o.slots.isEmpty&&g != tabP with
 | true=>seqOf o.data
 | false=>none
theorem seqAt_of {w:World} {g:Addr} {t:String} {us:List Value} (h:seqAt w g t=some us):g≠tabP∧∃ m,(HEnd w).get? g=some { cls:=.type t,data:=.seq us.toArray m }:=by
 obtain ⟨⟨c,d,da,sl⟩,hg,h⟩:=Option.bind_eq_some_iff.mp h
 rcases q:isTy t c&&d.isNone&&sl.isEmpty&&g != tabP with _ | _ <;> rw [q] at h
 ·exact nomatch h
 ·obtain ⟨m,e⟩:=seqOf_eq h
  have e:da=.seq us.toArray m:=e
  rw [isTy_eq (al (al (al q))),Option.isNone_iff_eq_none.mp (ar (al (al q))),Array.isEmpty_iff.mp (ar (al q)),e] at hg
  exact ⟨bne_iff_ne.mp (ar q),m,hg⟩
noncomputable def refOf:Value→Option Addr
 | .ref a=>some a
 | _=>none
theorem refOf_eq {u:Value} {a:Addr} (h:refOf u=some a):u=.ref a:=by
 induction u using Value.casesOn <;> first | exact (Option.some_ne_none _ h.symm).elim | exact Option.some.inj h▸rfl
noncomputable def itemOk (w:World):NV→Value→Bool
 | .tup l,u=>someB (fun a=>someB (flats l) (seqAt w a "tuple")) (refOf u)
 | v,u=>flat v u
noncomputable def itemsOk (w:World):List NV→List Value→Bool
 | [],[]=>true
 | x :: xs,v :: vs=>itemOk w x v&&itemsOk w xs vs
 | _,_=>false
noncomputable def seqOk (w:World) (g:Addr) (b:Bool) (l:List NV):Bool:=someB (fun us=>itemsOk w l us&&decide (l.length≤1000)) (seqAt w g (match b with
  | true => "list"
  | false => "tuple"))
theorem seq_true (w:World):(glL.all fun x=>match x.2 with
 | .seq b l=>seqOk w x.1 b l
 | _=>true)=true:=by kernel_rfl
noncomputable def enL (P:Params) (l:List (Str × Nat × Value)):List DictEntry:=l.map fun x=>⟨PyData.keyHash P x.1,.str x.1 x.2.1,x.2.2⟩
noncomputable def get3:List (Str × Nat × Value):=[("local",1138,.int 11 218),("cell",1139,.int 13 222),("up",1140,.int 15 226)]
noncomputable def set3:List (Str × Nat × Value):=[("local",1145,.int 12 220),("cell",1146,.int 14 224),("up",1147,.int 16 228)]
theorem get3_at (w:World):(HEnd w).get? 418=some { cls:=.type "dict",data:=.dict (enL w.params get3).toArray 3 }:=by kernel_rfl
theorem set3_at (w:World):(HEnd w).get? 419=some { cls:=.type "dict",data:=.dict (enL w.params set3).toArray 3 }:=by kernel_rfl
noncomputable def dicOk (g:Nat) (ks:List Nat) (l:List NV):Bool:=match Nat.beq g 418 with
 | true=>(get3.map (·.1)==ks.map tb)&&flats l (get3.map (·.2.2))&&ks.all (fun n=>decide (n < tab.length))
 | false=>Nat.beq g 419&&(set3.map (·.1)==ks.map tb)&&flats l (set3.map (·.2.2))&&ks.all (fun n=>decide (n < tab.length))
theorem dic_true:(glL.all fun x=>match x.2 with
 | .dict ks l=>dicOk x.1 ks l
 | _=>true)=true:=by kernel_rfl
section
variable {w:World} {h₀:Heap} {ns:List Int}
set_option tactic.hygienic true in
theorem item_vr (B:Base w h₀ ns) {κ:Ka} (k:∀ b o,h₀.get? b=some o→κ b=.fz o) {v:NV} {u:Value} (h:itemOk w v u=true):VR w κ v u:=by
 induction v using NV.casesOn
 case tup l=>
  obtain ⟨a,e1,h⟩:=someB_of h
  obtain ⟨us,e2,h⟩:=someB_of h
  obtain ⟨ne,m,g⟩:=seqAt_of e2
  exact refOf_eq e1▸.tup (vs:=us) (m:=m) (k _ _ (B.keep _ _ ne g)) (flats_vr w κ h)
 all_goals
  refine flat_vr ?_ w κ
  exact h
theorem items_vr (B:Base w h₀ ns) {κ:Ka} (k:∀ b o,h₀.get? b=some o→κ b=.fz o):∀ {l:List NV} {us:List Value},itemsOk w l us=true→VRs w κ l us:=by
 intro l
 induction l with
 | nil=>
  intro us h
  rcases us with _ | _
  ·exact .nil
  ·exact absurd h Bool.false_ne_true
 | cons x xs ih=>
  intro us h
  rcases us with _ | ⟨v,vs⟩
  ·exact absurd h Bool.false_ne_true
  ·exact .cons (item_vr B k (al h)) (ih (ar h))
theorem dictOf_en {h:Heap} {g:Addr} {l:List (Str × Nat × Value)} {n:Nat} (e:h.get? g=some { cls:=.type "dict",data:=.dict (enL w.params l).toArray n }) (nd:(l.map (·.1)).Nodup):h.DictOf (PySem.strKind p w) g (l.map fun x=>(x.1,x.2.2)):=by
 refine ⟨_,_,_,e,⟨rfl,rfl,rfl⟩,rfl,fun x hx=>?_,?_,by rw [List.map_map]; exact nd⟩
 ·have hx:x∈enL w.params l:=by simpa using hx
  obtain ⟨y,hy,rfl⟩:=List.mem_map.mp hx
  exact ⟨y.1,by simp [PySem.strKind,Value.isStrOf],rfl⟩
 ·show Pairs _ (enL w.params l) _
  clear e nd
  induction l with
  | nil=>exact .nil
  | cons a l ih=>exact .cons (by simp [PySem.strKind,Value.isStrOf]) rfl ih
theorem dict_gr (B:Base w h₀ ns) {g:Nat} {ks:List Nat} {l:List NV} (h:lkp g glL=some (.dict ks l)):∃ kvs,h₀.DictOf (PySem.strKind p w) g kvs∧kvs.map (·.1)=ks.map tb∧(∀ k∈ks,k < tab.length)∧∀ κ,VRs w κ l (kvs.map (·.2)):=by
 have ok:dicOk g ks l=true:=List.all_eq_true.mp dic_true _ (lkp_in h)
 unfold dicOk at ok
 cases q:Nat.beq g 418 with
 | true=>
  rw [q] at ok
  cases Nat.eq_of_beq_eq_true q
  obtain ⟨ok,h3⟩:=an ok
  obtain ⟨h1,h2⟩:=an ok
  exact ⟨_,dictOf_en (B.keep _ _ (by decide) (get3_at w)) (by decide+kernel),by rw [List.map_map]; exact eq_of_beq h1,all_lt h3,fun κ=>by rw [List.map_map]; exact flats_vr w κ h2⟩
 | false=>
  rw [q] at ok
  obtain ⟨ok,h3⟩:=an ok
  obtain ⟨ok,h2⟩:=an ok
  obtain ⟨h0,h1⟩:=an ok
  cases Nat.eq_of_beq_eq_true h0
  exact ⟨_,dictOf_en (B.keep _ _ (by decide) (set3_at w)) (by decide+kernel),by rw [List.map_map]; exact eq_of_beq h1,all_lt h3,fun κ=>by rw [List.map_map]; exact flats_vr w κ h2⟩
end
noncomputable def fragAs:List Addr:=[142,144,145,205,212,220,227,234,241,248,276,283,290,297,304,306,307,332,339,346,353,360,368,375,382,389,396,403,410,412,413,433,440,447,454,461,468,475,477,478,496,503,505,506,601,608,636,643,650,687,688,705,712,719,726,733,740,747,754,761,768,775,782,789,796,803,810,817,824,831,833,834,850,852,853]
noncomputable def fragK (w:World):Frag:=fragAs.filterMap fun a=>((HEnd w).get? a).map fun o=>(a,o)
set_option tactic.hygienic true in
theorem lookup_in {α β:Type} [BEq α] [LawfulBEq α]:∀ {l:List (α × β)} {a:α} {b:β},l.lookup a=some b→(a,b)∈l
 | (x,y) :: l,a,b,h=>by
  rw [List.lookup_cons] at h
  split at h
  ·rename_i q; cases h; rw [beq_iff_eq.mp q]; exact List.mem_cons_self
  ·exact List.mem_cons_of_mem _ (lookup_in h)
theorem frag_in (w:World) {a:Addr} {o:Obj} (h:(fragK w).lookup a=some o):a≠tabP∧(HEnd w).get? a=some o:=by
 obtain ⟨b,hb,e⟩:=List.mem_filterMap.mp (lookup_in h)
 cases q:(HEnd w).get? b with
 | none=>rw [q] at e; cases e
 | some o'=>
  rw [q] at e
  cases e
  exact ⟨fun z=>by subst z; revert hb; decide+kernel,q⟩
theorem cls_true (w:World) (scr:Nat→Option (List NV)):((mthL.map (·.1)).all fun c=>clsOk (fragK w) (txt scr) c)=true:=by kernel_rfl
theorem fok_true:(mthL.all fun x=>x.2.all fun y=>!fOk x.1 y.1)=true:=by kernel_rfl
structure FR where
 i:Nat
 s:Stmt
 q:String
 dv:Value
 pm:Value
 code:Addr
noncomputable def pm0:Value:=.str (Str.ofString "js.assembler") 823
noncomputable def pm1:Value:=.str (Str.ofString "js.codes") 194
noncomputable def pm2:Value:=.str (Str.ofString "js.comp_base") 1136
noncomputable def pm3:Value:=.str (Str.ofString "js.comp_code") 1002
noncomputable def pm4:Value:=.str (Str.ofString "js.comp_expr") 1404
noncomputable def pm5:Value:=.str (Str.ofString "js.comp_stmt") 1615
noncomputable def pm6:Value:=.str (Str.ofString "js.jumps") 1351
noncomputable def pm7:Value:=.str (Str.ofString "js.nodes") 1849
noncomputable def pm8:Value:=.str (Str.ofString "js.ways") 1239
noncomputable def pm9:Value:=.str (Str.ofString "law_pc0065_01") 1885
noncomputable def fRows:List FR:=[⟨142,Hd.me 88 0,"Unit.__init__",.none,pm1,141⟩,⟨156,Hd.st 89,"op_name",.none,pm1,155⟩,⟨163,Hd.st 90,"arg_kind",.none,pm1,162⟩,⟨170,Hd.st 91,"taken_count",.none,pm1,169⟩,⟨177,Hd.st 92,"put_count",.none,pm1,176⟩,⟨184,Hd.st 93,"is_last",.none,pm1,183⟩,⟨191,Hd.st 94,"same_constant",.none,pm1,190⟩,⟨205,Hd.me 96 0,"Code.__init__",.none,pm0,204⟩,⟨212,Hd.me 96 1,"Code.here",.none,pm0,211⟩,⟨220,Hd.me 96 2,"Code.emit",.ref 213,pm0,219⟩,⟨227,Hd.me 96 3,"Code.label",.none,pm0,226⟩,⟨234,Hd.me 96 4,"Code.place",.none,pm0,233⟩,⟨241,Hd.me 96 5,"Code.jump",.none,pm0,240⟩,⟨248,Hd.me 96 6,"Code.const",.none,pm0,247⟩,⟨276,Hd.me 96 10,"Code.handler",.none,pm0,275⟩,⟨283,Hd.me 96 11,"Code.place_of",.none,pm0,282⟩,⟨290,Hd.me 96 12,"Code.placed_code",.none,pm0,289⟩,⟨297,Hd.me 96 13,"Code.placed_handlers",.none,pm0,296⟩,⟨304,Hd.me 96 14,"Code.unit",.none,pm0,303⟩,⟨318,Hd.st 98,"depth_at_target",.none,pm3,317⟩,⟨332,Hd.me 99 0,"OpenCode.__init__",.none,pm3,331⟩,⟨339,Hd.me 99 1,"OpenCode.is_open",.none,pm3,338⟩,⟨346,Hd.me 99 2,"OpenCode.set_line",.none,pm3,345⟩,⟨353,Hd.me 99 3,"OpenCode.new_label",.none,pm3,352⟩,⟨360,Hd.me 99 4,"OpenCode.meet",.none,pm3,359⟩,⟨368,Hd.me 99 5,"OpenCode.add",.ref 361,pm3,367⟩,⟨375,Hd.me 99 6,"OpenCode.add_const",.none,pm3,374⟩,⟨382,Hd.me 99 7,"OpenCode.add_named",.none,pm3,381⟩,⟨389,Hd.me 99 8,"OpenCode.jump_to",.none,pm3,388⟩,⟨396,Hd.me 99 9,"OpenCode.stand",.none,pm3,395⟩,⟨403,Hd.me 99 10,"OpenCode.enter",.none,pm3,402⟩,⟨410,Hd.me 99 11,"OpenCode.mark",.none,pm3,409⟩,⟨433,Hd.me 103 0,"CompBase.__init__",.none,pm2,432⟩,⟨440,Hd.me 103 1,"CompBase.new_local",.none,pm2,439⟩,⟨447,Hd.me 103 2,"CompBase.get_name",.none,pm2,446⟩,⟨454,Hd.me 103 3,"CompBase.set_place",.none,pm2,453⟩,⟨461,Hd.me 103 4,"CompBase.set_name",.none,pm2,460⟩,⟨468,Hd.me 103 5,"CompBase.keep",.none,pm2,467⟩,⟨496,Hd.me 111 0,"Control.__init__",.none,pm8,495⟩,⟨503,Hd.me 111 1,"Control.is_loop",.none,pm8,502⟩,⟨517,Hd.st 112,"leave_down_to",.none,pm8,516⟩,⟨524,Hd.st 113,"broken",.none,pm8,523⟩,⟨531,Hd.st 114,"continued",.none,pm8,530⟩,⟨538,Hd.st 115,"break_out",.none,pm8,537⟩,⟨545,Hd.st 116,"go_again",.none,pm8,544⟩,⟨550,Hd.st 117,"is_guarded",.none,pm8,549⟩,⟨557,Hd.st 119,"lay_branch",.none,pm6,556⟩,⟨571,Hd.st 121,"lay_tests",.none,pm6,570⟩,⟨576,Hd.st 122,"lay_switch",.none,pm6,575⟩,⟨601,Hd.me 127 1,"CompExpr.value",.none,pm4,600⟩,⟨705,Hd.me 130 0,"CompStmt.statements",.none,pm5,704⟩,⟨712,Hd.me 130 1,"CompStmt.statement",.none,pm5,711⟩,⟨719,Hd.me 130 2,"CompStmt.drop_result",.none,pm5,718⟩,⟨726,Hd.me 130 3,"CompStmt.variables",.none,pm5,725⟩,⟨733,Hd.me 130 4,"CompStmt.condition",.none,pm5,732⟩,⟨740,Hd.me 130 5,"CompStmt.labelled",.none,pm5,739⟩,⟨747,Hd.me 130 6,"CompStmt.loop",.none,pm5,746⟩,⟨754,Hd.me 130 7,"CompStmt.body",.none,pm5,753⟩,⟨761,Hd.me 130 8,"CompStmt.while_loop",.none,pm5,760⟩,⟨768,Hd.me 130 9,"CompStmt.do_loop",.none,pm5,767⟩,⟨775,Hd.me 130 10,"CompStmt.for_loop",.none,pm5,774⟩,⟨782,Hd.me 130 11,"CompStmt.keys_loop",.none,pm5,781⟩,⟨789,Hd.me 130 12,"CompStmt.take_key",.none,pm5,788⟩,⟨796,Hd.me 130 13,"CompStmt.leave_function",.none,pm5,795⟩,⟨803,Hd.me 130 14,"CompStmt.guarded",.none,pm5,802⟩,⟨810,Hd.me 130 15,"CompStmt.kept_result",.none,pm5,809⟩,⟨817,Hd.me 130 16,"CompStmt.close_guarded",.none,pm5,816⟩,⟨824,Hd.me 130 17,"CompStmt.caught",.none,pm5,823⟩,⟨831,Hd.me 130 18,"CompStmt.last",.none,pm5,830⟩,⟨850,Hd.me 132 0,"Node.__init__",.none,pm7,849⟩,⟨864,Hd.st 134,"_law_take",.none,pm9,863⟩,⟨871,Hd.st 135,"_law_name",.none,pm9,870⟩,⟨876,Hd.st 136,"_law_lines",.none,pm9,875⟩,⟨883,Hd.st 137,"_law_line",.none,pm9,882⟩,⟨890,Hd.st 138,"_law_loop",.none,pm9,889⟩,⟨897,Hd.st 139,"_law_try",.none,pm9,896⟩,⟨904,Hd.st 140,"_law_view",.none,pm9,903⟩,⟨911,Hd.st 141,"_law_get",.none,pm9,910⟩,⟨918,Hd.st 142,"_law_value",.none,pm9,917⟩,⟨925,Hd.st 143,"_law_all",.none,pm9,924⟩,⟨932,Hd.st 144,"_law_is_end",.none,pm9,931⟩,⟨939,Hd.st 145,"_law_behind",.none,pm9,938⟩,⟨946,Hd.st 146,"_law_rounds",.none,pm9,945⟩,⟨953,Hd.st 147,"_law_keys",.none,pm9,952⟩,⟨958,Hd.st 148,"_law_switched",.none,pm9,957⟩,⟨965,Hd.st 149,"_law_guarded",.none,pm9,964⟩,⟨972,Hd.st 150,"_law_do",.none,pm9,971⟩,⟨979,Hd.st 151,"_law_caught",.none,pm9,978⟩,⟨986,Hd.st 152,"_law_jump",.none,pm9,985⟩,⟨991,Hd.st 153,"_law_plain",.none,pm9,990⟩,⟨998,Hd.st 154,"_law_run",.none,pm9,997⟩,⟨1003,Hd.st 155,"law",.none,pm9,1002⟩]
noncomputable def fdB (i:Nat):FD:=(lkp i fdL).getD ⟨0,[],0,.sk⟩
noncomputable def FR.ns (r:FR):List Str:=(sArgs r.s).args.map (·.arg)
noncomputable def FR.l (r:FR):Bool:=Str.ofString r.q==("_law_view" : Str)
noncomputable def FR.tc (r:FR):TC:=scTC (sScope r.s) r.l
noncomputable def isNN:List NV→Bool
 | [.none]=>true
 | _=>false
noncomputable def isN1:List Value→Bool
 | [.none]=>true
 | _=>false
theorem isNN_eq {l:List NV} (h:isNN l=true):l=[.none]:=by
 rcases l with _ | ⟨v,_ | _⟩
 ·exact absurd h Bool.false_ne_true
 ·induction v using NV.casesOn <;> first | exact absurd h Bool.false_ne_true | rfl
 ·induction v using NV.casesOn <;> exact absurd h Bool.false_ne_true
theorem isN1_eq {l:List Value} (h:isN1 l=true):l=[.none]:=by
 rcases l with _ | ⟨v,_ | _⟩
 ·exact absurd h Bool.false_ne_true
 ·induction v using Value.casesOn <;> first | exact absurd h Bool.false_ne_true | rfl
 ·induction v using Value.casesOn <;> exact absurd h Bool.false_ne_true
noncomputable def dflOk (w:World) (r:FR):Bool:=(isNon r.dv&&(fdB r.i).dfl.isEmpty) || (isNN (fdB r.i).dfl&&someB (fun t=>someB isN1 (seqAt w t "tuple")) (refOf r.dv)&&decide (1≤r.ns.length))
noncomputable def fldsOf:Data→Option (Array Value)
 | .fields vs=>some vs
 | _=>none
theorem fldsOf_eq {d:Data} {us:Array Value} (h:fldsOf d=some us):d=.fields us:=by
 induction d using Data.casesOn <;> first | exact (Option.some_ne_none _ h.symm).elim | exact Option.some.inj h▸rfl
noncomputable def codeOk (w:World) (r:FR):Bool:=r.code != tabP&&someB (fun o=>someB (fun vs=>someB (isStr (Str.ofString r.q)) vs[1]?) (fldsOf o.data)) ((HEnd w).get? r.code)
noncomputable def argsB (a:Arguments):Bool:=a.posonlyargs.isEmpty&&a.kwonlyargs.isEmpty&&a.vararg.isNone&&a.kwarg.isNone&&decide (a.args.map (·.arg)).Nodup
noncomputable def scB (sc:Scope) (l:Bool) (ns:List Str) (d:FD):Bool:=(sc.kind==.function)&&!sc.isCoroutine&&!sc.isGenerator&&decide ((sc.names.map (·.1)).Nodup)&&((scTC sc l).ns.take d.na==ns.map some)&&Nat.beq ns.length d.na&&Nat.beq d.n (scTC sc l).ns.length
theorem scB_of {sc:Scope} {l:Bool} {ns:List Str} {d:FD} (h:scB sc l ns d=true):ScOk sc l ns d:=by
 unfold scB at h
 simp only [Bool.and_eq_true,beq_iff_eq,Bool.not_eq_true',decide_eq_true_eq,Nat.beq_eq] at h
 obtain ⟨⟨⟨⟨⟨⟨a,b⟩,c⟩,d⟩,e⟩,f⟩,g⟩:=h
 exact ⟨a,b,c,d,e,f,g⟩
theorem argsB_of {fd:FuncData} {a:Arguments} (e:fd.params=a) (h:argsB a=true):PlainArgs fd (a.args.map (·.arg)):=by
 unfold argsB at h
 simp only [Bool.and_eq_true,List.isEmpty_iff,Option.isNone_iff_eq_none,decide_eq_true_eq] at h
 obtain ⟨⟨⟨⟨a1,a2⟩,a3⟩,a4⟩,a5⟩:=h
 subst e
 exact ⟨a1,rfl,a2,a3,a4,a5⟩
noncomputable def rowOk (w:World) (r:FR):Bool:=dflOk w r&&codeOk w r&&argsB (sArgs r.s)&&scB (sScope r.s) r.l r.ns (fdB r.i)&&(r.i != tabP)&&(!r.l || r.code==903)&&okS (fdB r.i).body r.tc (sBody r.s)
theorem rows_ok (w:World):(fRows.all (rowOk w))=true:=by kernel_rfl
theorem rows_at (w:World):(fRows.map fun r=>(HEnd w).get? r.i)=fRows.map fun r=>some (Hd.fn r.s r.q r.dv r.pm (.ref r.code)):=by kernel_rfl
theorem rows_tr:(fRows.map fun r=>rbL (fdB r.i).body r.tc (sBody r.s))=fRows.map fun r=>sBody r.s:=by kernel_rfl
theorem rows_all:(fdL.all fun x=>Nat.ble 2000 x.1 || fRows.any fun r=>Nat.beq r.i x.1)=true:=by kernel_rfl
theorem map_at {α β:Type} {f g:α→β}:∀ {l:List α},l.map f=l.map g→∀ a∈l,f a=g a
 | x :: l,h,a,ha=>by
  simp only [List.map_cons,List.cons.injEq] at h
  rcases List.mem_cons.mp ha with rfl | ha
  ·exact h.1
  ·exact map_at h.2 a ha
theorem fns_gr {w:World} {h₀:Heap} {ns:List Int} (B:Base w h₀ ns) {i:Nat} {d:FD} (lt:i < 2000) (h:lkp i fdL=some d):∃ fd body ns ds,FnIs w h₀ i d fd body ns ds:=by
 have ha:(Nat.ble 2000 i || fRows.any fun r=>Nat.beq r.i i)=true:=List.all_eq_true.mp rows_all _ (lkp_in h)
 have ha:(fRows.any fun r=>Nat.beq r.i i)=true:=by
  cases q:Nat.ble 2000 i with
  | true=>have:=Nat.le_of_ble_eq_true q; lia
  | false=>rw [q] at ha; exact ha
 obtain ⟨r,hr,e⟩:=List.any_eq_true.mp ha
 cases Nat.eq_of_beq_eq_true e
 have hd:fdB r.i=d:=by unfold fdB; rw [h]; rfl
 have ok:=List.all_eq_true.mp (rows_ok w) r hr
 unfold rowOk at ok
 obtain ⟨ok,o7⟩:=an ok
 obtain ⟨ok,o6⟩:=an ok
 obtain ⟨ok,o5⟩:=an ok
 obtain ⟨ok,o4⟩:=an ok
 obtain ⟨ok,o3⟩:=an ok
 obtain ⟨o1,o2⟩:=an ok
 have tr:=map_at rows_tr r hr
 simp only [hd] at o4 o7 tr
 unfold codeOk at o2
 obtain ⟨c1,o2⟩:=an o2
 have hcode:h₀.CodeRec (.ref r.code) (Str.ofString r.q):=by
  obtain ⟨o,hg,o2⟩:=someB_of o2
  obtain ⟨vs,e,o2⟩:=someB_of o2
  obtain ⟨v,e2,o2⟩:=someB_of o2
  obtain ⟨t,e3⟩:=isStr_eq o2
  exact ⟨_,_,vs,t,rfl,B.keep _ _ (by simpa using c1) hg,fldsOf_eq e,e3▸e2⟩
 have mk:∀ ds:List Value,Dflt h₀ (fdOf r.s r.q r.dv r.pm (.ref r.code)) ds→(∀ κ,VRs w κ d.dfl ds)→ds.length≤r.ns.length→∃ fd body ns ds,FnIs w h₀ r.i d fd body ns ds:=fun ds d1 d2 d3=>
  ⟨fdOf r.s r.q r.dv r.pm (.ref r.code),sBody r.s,r.ns,ds,B.keep _ _ (by simpa using o5) (map_at (rows_at w) r hr),rfl,argsB_of rfl o3,d1,d2,d3,hcode,rfl,rfl,rfl,scB_of o4,tr,o7,fun q=>by
   have q:r.l=true:=q
   rw [q] at o6
   show Value.ref r.code=_
   rw [beq_iff_eq.mp o6]⟩
 unfold dflOk at o1
 rw [hd] at o1
 refine ((Bool.or_eq_true _ _).mp o1).elim (fun h=>?_) fun h=>?_
 ·exact mk [] (isNon_eq (al h)) (fun κ=>by rw [List.isEmpty_iff.mp (ar h)]; exact .nil) (Nat.zero_le _)
 ·obtain ⟨t,h1,h2⟩:=someB_of (ar (al h))
  obtain ⟨us,e,h2⟩:=someB_of h2
  obtain ⟨ne,m,g⟩:=seqAt_of e
  rw [isN1_eq h2] at g
  exact mk [.none] ⟨t,m,refOf_eq h1,B.keep _ _ ne g⟩ (fun κ=>by rw [isNN_eq (al (al h))]; exact .cons .none .nil) (of_decide_eq_true (ar h))
noncomputable def lamB (k:Nat) (d:FD) (m:E):Bool:=argsB (lamP k).1&&scB (lamP k).2.2 false ((lamP k).1.args.map (·.arg)) d&&d.dfl.isEmpty&&!isArg m&&ok m (scTC (lamP k).2.2 false) (lamP k).2.1&&(lamP k).1.defaults.isEmpty&&(lamP k).1.kw_defaults.isEmpty&&(lamP k).2.2.names.all fun x=>x.2 != .free
noncomputable def reB:S→E
 | .re m=>m
 | _=>.e0
theorem lam_true:(lamB 0 (fdB 2000) (reB b2000)&&lamB 1 (fdB 2001) (reB b2001))=true:=by kernel_rfl
theorem lam_tr:rb (reB b2000) (scTC (lamP 0).2.2 false) (lamP 0).2.1=(lamP 0).2.1∧rb (reB b2001) (scTC (lamP 1).2.2 false) (lamP 1).2.1=(lamP 1).2.1:=⟨by kernel_rfl,by kernel_rfl⟩
theorem lam_b:(fdL.all fun x=>Nat.ble x.1 1999 || Nat.beq x.1 2000 || Nat.beq x.1 2001)=true:=by kernel_rfl
theorem lam_is {k:Nat} {d:FD} {m:E} (h:lamB k d m=true) (e:d.body=.re m) (t:rb m (scTC (lamP k).2.2 false) (lamP k).2.1=(lamP k).2.1) :
  LamIs k d ((lamP k).1.args.map (·.arg))∧defaultsOf (lamP k).1=(fun _=>([],[]))∧(∀ x∈(lamP k).2.2.names,x.2≠.free):=by
 obtain ⟨h,h8⟩:=an h
 obtain ⟨h,h7⟩:=an h
 obtain ⟨h,h6⟩:=an h
 obtain ⟨h,h5⟩:=an h
 obtain ⟨h,h4⟩:=an h
 obtain ⟨h,h3⟩:=an h
 obtain ⟨h1,h2⟩:=an h
 refine ⟨⟨fun fd q=>argsB_of q h1,List.isEmpty_iff.mp h3,scB_of h2,m,e,nt h4,t,h5⟩,?_,fun x hx=>by simpa using List.all_eq_true.mp h8 x hx⟩
 generalize (lamP k).1=A at h6 h7 ⊢
 obtain ⟨po,ar,va,ko,kd,kw,df⟩:=A
 cases df with
 | cons _ _=>cases h6
 | nil=>
  cases kd with
  | cons _ _=>cases h7
  | nil=>rfl
theorem lam_both:∀ k < 2,LamIs k (fdB (2000+k)) ((lamP k).1.args.map (·.arg))∧defaultsOf (lamP k).1=(fun _=>([],[]))∧(∀ x∈(lamP k).2.2.names,x.2≠.free)
 | 0,_=>lam_is (an lam_true).1 rfl lam_tr.1
 | 1,_=>lam_is (an lam_true).2 rfl lam_tr.2
theorem tab_end (w:World):(HEnd w).get? tabP=some (tabObj #[]):=by kernel_rfl
noncomputable def codeVs:List Value:=[.str (Str.ofString "_law_view") 1964,.str (Str.ofString "_law_view") 1965,.str (Str.ofString "/claim/cut.py") 1966,.int 944 0,.int 1 0,.int 0 0,.int 0 0,.int 3 0,.ref 898,.bool true,.int 181 0,.ref 899,.none,.ref 900,.ref 901,.ref 902,.int 1969 0,.int 944 0,.str (Str.ofString "/claim/cut.py") 1970]
theorem code_at (w:World):(HEnd w).get? 903=some (Hd.fi (.type "code") codeVs):=by kernel_rfl
theorem code_hd (w:World):CodeHd (HEnd w) 903 tabP:=
 ⟨_,codeVs.toArray,Str.ofString "/claim/cut.py",1970,3,0,true,181,0,code_at w,rfl,rfl,rfl,rfl,rfl,rfl,rfl,rfl,by decide⟩
theorem ints_vrs {vs:List Value} {ns:List Int} (h:IntsAre vs ns) (w:World) (κ:Ka):VRs w κ (ns.map .int) vs:=by
 induction h with
 | nil=>exact .nil
 | cons n t _ ih=>exact .cons (.int n t) ih
theorem seq_gr {w:World} {h₀:Heap} {ns:List Int} (B:Base w h₀ ns) {g:Nat} {b:Bool} {l:List NV} (h:(txt (scrOf ns)).glv g=some (.seq b l)):∃ vs m,h₀.get? g=some (cond b (liO vs m) (tuO vs m))∧l.length≤cap∧∀ κ:Ka,(∀ b o,h₀.get? b=some o→κ b=.fz o)→VRs w κ l vs:=by
 obtain ⟨us,e,ok⟩:=someB_of (show seqOk w g b l=true from List.all_eq_true.mp (seq_true w) _ (lkp_in (show lkp g glL=some (.seq b l) from h)))
 obtain ⟨ne,m,hg⟩:=seqAt_of e
 refine ⟨us,m,(B.keep _ _ ne hg).trans ?_,Nat.le_trans (of_decide_eq_true (ar ok)) (by decide),fun κ k=>items_vr B k (al ok)⟩
 rcases b with _ | _ <;> rfl
theorem scr_gr {w:World} {h₀:Heap} {ns:List Int} (B:Base w h₀ ns) {g:Nat} {l:List NV} (h:(txt (scrOf ns)).scr g=some l):l.length≤cap∧∃ vs:List Value,h₀.IsList g vs.toArray∧∀ κ,VRs w κ l vs:=by
 have h:(match Nat.beq g 1004 with | true=>some (ns.map NV.int) | false=>none)=some l:=h
 rcases q:Nat.beq g 1004 with _ | _ <;> rw [q] at h
 ·exact nomatch h
 ·rw [Nat.eq_of_beq_eq_true q,← Option.some.inj h,List.length_map]
  exact B.scr.elim fun vs i=>⟨i.2.2,vs,i.1,fun κ=>ints_vrs i.2.1 w κ⟩
noncomputable def cx {w:World} {h₀:Heap} {ns:List Int} (B:Base w h₀ ns):Cx where
 T:=txt (scrOf ns)
 w:=w
 h₀:=h₀
 mg:=(HEnd w).nsMap mainGlobals
 hg:=B.ns (.of_isNs (isNs_g w)) (by decide)
 hgv x u h:=(someB_of (List.all_eq_true.mp (gOk_true w) u (List.mem_of_getElem? h))).imp fun v e=>⟨e.1,fun κ=>flat_vr e.2 w κ⟩
 hgn x hx:=Option.isNone_iff_eq_none.mp (List.all_eq_true.mp (plain_true w) _ hx)
 mb:=(HEnd w).nsMap builtinsNs
 hb:=B.ns (.of_isNs (isNs_b w)) (by decide)
 hbv x hx:=Heap.of_bltView (isNs_b w) (looks3 w) x hx
 nolim:=⟨_,B.ns (.of_isNs (an (lim_true w)).1) (by decide),Option.isNone_iff_eq_none.mp (an (lim_true w)).2⟩
 seq g b l h:=seq_gr B h
 scr g l h:=scr_gr B h
 dict g ks l h:=dict_gr B h
 K:=fragK w
 kin:=fun a o h=>let ⟨ne,e⟩:=frag_in w h; B.keep _ _ ne e
 kok cc h:=(Option.isSome_iff_exists.mp h).elim fun l hl=>List.all_eq_true.mp (cls_true w _) _ (List.mem_map.mpr ⟨_,lkp_in hl,rfl⟩)
 mok cc f i h:=(Option.bind_eq_some_iff.mp (show (lkp cc mthL).bind (lkp f)=some i from h)).elim fun l h=>congrArg Option.isSome h.1
 fok cc f h:=Option.eq_none_iff_forall_ne_some.mpr fun i q=>(Option.bind_eq_some_iff.mp q).elim fun l h2=>absurd (h.symm.trans (nt (List.all_eq_true.mp (List.all_eq_true.mp fok_true _ (lkp_in h2.1)) _ (lkp_in h2.2)))) Bool.noConfusion
 fns i d lt h:=fns_gr B lt h
 lam j d h:=by
  have h:lkp (2000+j) fdL=some d:=h
  have hj:j < 2:=by
   have:=List.all_eq_true.mp lam_b _ (lkp_in h)
   simp only [Bool.or_eq_true,Nat.ble_eq,Nat.beq_eq] at this
   lia
  have e:fdB (2000+j)=d:=by unfold fdB; rw [h]; rfl
  exact ⟨_,e▸(lam_both j hj).1⟩
 lmd k hk:=(lam_both k hk).2
 code:=by
  obtain ⟨o,vs,file,tf,flags,tg,inF,text,tt,e,r⟩:=code_hd w
  exact ⟨o,vs,file,tf,flags,tg,inF,text,tt,B.keep _ _ (by decide) e,r⟩
 bmain h k:=by
  have l2:=looks2 w
  simp only [Bool.and_eq_true] at l2
  obtain ⟨bm,ob,b1,b2,b3,b4,b5,b6⟩:=Heap.bmainOk_spec l2.2
  have ne:bm≠tabP:=fun q=>by
   rw [q,tab_end] at b3; cases b3; cases b4
  have ng:bm≠mainGlobals:=fun q=>by
   obtain ⟨o,es,ep,e,hd,_⟩:=Heap.Ns.of_isNs (isNs_g w)
   rw [← q,b3] at e; cases e
   rw [b6] at hd; cases hd
  exact ⟨bm,ob,b1,b2,ng,ne,k _ _ (B.keep _ _ ne b3),b4,b5,b6⟩
 ng:=by decide
noncomputable def hide (h:Heap):Heap:=hput h tabP { cls:=.none,data:=.freed }
theorem hide_at {h:Heap}:(hide h).get? tabP=none:=by
 unfold hide hput Heap.get?
 simp only [Array.getElem?_setIfInBounds,if_true]
 by_cases q:tabP < h.objs.size
 ·rw [if_pos q]
 ·rw [if_neg q]
theorem glue (w:World) (s₁:Shared) (vs:List Value) (ns:List Int) (keep:∀ b o,(HEnd w).get? b=some o→s₁.heap.get? b=some o) (hg:s₁.gens=#[]) (hl:s₁.heap.IsList 1004 vs.toArray) (hI:IntsAre vs ns) (hn:vs.length≤63) :
  wpAny (model p w) callerA (PySem.call (.ref 1003) [.ref 1004]) (fun v s'=>v=.bool true∧OldK s₁.heap s'.heap∧s'.os=s₁.os∧s'.gens=#[]) (fun _ _=>False) s₁:=by
 have tab:s₁.heap.get? tabP=some (tabObj #[]):=keep _ _ (tab_end w)
 have B:Base w (hide s₁.heap) ns:=⟨fun b o ne e=>(hput_ne ne).trans (keep b o e),hide_at,vs,let ⟨o,ho,r⟩:=hl; ⟨o,(hput_ne (by decide)).trans ho,r⟩,hI,by rw [← hI.length]; exact Nat.le_trans hn (by decide)⟩
 let κ:Ka:=fun b=>if b=tabP then .tab else match s₁.heap.get? b with
  | some o=>.fz o
  | none=>.no
 let z:Z:=⟨s₁.heap,s₁.toks,⟨[],fun _=>none⟩,κ⟩
 have kt:κ tabP=.tab:=if_pos rfl
 have kn:∀ b,b≠tabP→κ b=(match s₁.heap.get? b with | some o=>.fz o | none=>.no):=fun b h=>if_neg h
 have inv:∀ b ρ,κ b=ρ→ρ=.tab∧b=tabP∨(∃ o,s₁.heap.get? b=some o∧ρ=.fz o)∨ρ=.no:=fun b ρ e=>by
  by_cases q:b=tabP
  ·rw [q,kt] at e; exact .inl ⟨e.symm,q⟩
  ·rw [kn b q] at e
   cases h:s₁.heap.get? b with
   | none=>rw [h] at e; exact .inr (.inr e.symm)
   | some o=>rw [h] at e; exact .inr (.inl ⟨o,rfl,e.symm⟩)
 have no:∀ {C:Prop} {b ρ},κ b=ρ→ρ≠.tab→(∀ o,ρ≠.fz o)→ρ≠.no→C:=fun {C b ρ} e h1 h2 h3=>(inv b ρ e).elim (fun h=>absurd h.1 h1) fun h=>h.elim (fun h=>h.elim fun o h=>absurd h.2 (h2 o)) fun h=>absurd h h3
 have R:Rel w (hide s₁.heap) z:=by
  refine ⟨fun b o e=>?_,fun b o e=>?_,fun s ob e=>?_,fun a b e h1 h2=>?_,fun b a e=>?_,fun b s e=>?_,fun b s e=>?_,fun b e=>?_,kt,#[],tab,trivial,fun pos cv e=>by cases e⟩
  ·have q:b≠tabP:=fun q=>by rw [q,hide_at] at e; cases e
   have e:s₁.heap.get? b=some o:=(hput_ne q).symm.trans e
   show κ b=_
   rw [kn b q,e]
  ·rcases inv b _ e with ⟨h,_⟩ | ⟨o',h,h2⟩ | h
   ·cases h
   ·cases h2; exact h
   ·cases h
  ·cases s with
   | r n=>cases e
   | d a=>cases e
  ·rcases inv a _ rfl with ⟨h,q⟩ | ⟨o',h,h3⟩ | h
   ·rcases inv b _ rfl with ⟨h',q'⟩ | ⟨o',_,h3⟩ | h'
    ·rw [q,q']
    ·have e:κ a=κ b:=e; rw [h,h3] at e; cases e
    ·have e:κ a=κ b:=e; rw [h,h'] at e; cases e
   ·exact absurd h3 (h1 o')
   ·exact absurd h h2
  ·exact no e (fun h=>nomatch h) (fun _ h=>nomatch h) fun h=>nomatch h
  ·exact no e (fun h=>nomatch h) (fun _ h=>nomatch h) fun h=>nomatch h
  ·exact no e (fun h=>nomatch h) (fun _ h=>nomatch h) fun h=>nomatch h
  ·rcases inv b _ rfl with ⟨_,q⟩ | ⟨o,h,_⟩ | h
   ·rw [q]; show (s₁.heap.get? tabP).isSome=true; rw [tab]; rfl
   ·show (s₁.heap.get? b).isSome=true; rw [h]; rfl
   ·exact absurd h e
 have rf:RoomF callerA 61:=⟨rfl,by decide,by decide⟩
 have:=funOK (cx B) 61 (A:=callerA) (i:=1003) (a:=1003) (vs:=[.gl 1004]) (us:=[.ref 1004]) (RR:=fun r s'=>r=.ok (.ret (.bool true))∧OldK s₁.heap s'.heap∧s'.os=s₁.os∧s'.gens=#[]) (z:=z) (s₀:=s₁) rf R (.inl ⟨rfl,by decide⟩) (.cons (.gl 1004) .nil) main3 fun v u z' hv t r=>?_
 ·exact wpAny_call (codeAny_mono this fun res s' x=>by obtain ⟨rfl,x⟩:=x; exact ⟨rfl,x⟩)
 ·subst hv
  cases r.bool_inv
  refine ⟨rfl,⟨fun b o e=>?_,fun b o e=>?_⟩,rfl,hg⟩
  ·by_cases q:b=tabP
   ·subst q
    rw [tab] at e; cases e
    obtain ⟨ps,e',_⟩:=t.R.tab.2
    obtain ⟨o,vs',file,tf,flags,tg,inF,text,tt,c1,c2,c3,c4,_⟩:=code_hd w
    exact .inr (.inl ⟨⟨903,o,vs',keep _ _ c1,c2,c3,c4⟩,rfl,#[],ps,rfl,by rw [show (z'.s s₁).heap.get? tabP=_ from e']; simp⟩)
   ·exact .inl (t.R.fz b o (t.g.le.fz b o (by show κ b=_; rw [kn b q,e])))
  ·by_cases q:b=tabP
   ·obtain ⟨ps,e',_⟩:=t.R.tab.2
    exact ⟨_,q▸e'⟩
   ·exact ⟨o,t.R.fz b o (t.g.le.fz b o (by show κ b=_; rw [kn b q,e]))⟩
theorem all_holds (said:rw0.wellSaid=true):rw0.Holds:=head_holds said fun w s₁ vs ns keep hg hl _ hI hn=>glue w s₁ vs ns keep hg hl hI hn
end
end
section
theorem and_i {a b:Bool} (h:a=true) (k:b=true):(a&&b)=true:=by rw [h,k]; rfl
theorem said1 (h:Fast.tw12908688711261696721 rw0.prog=true):rw0.wellSaid=true:=by
 refine (congrFun PySem.W.Fast.te9446332074065402090 _).trans ?_
 iterate 18 refine and_i ?_ (by decide+kernel)
 refine and_i (and_i ?_ (by decide+kernel)) (by decide+kernel)
 show Fast.tw2436336058641802641 _=true
 iterate 13 refine and_i ?_ (by decide+kernel)
 exact h
theorem said2:Fast.tw12908688711261696721 rw0.prog=true:=by
 refine and_i ?_ (by decide+kernel)
 refine and_i ?_ (by decide+kernel)
 refine and_i ?_ (by decide+kernel)
 refine and_i ?_ (by decide+kernel)
 refine and_i ?_ (by decide+kernel)
 decide+kernel
theorem said:rw0.wellSaid=true:=said1 said2
end
end Snd
theorem PySem.Challenge.cw_pc0065_01_holds : PySem.Challenge.rw_pc0065_01.Holds :=
 Snd.all_holds Snd.said
