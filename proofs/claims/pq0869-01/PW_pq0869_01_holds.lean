import PyProof.Rows.All
import Wide.All
import OpenK.AllK
import Wide.FinOn
import KE.KItem
import KE.KIsNot
import KE.KIntText
import PyProof.Rows.StrWeight2
import KE.KDictOf
import PyProof.ListRange
import PyProof.WalkInts
import Lean
import PySem.Challenge.RW_pq0869_01
set_option Elab.async false
set_option maxRecDepth 100000
set_option maxHeartbeats 8000000
set_option linter.all false
set_option autoImplicit false
set_option genInjectivity false
set_option genSizeOf false
local macro_rules | `(tactic| rfl') => `(tactic| kernel_rfl)
namespace Mine
section
open PySem PySem.W PySem.W.X PyProof.Rows PySem.Calls
noncomputable abbrev br:Program:=PySem.Challenge.pw_pq0869_01
noncomputable def Q (k:Nat):Stmt:=br.main.body.getD k (.Pass ⟨0,0,0,0⟩)
noncomputable def Nf:Stmt->List Stmt
 | .ClassDef _ _ _ b _ _ _ _ _ _ _=>b
 | _=>[]
noncomputable def R (k j:Nat):Stmt:=(Nf (Q k)).getD j (.Pass ⟨0,0,0,0⟩)
noncomputable def fArgs:Stmt->Arguments
 | .FunctionDef _ a _ _ _ _ _ _ _ _=>a
 | _=>default
noncomputable def fBody:Stmt->List Stmt
 | .FunctionDef _ _ b _ _ _ _ _ _ _=>b
 | _=>[]
noncomputable def fScope:Stmt->Scope
 | .FunctionDef _ _ _ _ _ _ s _ _ _=>s
 | _=>default
noncomputable abbrev no:Value:=.none
noncomputable abbrev dR:Value:=.bool true
noncomputable abbrev kq:Value:=.bool false
noncomputable abbrev a9 (k:Int):Value:=.int k 0
noncomputable abbrev i (k:Int) (t:Nat):Value:=.int k t
noncomputable abbrev s (x:String) (t:Nat):Value:=.str (Str.ofString x) t
noncomputable abbrev bR (n:String):Value:=.type n
noncomputable abbrev dy (n:String):Value:=.builtin n
noncomputable abbrev r (a:Nat):Value:=.ref a
noncomputable abbrev e (P:Params) (x:String) (t:Nat) (v:Value):DictEntry:=⟨PyData.keyHash P (Str.ofString x),.str (Str.ofString x) t,v⟩
noncomputable abbrev fn (g:Nat) (st:Stmt) (x q:String) (lN dA doc c3:Value) (an:Option Nat) (eD Oq:Value):FuncData:=
 {name:=Str.ofString x,qualname:=Str.ofString q,params:=fArgs st,body:=.stmts (fBody st),scope:=fScope st,globals:=g,closure:=[],defaults:=lN,kwdefaults:=dA,doc:=doc,pyModule:=c3,annotations:=an,code:=eD,closureTuple:=Oq,builtins:=0}
noncomputable abbrev cZ (l:List Value):Obj:=⟨.type "tuple",none,.seq l.toArray 0,#[]⟩
noncomputable abbrev dL (l:List Value):Obj:=⟨.none,none,.fields l.toArray,#[]⟩
noncomputable abbrev k8 (l:List Value):Obj:=⟨.type "code",none,.fields l.toArray,#[]⟩
noncomputable abbrev dN (c:Value) (l:List Value):Obj:=⟨c,none,.fields l.toArray,#[]⟩
noncomputable abbrev d' (f:FuncData):Obj:=⟨.none,none,.func f,#[]⟩
noncomputable abbrev qc (f:FuncData):Obj:=⟨.type "function",none,.func f,#[]⟩
noncomputable abbrev fm (l:List DictEntry) (n:Nat):Obj:=⟨.type "dict",none,.dict l.toArray n,#[]⟩
noncomputable def l7 (l:List Obj):List (Nat×Obj)->List Obj
 | []=>l
 | (k,o)::c=>l7 (l.set k o) c
noncomputable def AG {aS:Type}:List aS->List aS
 | []=>[]
 | [x]=>[x]
 | x::_::l=>x::AG l
noncomputable def Cr:Nat->List Obj->BT
 | 0,_=>.nil
 | _+1,[]=>.nil
 | n+1,x::l=>.node x (Cr n (AG l)) (Cr n (AG l.tail))
noncomputable abbrev H5 (l:List Obj):BT:=Cr 14 l
noncomputable def gr (P:Params):Obj:=⟨no,none,(.dict (List.toArray [e P "type.__subclasses__.Exception.0" 221 (a9 38),e P "type.__subclasses__.Exception.n" 222 (a9 2),e P "type.__subclasses__.Exception.1" 290 (a9 83)]) 3),List.toArray []⟩
noncomputable def nZ (P:Params):List DictEntry:=[e P "__doc__" 166 no,e P "__package__" 167 no,e P "__loader__" 168 (dy "__main__.__loader__#opaque"),e P "__spec__" 169 no,e P "__annotations__" 170 (r 6),e P "__builtins__" 171 (r 4),e P "__file__" 173 (s "/claim/cut.py" 172),e P "__cached__" 174 no,e P "_wall" 193 (r 21),e P "PhpFault" 224 (r 38),e P "LeftOut" 240 (r 51),e P "Misused" 256 (r 63),e P "Thrown" 293 (r 83),e P "error" 300 (r 93),e P "least" 306 (r 100),e P "greatest" 312 (r 107),e P "is_digit" 322 (r 114),e P "digits_behind" 330 (r 121),e P "digits_value" 341 (r 128),e P "signed" 350 (r 135),e P "exponent_behind" 359 (r 142),e P "blanks_behind" 367 (r 149),e P "numeric" 380 (r 156),e P "number_of" 388 (r 163),e P "Ref" 421 (r 181),e P "Absent" 450 (r 203),e P "Obj" 486 (r 224),e P "deref" 493 (r 235),e P "hold" 500 (r 242),e P "Arr" 611 (r 316),e P "is_living" 619 (r 327),e P "hash_of" 628 (r 334),e P "link" 637 (r 341),e P "chains" 645 (r 348),e P "next_place" 653 (r 355),e P "many_ahead" 659 (r 360),e P "rehash" 665 (r 365),e P "to_hash" 672 (r 372),e P "takes_packed" 680 (r 379),e P "add_packed" 689 (r 386),e P "add_hashed" 699 (r 393),e P "add" 708 (r 400),e P "marked" 715 (r 407),e P "slots_of" 721 (r 412),e P "copied" 728 (r 419),e P "copy" 734 (r 424),e P "own" 741 (r 431),e P "list_of" 750 (r 438),e P "from_pairs" 760 (r 445),e P "kind" 769 (r 452),e P "given" 776 (r 459),e P "taken" 783 (r 466),e P "compare_texts" 791 (r 473),e P "lower" 800 (r 480),e P "is_subclass" 810 (r 487),e P "instance_of" 818 (r 494),e P "to_bool" 828 (r 501),e P "int_text" 835 (r 508),e P "object_as_one" 843 (r 515),e P "to_int" 852 (r 522),e P "to_text" 861 (r 529),e P "check_plain" 868 (r 536),e P "sign_of" 878 (r 543),e P "smart" 886 (r 550),e P "int_against" 894 (r 557),e P "check_depth" 901 (r 564),e P "has_text" 909 (r 571),e P "compare_objects" 923 (r 578),e P "object_against" 933 (r 585),e P "compare_arrays" 946 (r 592),e P "compare_scalars" 955 (r 599),e P "compare" 968 (r 607),e P "noughts_behind" 976 (r 614),e P "compare_runs" 984 (r 621),e P "raised_case" 993 (r 628),e P "octet_at" 1001 (r 635),e P "which_ended" 1011 (r 642),e P "natural" 1025 (r 649),e P "sort_compare" 1037 (r 656),e P "user_order" 1053 (r 663),e P "rows_order" 1069 (r 670),e P "order_of" 1083 (r 677),e P "merged" 1097 (r 684),e P "merged_runs" 1109 (r 691),e P "merge_sort" 1115 (r 696),e P "plain_flags" 1123 (r 703),e P "living_places" 1129 (r 708),e P "put_back" 1148 (r 716),e P "sort_in_place" 1154 (r 721),e P "sort_by_flags" 1166 (r 728),e P "sort_action" 1174 (r 735),e P "rsort_action" 1182 (r 742),e P "asort_action" 1190 (r 749),e P "arsort_action" 1198 (r 756),e P "ksort_action" 1206 (r 763),e P "krsort_action" 1214 (r 770),e P "natsort_action" 1222 (r 777),e P "natcasesort_action" 1230 (r 784),e P "usort_action" 1238 (r 791),e P "uasort_action" 1246 (r 798),e P "uksort_action" 1254 (r 805),e P "Frame" 1293 (r 823),e P "Host" 1433 (r 922),e P "_law_names" 1445 (r 927),e P "_law_flags" 1454 (r 928),e P "_law_rules" 1463 (r 929),e P "_law_keys" 1477 (r 930),e P "_law_values" 1493 (r 931),e P "_law_word" 1495 (s "Returning bool from comparison function is deprecated, " 1494),e P "_law_more" 1497 (s "return an integer less than, equal to, or greater than zero instead" 1496),e P "_law_digit" 1506 (r 938),e P "_law_text" 1513 (r 945),e P "_law_number" 1521 (r 952),e P "_law_parts" 1531 (r 959),e P "_law_user" 1540 (r 966),e P "_law_measure" 1548 (r 973),e P "_law_inserted" 1563 (r 980),e P "_law_pairs" 1569 (r 985),e P "_law_built" 1581 (r 992),e P "_law_seen" 1591 (r 999),e P "_law_due" 1605 (r 1006),e P "_law_next" 1611 (r 1011),e P "_law_refs" 1617 (r 1016),e P "_law_answer" 1628 (r 1023),e P "_law_call" 1637 (r 1030),e P "_law_done" 1646 (r 1037),e P "_law_rule" 1655 (r 1044),e P "law" 1661 (r 1049)]
noncomputable def rZ (P:Params):Obj:=fm (e P "__name__" 165 (s "law_pq0869_01" 1434)::nZ P) 129
noncomputable def hA:Stmt->Str
 | .FunctionDef x _ _ _ _ _ _ _ _ _=>x
 | .ClassDef x _ _ _ _ _ _ _ _ _ _=>x
 | _=>default
noncomputable def Gh:Stmt->Int
 | .FunctionDef _ _ _ _ _ _ _ _ _ p=>p.line
 | _=>0
noncomputable def Qn (st:Stmt):List Str:=((fScope st).names.filter λp=>p.2 == .local).map (·.1)
noncomputable def toks (t:Nat):List Str->List Value
 | []=>[]
 | x::l=>.str x t::toks (t+1) l
noncomputable def FI (t:Nat):Value:=s "/claim/cut.py" t
noncomputable def AQ (g:Nat) (st:Stmt) (q:Str) (lN c3 eD:Value):FuncData:=
 {name:=hA st,qualname:=q,params:=fArgs st,body:=.stmts (fBody st),scope:=fScope st,globals:=g,closure:=[],defaults:=lN,kwdefaults:=no,doc:=no,pyModule:=c3,annotations:=none,code:=eD,closureTuple:=no,builtins:=0}
noncomputable def ua (big:Bool) (a t:Nat) (st:Stmt) (q:Str) (lN c3:Value):List Obj:=
 let vs:=if big then Qn st else []
 let x:=t+3+vs.length
 let k:=if big then a+4 else a+2
 let n:=(fArgs st).args.length
 [cZ [],dL []]++((if big then [cZ (toks (t+3) vs),cZ []] else [])++[d' (AQ 0 st q no no no),
  k8 [.str (hA st) t,.str q (t+1),FI (t+2),a9 (Gh st),a9 n,a9 0,a9 0,a9 3,r a,dR,a9 181,r (a+1),no,if big then r (a+2) else no,if big then r (a+3) else no,r k,a9 x,a9 (Gh st),FI (x+1)],
  qc (AQ 3 st q lN c3 (r (k+1)))])
noncomputable def b5 (a t k:Nat) (c3:Value):List Obj:=ua true a t (Q k) (hA (Q k)) no c3
noncomputable def Jm (a t k:Nat) (d:Nat) (c3:Value):List Obj:=ua true a t (Q k) (hA (Q k)) (r d) c3
noncomputable def l8 (a t k:Nat) (c3:Value):List Obj:=ua false a t (Q k) (hA (Q k)) no c3
noncomputable def jx (k j:Nat):Str:=hA (Q k)++"."++hA (R k j)
noncomputable def hm (a t k j:Nat) (c3:Value):List Obj:=ua true a t (R k j) (jx k j) no c3
noncomputable def lA (a t k j:Nat) (d:Nat) (c3:Value):List Obj:=ua true a t (R k j) (jx k j) (r d) c3
noncomputable abbrev Vk:Value:=s "__main__" 164
noncomputable abbrev n3:Value:=s "phpcore.faults" 194
noncomputable abbrev dP:Value:=s "phpcore.ints" 313
noncomputable abbrev gx:Value:=s "phpcore.slots" 389
noncomputable abbrev dm:Value:=s "phpcore.table" 501
noncomputable abbrev l6:Value:=s "phpcore.values" 761
noncomputable abbrev mW:Value:=s "phpcore.convert" 819
noncomputable abbrev fi:Value:=s "phpcore.likeness" 869
noncomputable abbrev dV:Value:=s "phpcore.sorts" 1038
noncomputable abbrev IA:Value:=s "phpcore.frames" 1255
noncomputable abbrev jf:Value:=s "phpcore.host" 1294
noncomputable abbrev eF:Value:=s "law_pq0869_01" 1434
noncomputable def Tz:List (Int×Nat):=[(1,20),(5,27),(10,47),(12,59),(14,71),(23,92),(25,99),(27,106),(30,113),(32,120),(36,127),(43,134),(48,141),(57,148),(61,155),(80,162),(86,169),(92,191),(96,213),(106,234),(112,241),(116,248),(168,326),(170,333),(177,340),(181,347),(187,354),(191,359),(193,364),(201,371),(205,378),(211,385),(215,392),(227,399),(239,406),(243,411),(245,418),(253,423),(265,430),(267,437),(272,444),(278,451),(292,458),(296,465),(300,472),(304,479),(309,486),(319,493),(322,500),(333,507),(335,514),(338,521),(351,528),(365,535),(369,542),(373,549),(377,556),(381,563),(384,570),(391,577),(410,584),(418,591),(430,598),(434,606),(460,613),(465,620),(469,627),(474,634),(476,641),(478,648),(497,655),(509,662),(519,669),(529,676),(539,683),(550,690),(557,695),(563,702),(570,707),(572,715),(581,720),(594,727),(597,734),(599,741),(601,748),(603,755),(605,762),(607,769),(609,776),(611,783),(613,790),(615,797),(617,804),(620,811),(630,833),(697,937),(701,944),(705,951),(710,958),(723,965),(726,972),(738,979),(750,984),(761,991),(770,998),(775,1005),(783,1010),(788,1015),(790,1022),(799,1029),(801,1036),(813,1043),(817,1048)]
noncomputable def qy:List Value:=Tz.flatMap λp=>[a9 p.1,a9 0,r p.2]
noncomputable def MO (P:Params):List Obj:=[boot_o_0 P,boot_o_1 P,gr P,rZ P,boot_o_4 P,boot_o_5 P,boot_o_6 P,boot_o_7 P,boot_o_8 P,boot_o_9 P,boot_o_10 P,cZ [],dL qy,k8 [(s "<module>" 182),(s "<module>" 183),(s "/claim/cut.py" 184),(a9 1),(a9 0),(a9 0),(a9 0),(a9 0),(r 11),kq,(a9 181),(r 12),no,no,no,no,(a9 185),(a9 1),(s "/claim/cut.py" 186)],⟨(bR "frame"),none,.plain,List.toArray [(some (r 13)),(some (r 3)),(some (r 3)),none,(some (s "__main__" 164)),none,(some (r 0))]⟩]++(b5 15 187 0 Vk++([cZ [(bR "Exception")],dN (bR "builtin_function_or_method") [(dy "type.__prepare__"),(bR "type")],fm [e P "__module__" 203 (s "phpcore.faults" 194),e P "__qualname__" 205 (s "PhpFault" 204),e P "__firstlineno__" 207 (i 5 206),e P "__init__" 215 (r 35),e P "__static_attributes__" 217 (r 36)] 5,cZ [],dL [(a9 7),(a9 4),(r 34)],k8 [(s "PhpFault" 198),(s "PhpFault" 199),(s "/claim/cut.py" 200),(a9 5),(a9 0),(a9 0),(a9 0),(a9 0),(r 25),kq,(a9 181),(r 26),no,no,no,no,(a9 201),(a9 5),(s "/claim/cut.py" 202)],⟨(bR "frame"),none,.plain,List.toArray [(some (r 27)),(some (r 3)),(some (r 24)),none,(some (s "phpcore.faults" 194)),none,(some (r 0))]⟩]++(hm 29 208 2 0 n3++([cZ [(s "why" 216)],fm [e P "__module__" 203 (s "phpcore.faults" 194),e P "__firstlineno__" 207 (i 5 206),e P "__init__" 215 (r 35),e P "__static_attributes__" 217 (r 36),e P "__weakref__" 219 (r 39),e P "__doc__" 220 no] 3,⟨(bR "type"),none,(.cls ({name:="PhpFault",bases:=[(bR "Exception")],mro:=[(r 38),(bR "Exception"),(bR "BaseException"),(bR "object")],ns:=37,qualname:="PhpFault",hasDict:=true,slotNames:=[],subclasses:=[(r 51),(r 63)],abstract:=false,collection:=none,hasDel:=false}:ClassData)),List.toArray [(some (r 22)),none,(some (s "PhpFault" 196)),(some (s "PhpFault" 204)),(some (dy "Exception.__new__")),(some dR)]⟩,dN (bR "getset_descriptor") [(s "__weakref__" 218),(r 38),(dy "ExceptionGroup.__weakref__"),no],dN (bR "super") [(r 38),(r 38),(r 38)],dN (bR "builtin_function_or_method") [(dy "object.__init_subclass__"),(r 38)],cZ [(r 38)],dN (bR "builtin_function_or_method") [(dy "type.__prepare__"),(bR "type")],fm [e P "__module__" 232 (s "phpcore.faults" 194),e P "__qualname__" 234 (s "LeftOut" 233),e P "__firstlineno__" 236 (i 10 235),e P "__static_attributes__" 237 (r 49)] 4,cZ [],dL [],k8 [(s "LeftOut" 227),(s "LeftOut" 228),(s "/claim/cut.py" 229),(a9 10),(a9 0),(a9 0),(a9 0),(a9 0),(r 45),kq,(a9 181),(r 46),no,no,no,no,(a9 230),(a9 10),(s "/claim/cut.py" 231)],⟨(bR "frame"),none,.plain,List.toArray [(some (r 47)),(some (r 3)),(some (r 44)),none,(some (s "phpcore.faults" 194)),none,(some (r 0))]⟩,cZ [],fm [e P "__module__" 232 (s "phpcore.faults" 194),e P "__firstlineno__" 236 (i 10 235),e P "__static_attributes__" 237 (r 49),e P "__doc__" 238 no] 2,⟨(bR "type"),none,(.cls ({name:="LeftOut",bases:=[(r 38)],mro:=[(r 51),(r 38),(bR "Exception"),(bR "BaseException"),(bR "object")],ns:=50,qualname:="LeftOut",hasDict:=true,slotNames:=[],subclasses:=[],abstract:=false,collection:=none,hasDel:=false}:ClassData)),List.toArray [(some (r 42)),none,(some (s "LeftOut" 225)),(some (s "LeftOut" 233)),(some (dy "Exception.__new__")),(some dR)]⟩,dN (bR "super") [(r 51),(r 51),(r 51)],dN (bR "builtin_function_or_method") [(dy "object.__init_subclass__"),(r 51)],cZ [(r 38)],dN (bR "builtin_function_or_method") [(dy "type.__prepare__"),(bR "type")],fm [e P "__module__" 248 (s "phpcore.faults" 194),e P "__qualname__" 250 (s "Misused" 249),e P "__firstlineno__" 252 (i 12 251),e P "__static_attributes__" 253 (r 61)] 4,cZ [],dL [],k8 [(s "Misused" 243),(s "Misused" 244),(s "/claim/cut.py" 245),(a9 12),(a9 0),(a9 0),(a9 0),(a9 0),(r 57),kq,(a9 181),(r 58),no,no,no,no,(a9 246),(a9 12),(s "/claim/cut.py" 247)],⟨(bR "frame"),none,.plain,List.toArray [(some (r 59)),(some (r 3)),(some (r 56)),none,(some (s "phpcore.faults" 194)),none,(some (r 0))]⟩,cZ [],fm [e P "__module__" 248 (s "phpcore.faults" 194),e P "__firstlineno__" 252 (i 12 251),e P "__static_attributes__" 253 (r 61),e P "__doc__" 254 no] 2,⟨(bR "type"),none,(.cls ({name:="Misused",bases:=[(r 38)],mro:=[(r 63),(r 38),(bR "Exception"),(bR "BaseException"),(bR "object")],ns:=62,qualname:="Misused",hasDict:=true,slotNames:=[],subclasses:=[],abstract:=false,collection:=none,hasDel:=false}:ClassData)),List.toArray [(some (r 54)),none,(some (s "Misused" 241)),(some (s "Misused" 249)),(some (dy "Exception.__new__")),(some dR)]⟩,dN (bR "super") [(r 63),(r 63),(r 63)],dN (bR "builtin_function_or_method") [(dy "object.__init_subclass__"),(r 63)],cZ [(bR "Exception")],dN (bR "builtin_function_or_method") [(dy "type.__prepare__"),(bR "type")],fm [e P "__module__" 264 (s "phpcore.faults" 194),e P "__qualname__" 266 (s "Thrown" 265),e P "__firstlineno__" 268 (i 14 267),e P "__init__" 280 (r 80),e P "__static_attributes__" 286 (r 81)] 5,cZ []]))))
noncomputable def k7 (P:Params):List Obj:=[dL [(a9 16),(a9 4),(r 79)],k8 [(s "Thrown" 259),(s "Thrown" 260),(s "/claim/cut.py" 261),(a9 14),(a9 0),(a9 0),(a9 0),(a9 0),(r 69),kq,(a9 181),(r 70),no,no,no,no,(a9 262),(a9 14),(s "/claim/cut.py" 263)],⟨(bR "frame"),none,.plain,List.toArray [(some (r 71)),(some (r 3)),(some (r 68)),none,(some (s "phpcore.faults" 194)),none,(some (r 0))]⟩,cZ [(i 0 269),no]]++(lA 74 270 5 0 73 n3++([cZ [(s "code" 281),(s "name" 282),(s "previous" 283),(s "text" 284),(s "value" 285)],fm [e P "__module__" 264 (s "phpcore.faults" 194),e P "__firstlineno__" 268 (i 14 267),e P "__init__" 280 (r 80),e P "__static_attributes__" 286 (r 81),e P "__weakref__" 288 (r 84),e P "__doc__" 289 no] 3,⟨(bR "type"),none,(.cls ({name:="Thrown",bases:=[(bR "Exception")],mro:=[(r 83),(bR "Exception"),(bR "BaseException"),(bR "object")],ns:=82,qualname:="Thrown",hasDict:=true,slotNames:=[],subclasses:=[],abstract:=false,collection:=none,hasDel:=false}:ClassData)),List.toArray [(some (r 66)),none,(some (s "Thrown" 257)),(some (s "Thrown" 265)),(some (dy "Exception.__new__")),(some dR)]⟩,dN (bR "getset_descriptor") [(s "__weakref__" 287),(r 83),(dy "ExceptionGroup.__weakref__"),no],dN (bR "super") [(r 83),(r 83),(r 83)],dN (bR "builtin_function_or_method") [(dy "object.__init_subclass__"),(r 83)]]++(b5 87 294 6 n3++(b5 94 301 7 n3++(b5 101 307 8 n3++(b5 108 315 10 dP++(b5 115 323 11 dP++(b5 122 331 12 dP++(b5 129 342 13 dP++(b5 136 351 14 dP))))))))))
noncomputable def iD (P:Params):List Obj:=b5 143 360 15 dP++(b5 150 368 16 dP++(b5 157 381 17 dP++([cZ [],dN (bR "builtin_function_or_method") [(dy "type.__prepare__"),(bR "type")],fm [e P "__module__" 398 (s "phpcore.slots" 389),e P "__qualname__" 400 (s "Ref" 399),e P "__firstlineno__" 402 (i 86 401),e P "__init__" 410 (r 178),e P "__static_attributes__" 414 (r 179)] 5,cZ [],dL [(a9 88),(a9 4),(r 177)],k8 [(s "Ref" 393),(s "Ref" 394),(s "/claim/cut.py" 395),(a9 86),(a9 0),(a9 0),(a9 0),(a9 0),(r 167),kq,(a9 181),(r 168),no,no,no,no,(a9 396),(a9 86),(s "/claim/cut.py" 397)],⟨(bR "frame"),none,.plain,List.toArray [(some (r 169)),(some (r 3)),(some (r 166)),none,(some (s "phpcore.slots" 389)),none,(some (r 0))]⟩,cZ [no]]++(lA 172 403 19 0 171 gx++([cZ [(s "holders" 411),(s "types" 412),(s "value" 413)],fm [e P "__module__" 398 (s "phpcore.slots" 389),e P "__firstlineno__" 402 (i 86 401),e P "__init__" 410 (r 178),e P "__static_attributes__" 414 (r 179),e P "__dict__" 416 (r 182),e P "__weakref__" 418 (r 183),e P "__doc__" 419 no] 4,⟨(bR "type"),none,(.cls ({name:="Ref",bases:=[(bR "object")],mro:=[(r 181),(bR "object")],ns:=180,qualname:="Ref",hasDict:=true,slotNames:=[],subclasses:=[],abstract:=false,collection:=none,hasDel:=false}:ClassData)),List.toArray [none,none,(some (s "Ref" 391)),(some (s "Ref" 399)),(some (dy "object.__new__")),(some dR)]⟩,dN (bR "getset_descriptor") [(s "__dict__" 415),(r 181),(dy "function.__dict__"),(dy "function.__dict__#set")],dN (bR "getset_descriptor") [(s "__weakref__" 417),(r 181),(dy "ExceptionGroup.__weakref__"),no],dN (bR "super") [(r 181),(r 181),(r 181)],dN (bR "builtin_function_or_method") [(dy "object.__init_subclass__"),(r 181)],cZ [],dN (bR "builtin_function_or_method") [(dy "type.__prepare__"),(bR "type")],fm [e P "__module__" 429 (s "phpcore.slots" 389),e P "__qualname__" 431 (s "Absent" 430),e P "__firstlineno__" 433 (i 92 432),e P "__init__" 441 (r 200),e P "__static_attributes__" 443 (r 201)] 5,cZ [],dL [(a9 94),(a9 4),(r 199)],k8 [(s "Absent" 424),(s "Absent" 425),(s "/claim/cut.py" 426),(a9 92),(a9 0),(a9 0),(a9 0),(a9 0),(r 189),kq,(a9 181),(r 190),no,no,no,no,(a9 427),(a9 92),(s "/claim/cut.py" 428)],⟨(bR "frame"),none,.plain,List.toArray [(some (r 191)),(some (r 3)),(some (r 188)),none,(some (s "phpcore.slots" 389)),none,(some (r 0))]⟩,cZ [kq]]++(lA 194 434 20 0 193 gx++([cZ [(s "was_unset" 442)],fm [e P "__module__" 429 (s "phpcore.slots" 389),e P "__firstlineno__" 433 (i 92 432),e P "__init__" 441 (r 200),e P "__static_attributes__" 443 (r 201),e P "__dict__" 445 (r 204),e P "__weakref__" 447 (r 205),e P "__doc__" 448 no] 4,⟨(bR "type"),none,(.cls ({name:="Absent",bases:=[(bR "object")],mro:=[(r 203),(bR "object")],ns:=202,qualname:="Absent",hasDict:=true,slotNames:=[],subclasses:=[],abstract:=false,collection:=none,hasDel:=false}:ClassData)),List.toArray [none,none,(some (s "Absent" 422)),(some (s "Absent" 430)),(some (dy "object.__new__")),(some dR)]⟩,dN (bR "getset_descriptor") [(s "__dict__" 444),(r 203),(dy "function.__dict__"),(dy "function.__dict__#set")],dN (bR "getset_descriptor") [(s "__weakref__" 446),(r 203),(dy "ExceptionGroup.__weakref__"),no],dN (bR "super") [(r 203),(r 203),(r 203)],dN (bR "builtin_function_or_method") [(dy "object.__init_subclass__"),(r 203)],cZ [],dN (bR "builtin_function_or_method") [(dy "type.__prepare__"),(bR "type")],fm [e P "__module__" 458 (s "phpcore.slots" 389),e P "__qualname__" 460 (s "Obj" 459),e P "__firstlineno__" 462 (i 96 461),e P "__init__" 471 (r 221),e P "__static_attributes__" 479 (r 222)] 5,cZ [],dL [(a9 98),(a9 4),(r 220)]])))))))
noncomputable def E9 (P:Params):List Obj:=[k8 [(s "Obj" 453),(s "Obj" 454),(s "/claim/cut.py" 455),(a9 96),(a9 0),(a9 0),(a9 0),(a9 0),(r 211),kq,(a9 181),(r 212),no,no,no,no,(a9 456),(a9 96),(s "/claim/cut.py" 457)],⟨(bR "frame"),none,.plain,List.toArray [(some (r 213)),(some (r 3)),(some (r 210)),none,(some (s "phpcore.slots" 389)),none,(some (r 0))]⟩]++(hm 215 463 21 0 gx++([cZ [(s "cls" 472),(s "data" 473),(s "guards" 474),(s "handle" 475),(s "is_busy" 476),(s "is_destructed" 477),(s "props" 478)],fm [e P "__module__" 458 (s "phpcore.slots" 389),e P "__firstlineno__" 462 (i 96 461),e P "__init__" 471 (r 221),e P "__static_attributes__" 479 (r 222),e P "__dict__" 481 (r 225),e P "__weakref__" 483 (r 226),e P "__doc__" 484 no] 4,⟨(bR "type"),none,(.cls ({name:="Obj",bases:=[(bR "object")],mro:=[(r 224),(bR "object")],ns:=223,qualname:="Obj",hasDict:=true,slotNames:=[],subclasses:=[],abstract:=false,collection:=none,hasDel:=false}:ClassData)),List.toArray [none,none,(some (s "Obj" 451)),(some (s "Obj" 459)),(some (dy "object.__new__")),(some dR)]⟩,dN (bR "getset_descriptor") [(s "__dict__" 480),(r 224),(dy "function.__dict__"),(dy "function.__dict__#set")],dN (bR "getset_descriptor") [(s "__weakref__" 482),(r 224),(dy "ExceptionGroup.__weakref__"),no],dN (bR "super") [(r 224),(r 224),(r 224)],dN (bR "builtin_function_or_method") [(dy "object.__init_subclass__"),(r 224)]]++(b5 229 487 22 gx++(b5 236 494 23 gx++([cZ [],dN (bR "builtin_function_or_method") [(dy "type.__prepare__"),(bR "type")],fm [e P "__module__" 510 (s "phpcore.table" 501),e P "__qualname__" 512 (s "Arr" 511),e P "__firstlineno__" 514 (i 116 513),e P "__init__" 523 (r 257),e P "find" 532 (r 264),e P "has" 540 (r 271),e P "slot" 549 (r 278),e P "get" 557 (r 285),e P "put" 567 (r 292),e P "append" 576 (r 299),e P "drop" 584 (r 306),e P "key_at" 592 (r 313),e P "__static_attributes__" 604 (r 314)] 13,cZ [],dL [(a9 118),(a9 4),(r 256),(a9 131),(a9 4),(r 263),(a9 139),(a9 4),(r 270),(a9 142),(a9 4),(r 277),(a9 146),(a9 4),(r 284),(a9 149),(a9 4),(r 291),(a9 156),(a9 4),(r 298),(a9 163),(a9 4),(r 305),(a9 166),(a9 4),(r 312)],k8 [(s "Arr" 505),(s "Arr" 506),(s "/claim/cut.py" 507),(a9 116),(a9 0),(a9 0),(a9 0),(a9 0),(r 246),kq,(a9 181),(r 247),no,no,no,no,(a9 508),(a9 116),(s "/claim/cut.py" 509)],⟨(bR "frame"),none,.plain,List.toArray [(some (r 248)),(some (r 3)),(some (r 245)),none,(some (s "phpcore.table" 501)),none,(some (r 0))]⟩,cZ [(i 8 515)]]++(lA 251 516 25 0 250 dm++(hm 258 524 25 1 dm++(hm 265 533 25 2 dm++(hm 272 541 25 3 dm++(hm 279 550 25 4 dm))))))))))
noncomputable def E' (P:Params):List Obj:=hm 286 558 25 5 dm++(hm 293 568 25 6 dm++(hm 300 577 25 7 dm++(hm 307 585 25 8 dm++([cZ [(s "at" 593),(s "count" 594),(s "heads" 595),(s "is_packed" 596),(s "is_shared" 597),(s "keys" 598),(s "next" 599),(s "nexts" 600),(s "size" 601),(s "vals" 602),(s "walks" 603)],fm [e P "__module__" 510 (s "phpcore.table" 501),e P "__firstlineno__" 514 (i 116 513),e P "__init__" 523 (r 257),e P "find" 532 (r 264),e P "has" 540 (r 271),e P "slot" 549 (r 278),e P "get" 557 (r 285),e P "put" 567 (r 292),e P "append" 576 (r 299),e P "drop" 584 (r 306),e P "key_at" 592 (r 313),e P "__static_attributes__" 604 (r 314),e P "__dict__" 606 (r 317),e P "__weakref__" 608 (r 318),e P "__doc__" 609 no] 4,⟨(bR "type"),none,(.cls ({name:="Arr",bases:=[(bR "object")],mro:=[(r 316),(bR "object")],ns:=315,qualname:="Arr",hasDict:=true,slotNames:=[],subclasses:=[],abstract:=false,collection:=none,hasDel:=false}:ClassData)),List.toArray [none,none,(some (s "Arr" 503)),(some (s "Arr" 511)),(some (dy "object.__new__")),(some dR)]⟩,dN (bR "getset_descriptor") [(s "__dict__" 605),(r 316),(dy "function.__dict__"),(dy "function.__dict__#set")],dN (bR "getset_descriptor") [(s "__weakref__" 607),(r 316),(dy "ExceptionGroup.__weakref__"),no],dN (bR "super") [(r 316),(r 316),(r 316)],dN (bR "builtin_function_or_method") [(dy "object.__init_subclass__"),(r 316)]]++(b5 321 612 26 dm++(b5 328 620 27 dm++(b5 335 629 28 dm++(b5 342 638 29 dm++(b5 349 646 30 dm)))))))))
noncomputable def MV (P:Params):List Obj:=l8 356 654 31 dm++(l8 361 660 32 dm++(b5 366 666 33 dm++(b5 373 673 34 dm++(b5 380 681 35 dm++(b5 387 690 36 dm++(b5 394 700 37 dm++(b5 401 709 38 dm++(l8 408 716 39 dm++(b5 413 722 40 dm)))))))))
noncomputable def MW (P:Params):List Obj:=l8 420 729 41 dm++(b5 425 735 42 dm++(b5 432 742 43 dm++(b5 439 751 44 dm++(b5 446 763 46 l6++(b5 453 770 47 l6++(b5 460 777 48 l6++(b5 467 784 49 l6++(b5 474 792 50 l6++(b5 481 801 51 l6)))))))))
noncomputable def MX (P:Params):List Obj:=b5 488 811 52 l6++(b5 495 821 54 mW++(b5 502 829 55 mW++(b5 509 836 56 mW++(b5 516 844 57 mW++(b5 523 853 58 mW++(b5 530 862 59 mW++(b5 537 871 61 fi++(b5 544 879 62 fi++(b5 551 887 63 fi)))))))))
noncomputable def MY (P:Params):List Obj:=b5 558 895 64 fi++(b5 565 902 65 fi++(b5 572 910 66 fi++(b5 579 924 67 fi++(b5 586 934 68 fi++(b5 593 947 69 fi++([cZ [(i 0 956)]]++(Jm 601 957 70 600 fi++(b5 608 969 71 fi++(b5 615 977 72 fi++(b5 622 985 73 fi))))))))))
noncomputable def MZ (P:Params):List Obj:=b5 629 994 74 fi++(b5 636 1002 75 fi++(b5 643 1012 76 fi++(b5 650 1026 77 fi++(b5 657 1040 79 dV++(b5 664 1054 80 dV++(b5 671 1070 81 dV++(b5 678 1084 82 dV++(b5 685 1098 83 dV++(l8 692 1110 84 dV)))))))))
noncomputable def MP (P:Params):List Obj:=b5 697 1116 85 dV++(l8 704 1124 86 dV++([cZ [(i 0 1130),(i 0 1131),(i 0 1132)]]++(Jm 710 1133 87 709 dV++(l8 717 1149 88 dV++(b5 722 1155 89 dV++(b5 729 1167 90 dV++(b5 736 1175 91 dV++(b5 743 1183 92 dV++(b5 750 1191 93 dV++(b5 757 1199 94 dV))))))))))
noncomputable def MQ (P:Params):List Obj:=b5 764 1207 95 dV++(b5 771 1215 96 dV++(b5 778 1223 97 dV++(b5 785 1231 98 dV++(b5 792 1239 99 dV++(b5 799 1247 100 dV++([cZ [],dN (bR "builtin_function_or_method") [(dy "type.__prepare__"),(bR "type")],fm [e P "__module__" 1264 (s "phpcore.frames" 1255),e P "__qualname__" 1266 (s "Frame" 1265),e P "__firstlineno__" 1268 (i 620 1267),e P "__init__" 1279 (r 820),e P "__static_attributes__" 1286 (r 821)] 5,cZ [],dL [(a9 622),(a9 4),(r 819)],k8 [(s "Frame" 1259),(s "Frame" 1260),(s "/claim/cut.py" 1261),(a9 620),(a9 0),(a9 0),(a9 0),(a9 0),(r 809),kq,(a9 181),(r 810),no,no,no,no,(a9 1262),(a9 620),(s "/claim/cut.py" 1263)],⟨(bR "frame"),none,.plain,List.toArray [(some (r 811)),(some (r 3)),(some (r 808)),none,(some (s "phpcore.frames" 1255)),none,(some (r 0))]⟩,cZ [no,no,no,no]]++(lA 814 1269 102 0 813 IA++([cZ [(s "args" 1280),(s "cls" 1281),(s "func" 1282),(s "static" 1283),(s "this" 1284),(s "vars" 1285)],fm [e P "__module__" 1264 (s "phpcore.frames" 1255),e P "__firstlineno__" 1268 (i 620 1267),e P "__init__" 1279 (r 820),e P "__static_attributes__" 1286 (r 821),e P "__dict__" 1288 (r 824),e P "__weakref__" 1290 (r 825),e P "__doc__" 1291 no] 4,⟨(bR "type"),none,(.cls ({name:="Frame",bases:=[(bR "object")],mro:=[(r 823),(bR "object")],ns:=822,qualname:="Frame",hasDict:=true,slotNames:=[],subclasses:=[],abstract:=false,collection:=none,hasDel:=false}:ClassData)),List.toArray [none,none,(some (s "Frame" 1257)),(some (s "Frame" 1265)),(some (dy "object.__new__")),(some dR)]⟩,dN (bR "getset_descriptor") [(s "__dict__" 1287),(r 823),(dy "function.__dict__"),(dy "function.__dict__#set")],dN (bR "getset_descriptor") [(s "__weakref__" 1289),(r 823),(dy "ExceptionGroup.__weakref__"),no],dN (bR "super") [(r 823),(r 823),(r 823)],dN (bR "builtin_function_or_method") [(dy "object.__init_subclass__"),(r 823)],cZ [],dN (bR "builtin_function_or_method") [(dy "type.__prepare__"),(bR "type")],fm [e P "__module__" 1303 (s "phpcore.host" 1294),e P "__qualname__" 1305 (s "Host" 1304),e P "__firstlineno__" 1307 (i 630 1306),e P "__init__" 1317 (r 842),e P "tool" 1325 (r 849),e P "warn" 1334 (r 856),e P "echo" 1342 (r 863),e P "spend" 1349 (r 870),e P "eval" 1357 (r 877),e P "exec" 1365 (r 884),e P "call" 1374 (r 891),e P "method" 1384 (r 898),e P "new_handle" 1391 (r 905),e P "enter" 1398 (r 912),e P "leave" 1405 (r 919),e P "__static_attributes__" 1426 (r 920)] 16,cZ [],dL [(a9 632),(a9 4),(r 841),(a9 654),(a9 4),(r 848),(a9 659),(a9 4),(r 855),(a9 663),(a9 4),(r 862),(a9 666),(a9 4),(r 869),(a9 669),(a9 4),(r 876),(a9 672),(a9 4),(r 883),(a9 675),(a9 4),(r 890),(a9 678),(a9 4),(r 897),(a9 681),(a9 4),(r 904),(a9 684),(a9 4),(r 911),(a9 687),(a9 4),(r 918)],k8 [(s "Host" 1298),(s "Host" 1299),(s "/claim/cut.py" 1300),(a9 630),(a9 0),(a9 0),(a9 0),(a9 0),(r 831),kq,(a9 181),(r 832),no,no,no,no,(a9 1301),(a9 630),(s "/claim/cut.py" 1302)]]))))))))
noncomputable def MR (P:Params):List Obj:=[⟨(bR "frame"),none,.plain,List.toArray [(some (r 833)),(some (r 3)),(some (r 830)),none,(some (s "phpcore.host" 1294)),none,(some (r 0))]⟩,cZ [(i 12 1308),no]]++(lA 836 1309 104 0 835 jf++(hm 843 1318 104 1 jf++(hm 850 1326 104 2 jf++(hm 857 1335 104 3 jf++(hm 864 1343 104 4 jf++(hm 871 1350 104 5 jf++(hm 878 1358 104 6 jf++(hm 885 1366 104 7 jf++(hm 892 1375 104 8 jf++(hm 899 1385 104 9 jf))))))))))
noncomputable def MS (P:Params):List Obj:=hm 906 1392 104 10 jf++(hm 913 1399 104 11 jf++([cZ [(s "autoload_order" 1406),(s "buffers" 1407),(s "classes" 1408),(s "constants" 1409),(s "depth" 1410),(s "evals" 1411),(s "execs" 1412),(s "frame" 1413),(s "fuel" 1414),(s "functions" 1415),(s "handles" 1416),(s "is_strict" 1417),(s "limit" 1418),(s "made" 1419),(s "notes" 1420),(s "parts" 1421),(s "silent" 1422),(s "spent" 1423),(s "tools" 1424),(s "top" 1425)],fm [e P "__module__" 1303 (s "phpcore.host" 1294),e P "__firstlineno__" 1307 (i 630 1306),e P "__init__" 1317 (r 842),e P "tool" 1325 (r 849),e P "warn" 1334 (r 856),e P "echo" 1342 (r 863),e P "spend" 1349 (r 870),e P "eval" 1357 (r 877),e P "exec" 1365 (r 884),e P "call" 1374 (r 891),e P "method" 1384 (r 898),e P "new_handle" 1391 (r 905),e P "enter" 1398 (r 912),e P "leave" 1405 (r 919),e P "__static_attributes__" 1426 (r 920),e P "__dict__" 1428 (r 923),e P "__weakref__" 1430 (r 924),e P "__doc__" 1431 no] 4,⟨(bR "type"),none,(.cls ({name:="Host",bases:=[(bR "object")],mro:=[(r 922),(bR "object")],ns:=921,qualname:="Host",hasDict:=true,slotNames:=[],subclasses:=[],abstract:=false,collection:=none,hasDel:=false}:ClassData)),List.toArray [none,none,(some (s "Host" 1296)),(some (s "Host" 1304)),(some (dy "object.__new__")),(some dR)]⟩,dN (bR "getset_descriptor") [(s "__dict__" 1427),(r 922),(dy "function.__dict__"),(dy "function.__dict__#set")],dN (bR "getset_descriptor") [(s "__weakref__" 1429),(r 922),(dy "ExceptionGroup.__weakref__"),no],dN (bR "super") [(r 922),(r 922),(r 922)],dN (bR "builtin_function_or_method") [(dy "object.__init_subclass__"),(r 922)],cZ [(s "" 1436),(s "" 1437),(s "" 1438),(s "" 1439),(s "" 1440),(s "" 1441),(s "usort" 1442),(s "uasort" 1443),(s "uksort" 1444)],cZ [(i 0 1446),(i 1 1447),(i 2 1448),(i 10 1449),(i 6 1450),(i 14 1451),(i 8 1452),(i 9 1453)],cZ [(s "plain" 1455),(s "number" 1456),(s "text" 1457),(s "small" 1458),(s "natural" 1459),(s "natural small" 1460),(s "plain" 1461),(s "number" 1462)],cZ [(i 0 1464),(i 1 1465),(i 2 1466),(i 3 1467),(i 9 1468),(i (-3) 1470),(s "a10" 1471),(s "a9" 1472),(s "B" 1473),(s "b" 1474),(s "x y" 1475),(s "" 1476)],cZ [(i 3 1478),(i (-2) 1480),(i 10 1481),(i 9 1482),(s "10" 1483),(s "9" 1484),(s "010" 1485),(s " 7" 1486),(s "a1" 1487),(s "a10" 1488),(s "A2" 1489),(s "b" 1490),(s "a 3" 1491),(s "" 1492),no,dR]]++(b5 932 1498 113 eF++(b5 939 1507 114 eF++(b5 946 1514 115 eF++(b5 953 1522 116 eF++(b5 960 1532 117 eF++(b5 967 1541 118 eF++(b5 974 1549 119 eF)))))))))
noncomputable def MT (P:Params):List Obj:=l8 981 1564 120 eF++(b5 986 1570 121 eF++(b5 993 1582 122 eF++(b5 1000 1592 123 eF++(l8 1007 1606 124 eF++(l8 1012 1612 125 eF++(b5 1017 1618 126 eF++(b5 1024 1629 127 eF++(b5 1031 1638 128 eF++(b5 1038 1647 129 eF)))))))))
noncomputable def MU (P:Params):List Obj:=l8 1045 1656 130 eF
noncomputable def objs (P:Params):List Obj:=MO P++(k7 P++(iD P++(E9 P++(E' P++(MV P++(MW P++(MX P++(MY P++(MZ P++(MP P++(MQ P++(MR P++(MS P++(MT P++(MU P)))))))))))))))
noncomputable def JF (P:Params):List Obj:=l7 (List.take 15 (objs P)) [(2,⟨no,none,(.dict (List.toArray []) 0),List.toArray []⟩),(3,fm (e P "__name__" 165 (s "__main__" 164)::(nZ P).take 8) 9),(12,dL [])]
noncomputable def JC (P:Params):List Obj:=l7 (List.take 15 (objs P)) [(2,⟨no,none,(.dict (List.toArray []) 0),List.toArray []⟩),(3,fm (e P "__name__" 165 (s "__main__" 164)::(nZ P).take 8) 9),(12,dL [])]
noncomputable def s0 (P:Params):List Obj:=l7 (List.take 87 (objs P)) [(3,fm (e P "__name__" 165 (s "phpcore.faults" 194)::(nZ P).take 13) 14),(12,dL (qy.take 15))]
noncomputable def s1 (P:Params):List Obj:=l7 (List.take 229 (objs P)) [(3,fm (e P "__name__" 165 (s "phpcore.slots" 389)::(nZ P).take 27) 28),(12,dL (qy.take 57))]
noncomputable def s2 (P:Params):List Obj:=l7 (List.take 401 (objs P)) [(3,fm (e P "__name__" 165 (s "phpcore.table" 501)::(nZ P).take 42) 43),(12,dL (qy.take 102))]
noncomputable def s3 (P:Params):List Obj:=l7 (List.take 600 (objs P)) [(3,fm (e P "__name__" 165 (s "phpcore.likeness" 869)::(nZ P).take 71) 72),(12,dL (qy.take 189))]
noncomputable def s4 (P:Params):List Obj:=l7 (List.take 792 (objs P)) [(3,fm (e P "__name__" 165 (s "phpcore.sorts" 1038)::(nZ P).take 99) 100),(12,dL (qy.take 273))]
noncomputable def s5 (P:Params):List Obj:=l7 (List.take 927 (objs P)) [(3,fm (e P "__name__" 165 (s "phpcore.host" 1294)::(nZ P).take 103) 104),(12,dL (qy.take 285))]
noncomputable def j0 (P:Params):List Obj:=l7 (List.take 1050 (objs P)) []
noncomputable def Di (P:Params):List Obj:=l7 (List.take 1050 (objs P)) []
noncomputable def zo:List Stmt:=behindTheImports br
noncomputable def ev:Env:={scope:=br.main.scope,locals:=mainNs,globals:=mainNs,cells:=[],code:=(r 13),frame:=some 14}
noncomputable def hS:Code:=.body zo ev
noncomputable abbrev ann:Option Value:=some (.ref 6)
noncomputable abbrev B:List Frame:=[topFrame ⟨0,0,0,0⟩]
noncomputable abbrev ST (l:List Obj) (n k:Nat) (os:OsState):SharedT:=⟨H5 l,n,{},Array.mk [],⟨0,0,0,0⟩,k,os⟩
noncomputable def jE:List Stmt:=(br.main.body.drop 0).take 6
noncomputable def dW:List Stmt:=(br.main.body.drop 6).take 16
noncomputable def fT:List Stmt:=(br.main.body.drop 22).take 16
noncomputable def j3:List Stmt:=(br.main.body.drop 38).take 32
noncomputable def J5:List Stmt:=(br.main.body.drop 70).take 29
noncomputable def J6:List Stmt:=(br.main.body.drop 99).take 6
noncomputable def J7:List Stmt:=(br.main.body.drop 105).take 26
theorem MJ:zo=jE++(dW++(fT++(j3++(J5++(J6++(J7++[])))))):=by rfl'
theorem We (w:World) (os:OsState):topGo treeTable br w 11 ann 12 ⟨boot_heap w.params,Array.mk [],boot_drawn,boot_toks,os⟩ (topStub br)=
  some ((ST (JF w.params) 15 187 os).abs,⟨denote treeTable hS,hS,⟨0,0,0,0⟩,B⟩):=by rfl'
theorem MH (w:World) (os:OsState):segRun treeTable br w 11 ann 1 1 (ST (JF w.params) 15 187 os).abs (blockOf zo ev hS ⟨0,0,0,0⟩ B)=
  some (.next,(ST (JC w.params) 15 187 os).abs,hS,⟨0,0,0,0⟩):=by rfl'
theorem V5 (w:World) (os:OsState):segRunT treeTable br w 11 ann 1 930 (ST (JC w.params) 15 187 os) (piecesOf jE ev hS ⟨0,0,0,0⟩ B)=
  some (.next,ST (s0 w.params) 87 294 os,hS,⟨14,0,22,28⟩):=by
 rw [PySem.W.Fast.te10110043849684766642,PySem.W.Fast.te14364793385576792824]
 rfl'
theorem V6 (w:World) (os:OsState):segRunT treeTable br w 11 ann 1 1031 (ST (s0 w.params) 87 294 os) (piecesOf dW ev hS ⟨14,0,22,28⟩ B)=
  some (.next,ST (s1 w.params) 229 487 os,hS,⟨96,0,105,34⟩):=by
 rw [PySem.W.Fast.te10110043849684766642,PySem.W.Fast.te14364793385576792824]
 rfl'
theorem V7 (w:World) (os:OsState):segRunT treeTable br w 11 ann 1 920 (ST (s1 w.params) 229 487 os) (piecesOf fT ev hS ⟨96,0,105,34⟩ B)=
  some (.next,ST (s2 w.params) 401 709 os,hS,⟨227,0,238,43⟩):=by
 rw [PySem.W.Fast.te10110043849684766642,PySem.W.Fast.te14364793385576792824]
 rfl'
theorem V8 (w:World) (os:OsState):segRunT treeTable br w 11 ann 1 903 (ST (s2 w.params) 401 709 os) (piecesOf j3 ev hS ⟨227,0,238,43⟩ B)=
  some (.next,ST (s3 w.params) 600 956 os,hS,⟨430,0,433,29⟩):=by
 rw [PySem.W.Fast.te10110043849684766642,PySem.W.Fast.te14364793385576792824]
 rfl'
theorem V9 (w:World) (os:OsState):segRunT treeTable br w 11 ann 1 903 (ST (s3 w.params) 600 956 os) (piecesOf J5 ev hS ⟨430,0,433,29⟩ B)=
  some (.next,ST (s4 w.params) 792 1239 os,hS,⟨613,0,614,80⟩):=by
 rw [PySem.W.Fast.te10110043849684766642,PySem.W.Fast.te14364793385576792824]
 rfl'
theorem V' (w:World) (os:OsState):segRunT treeTable br w 11 ann 1 906 (ST (s4 w.params) 792 1239 os) (piecesOf J6 ev hS ⟨613,0,614,80⟩ B)=
  some (.next,ST (s5 w.params) 927 1434 os,hS,⟨630,0,688,16⟩):=by
 rw [PySem.W.Fast.te10110043849684766642,PySem.W.Fast.te14364793385576792824]
 rfl'
theorem Wa (w:World) (os:OsState):segRunT treeTable br w 11 ann 1 691 (ST (s5 w.params) 927 1434 os) (piecesOf J7 ev hS ⟨630,0,688,16⟩ B)=
  some (.next,ST (j0 w.params) 1050 1662 os,hS,⟨817,0,847,30⟩):=by
 rw [PySem.W.Fast.te10110043849684766642,PySem.W.Fast.te14364793385576792824]
 rfl'
theorem fin_run (w:World) (os:OsState):topRun treeTable br w 11 ann 2 (ST (j0 w.params) 1050 1662 os).abs ⟨doneF .next,hS,⟨817,0,847,30⟩,B⟩=
  some (ST (Di w.params) 1050 1662 os).abs:=by rfl'
theorem Zy (w:World) (os:OsState):topRun treeTable br w 11 ann (Nat.add 12 (Nat.add 1 (Nat.add 930 (Nat.add 1031 (Nat.add 920 (Nat.add 903 (Nat.add 903 (Nat.add 906 (Nat.add 691 (2)))))))))) ⟨boot_heap w.params,Array.mk [],boot_drawn,boot_toks,os⟩ (topStub br)=
  some (ST (Di w.params) 1050 1662 os).abs:=by
 refine go_top (We w os) ?_;refine piece_block (MH w os) ?_;rw [MJ];refine piece_app (segRun_of (V5 w os)) ?_;refine piece_app (segRun_of (V6 w os)) ?_;refine piece_app (segRun_of (V7 w os)) ?_;refine piece_app (segRun_of (V8 w os)) ?_;refine piece_app (segRun_of (V9 w os)) ?_;refine piece_app (segRun_of (V' w os)) ?_;refine piece_app (segRun_of (Wa w os)) ?_;exact piece_nil (fin_run w os)
noncomputable def pB:Program:={br with main:={br.main with body:=[Q 130]}}
noncomputable def loose:List Str:=[Str.ofString "_wall",Str.ofString "PhpFault",Str.ofString "LeftOut",Str.ofString "Misused",Str.ofString "Thrown",Str.ofString "error",Str.ofString "least",Str.ofString "greatest",Str.ofString "is_digit",Str.ofString "digits_behind",Str.ofString "digits_value",Str.ofString "signed",Str.ofString "exponent_behind",Str.ofString "blanks_behind",Str.ofString "numeric",Str.ofString "number_of",Str.ofString "Ref",Str.ofString "Absent",Str.ofString "Obj",Str.ofString "deref",Str.ofString "hold",Str.ofString "Arr",Str.ofString "is_living",Str.ofString "hash_of",Str.ofString "link",Str.ofString "chains",Str.ofString "next_place",Str.ofString "many_ahead",Str.ofString "rehash",Str.ofString "to_hash",Str.ofString "takes_packed",Str.ofString "add_packed",Str.ofString "add_hashed",Str.ofString "add",Str.ofString "marked",Str.ofString "slots_of",Str.ofString "copied",Str.ofString "copy",Str.ofString "own",Str.ofString "list_of",Str.ofString "from_pairs",Str.ofString "kind",Str.ofString "given",Str.ofString "taken",Str.ofString "compare_texts",Str.ofString "lower",Str.ofString "is_subclass",Str.ofString "instance_of",Str.ofString "to_bool",Str.ofString "int_text",Str.ofString "object_as_one",Str.ofString "to_int",Str.ofString "to_text",Str.ofString "check_plain",Str.ofString "sign_of",Str.ofString "smart",Str.ofString "int_against",Str.ofString "check_depth",Str.ofString "has_text",Str.ofString "compare_objects",Str.ofString "object_against",Str.ofString "compare_arrays",Str.ofString "compare_scalars",Str.ofString "compare",Str.ofString "noughts_behind",Str.ofString "compare_runs",Str.ofString "raised_case",Str.ofString "octet_at",Str.ofString "which_ended",Str.ofString "natural",Str.ofString "sort_compare",Str.ofString "user_order",Str.ofString "rows_order",Str.ofString "order_of",Str.ofString "merged",Str.ofString "merged_runs",Str.ofString "merge_sort",Str.ofString "plain_flags",Str.ofString "living_places",Str.ofString "put_back",Str.ofString "sort_in_place",Str.ofString "sort_by_flags",Str.ofString "sort_action",Str.ofString "rsort_action",Str.ofString "asort_action",Str.ofString "arsort_action",Str.ofString "ksort_action",Str.ofString "krsort_action",Str.ofString "natsort_action",Str.ofString "natcasesort_action",Str.ofString "usort_action",Str.ofString "uasort_action",Str.ofString "uksort_action",Str.ofString "Frame",Str.ofString "Host",Str.ofString "_law_names",Str.ofString "_law_flags",Str.ofString "_law_rules",Str.ofString "_law_keys",Str.ofString "_law_values",Str.ofString "_law_word",Str.ofString "_law_more",Str.ofString "_law_digit",Str.ofString "_law_text",Str.ofString "_law_number",Str.ofString "_law_parts",Str.ofString "_law_user",Str.ofString "_law_measure",Str.ofString "_law_inserted",Str.ofString "_law_pairs",Str.ofString "_law_built",Str.ofString "_law_seen",Str.ofString "_law_due",Str.ofString "_law_next",Str.ofString "_law_refs",Str.ofString "_law_answer",Str.ofString "_law_call",Str.ofString "_law_done",Str.ofString "_law_rule"]
noncomputable def aw (P:Params):Heap:=absHeap (H5 (Di P)) 1050 {}
theorem YU (w:World):((boot_heap w.params).isNs mainGlobals && (Array.mk []:Array GenState).size == 0,(boot_heap w.params).objs.size,(boot_heap w.params).nsMap mainGlobals "__annotations__")=(true,11,ann):=by rfl'
noncomputable abbrev fs (P:Params) (os:OsState):Shared:=⟨aw P,Array.mk [],⟨0,0,0,0⟩,1662,os⟩
theorem TA (w:World) (os:OsState):(staticsOk (importedModules br.main.body) (boot_heap w.params) (aw w.params) && namesBound br (aw w.params) && gensDone (fs w.params os) && laidKept (boot_heap w.params) (aw w.params))=true:=by rfl'
theorem TB (w:World) (os:OsState):openSeen pB loose (importedModules br.main.body) (λ_=>true) true (fs w.params os)=openGood pB loose:=by rfl'
theorem TC (P:Params):(aw P).objs.toList=objs P:=by rfl'
end
section
open PySem PySem.W PyProof.Rows
theorem YA:PySem.Challenge.rw_pq0869_01.wellSaid=true:=by
 unfold OpenLaw.wellSaid OpenRow.wellSaid OpenRow.partSaid looksOpen
 repeat' with_reducible refine look_both ?_ ?_
 all_goals as_aux_lemma=>
  (try rw [PySem.W.Fast.te2368527892694137696])
  (try rw [PySem.W.Fast.te8377067652309620493])
  (try rw [PySem.W.Fast.te8326940854005059898])
  (try rw [PySem.W.Fast.te17119622794617984870])
  (try simp only [PySem.W.Fast.te17868728402115742887])
  (try rw [PySem.W.Fast.te18344453789297297638])
  (try rw [PySem.W.Fast.te14412699480532031325])
  (try rw [PySem.W.Fast.te11788848310118352699])
  (try rw [PySem.W.Fast.te12862048085361865435])
  (try rw [PySem.W.Fast.te9807087744658564304])
  (try rw [PySem.W.Fast.te13343964577679436407])
  (try rw [PySem.W.Fast.te17691160309236699985])
  (try rw [PySem.W.Fast.te8179353310426384613])
  (try rw [PySem.W.Fast.te797321630700447069])
  (try rw [PySem.W.Fast.te9572597257264208301])
  (try simp only [PySem.W.Fast.te6984425678791042302])
  (try simp only [PySem.W.Fast.named_eq])
  (try rw [PySem.W.Fast.te10792542408131684335])
  (try rw [PySem.W.Fast.te10501279942588096481])
  (try rw [PySem.W.Fast.te9558739934217749035])
  (try rw [PySem.W.Fast.te16286561074155671207])
  rfl'
end
section
open PySem PySem.W PySem.W.X PyProof.Rows PySem.Calls
theorem left:LeftO br pB loose (λ_=>true) (λs=>s.heap.objs.toList) (λw=>objs w.params) 8000:=
 LeftO.of_pieces (H₀:=boot_heap) (H₁:=aw) (gs₀:=Array.mk []) (gs₁:=Array.mk []) (d₀:=boot_drawn) (d₁:=⟨0,0,0,0⟩) (k₀:=boot_toks) (k₁:=1662) (m₀:=11) (ann:=ann)
  (boot_open (by rfl') (by rfl') (λs=>by rfl')) YU Zy (by rfl')
  (λw=>funext λos=>by rw [TA w os,TB w os];show (_,_,(aw w.params).objs.toList)=_;rw [TC])
noncomputable def BZ:DefRec:=⟨Str.ofString "law",fArgs (Q 130),fBody (Q 130),fScope (Q 130),⟨817,0,847,30⟩⟩
theorem aaU:PySem.Challenge.rw_pq0869_01.row.toRowW.prog=br:=rfl
theorem OL:defOf pB PySem.Challenge.rw_pq0869_01.row.toRowW.name=some (BZ,[]):=by rfl'
theorem Zq:Program.theDef br PySem.Challenge.rw_pq0869_01.row.toRowW.name=some (fArgs (Q 130),fBody (Q 130),fScope (Q 130)):=by rfl'
theorem promised:PySem.Challenge.rw_pq0869_01.row.toRowW.promised:=by w_witness2
theorem Re (call:WalkX pB loose (λ_ _=>True) (λs=>s.heap.objs.toList) (λw=>objs w.params) PySem.Challenge.rw_pq0869_01.row.toRowW BZ [] λf vs=>PySem.call f vs):PySem.Challenge.rw_pq0869_01.Holds:=
 holds_law YA λhs=>holds_openX (r:=PySem.Challenge.rw_pq0869_01.row) (q:=pB) (loose:=loose) (Xt:=λ_=>true) (XP:=λ_ _=>True) (N:=8000) (d:=BZ) (kwd:=[]) left
  (λ_ _=>trivial) (λ_ _ _ _ _=>trivial) OL Zq (by rfl') (λs _=>recFacts_of (s:=s) (by rfl')) (by rfl') hs (by rfl') ⟨rfl,rfl,rfl,rfl,rfl,by decide+kernel⟩ promised call
noncomputable def Ta:List Nat:=[3,20,21,34,35,37,38,50,51,62,63,73,79,80,82,83,92,93,99,100,106,107,113,114,120,121,127,128,134,135,141,142,148,149,155,156,162,163,171,177,178,180,181,193,199,200,202,203,220,221,223,224,234,235,241,242,250,256,257,263,264,270,271,277,278,284,285,291,292,298,299,305,306,312,313,315,316,326,327,333,334,340,341,347,348,354,355,359,360,364,365,371,372,378,379,385,386,392,393,399,400,406,407,411,412,418,419,423,424,430,431,437,438,444,445,451,452,458,459,465,466,472,473,479,480,486,487,493,494,500,501,507,508,514,515,521,522,528,529,535,536,542,543,549,550,556,557,563,564,570,571,577,578,584,585,591,592,598,599,600,606,607,613,614,620,621,627,628,634,635,641,642,648,649,655,656,662,663,669,670,676,677,683,684,690,691,695,696,702,703,707,708,709,715,716,720,721,727,728,734,735,741,742,748,749,755,756,762,763,769,770,776,777,783,784,790,791,797,798,804,805,813,819,820,822,823,835,841,842,848,849,855,856,862,863,869,870,876,877,883,884,890,891,897,898,904,905,911,912,918,919,921,922,927,928,929,930,931,937,938,944,945,951,952,958,959,965,966,972,973,979,980,984,985,991,992,998,999,1005,1006,1010,1011,1015,1016,1022,1023,1029,1030,1036,1037,1043,1044,1048,1049]
noncomputable def KT (P:Params):Frag:=Ta.map λa=>(a,((objs P)[a]?).getD (rZ P))
theorem GD {h:Heap} {l:List Obj} {a:Nat} {o:Obj} (e:h.objs.toList=l) (g:l[a]? =some o) (f:o.isFreed=false):h.get? a=some o:=
 Heap.get?_some_iff.mpr ⟨by rw [<- Array.getElem?_toList,e];exact g,f⟩
theorem LA (P:Params):(KT P).map (λp=>(objs P)[p.1]?)=(KT P).map (λp=>some p.2):=by rfl'
theorem Ly (P:Params):(KT P).all (λp=>!p.2.isFreed)=true:=by rfl'
theorem Lz {P:Params} {h:Heap} (e:h.objs.toList=objs P):(KT P).In h:=by
 refine Frag.in_of (as:=(KT P).map (·.1)) rfl ?_;have a:=LA P;have b:=Ly P;generalize KT P=K at a b
 induction K with
 | nil=>rfl
 | cons p K bJ=>
  simp only [List.map_cons,List.cons.injEq,List.all_cons,Bool.and_eq_true,Bool.not_eq_true'] at a b ⊢;exact ⟨GD e a.1 b.1,bJ a.2 b.2⟩
end
end Mine
namespace My
section
theorem gT {aB aE:Prop} {C:Prop} (k:aB->aE->C) (h:aB/\aE):C:=k h.1 h.2
theorem og {aB aE aK:Prop} {C:Prop} (k:aB->aE->aK->C) (h:aB/\aE/\aK):C:=gT (k h.1) h.2
theorem vF {aB aE aK P3:Prop} {C:Prop} (k:aB->aE->aK->P3->C) (h:aB/\aE/\aK/\P3):C:=og (k h.1) h.2
theorem pK {aB aE aK P3 a5:Prop} {C:Prop} (k:aB->aE->aK->P3->a5->C) (h:aB/\aE/\aK/\P3/\a5):C:=vF (k h.1) h.2
theorem yQ {aB aE aK P3 a5 bc:Prop} {C:Prop} (k:aB->aE->aK->P3->a5->bc->C) (h:aB/\aE/\aK/\P3/\a5/\bc):C:=pK (k h.1) h.2
theorem yR {aB aE aK P3 a5 bc bs:Prop} {C:Prop} (k:aB->aE->aK->P3->a5->bc->bs->C) (h:aB/\aE/\aK/\P3/\a5/\bc/\bs):C:=yQ (k h.1) h.2
theorem yS {aB aE aK P3 a5 bc bs bE:Prop} {C:Prop} (k:aB->aE->aK->P3->a5->bc->bs->bE->C) (h:aB/\aE/\aK/\P3/\a5/\bc/\bs/\bE):C:=yR (k h.1) h.2
theorem D2 {aB aE aK P3 a5 bc bs bE cQ:Prop} {C:Prop} (k:aB->aE->aK->P3->a5->bc->bs->bE->cQ->C) (h:aB/\aE/\aK/\P3/\a5/\bc/\bs/\bE/\cQ):C:=yS (k h.1) h.2
theorem D1 {aB aE aK P3 a5 bc bs bE cQ d1:Prop} {C:Prop} (k:aB->aE->aK->P3->a5->bc->bs->bE->cQ->d1->C) (h:aB/\aE/\aK/\P3/\a5/\bc/\bs/\bE/\cQ/\d1):C:=D2 (k h.1) h.2
theorem KW {aB aE aK P3 a5 bc bs bE cQ d1 jO:Prop} {C:Prop} (k:aB->aE->aK->P3->a5->bc->bs->bE->cQ->d1->jO->C) (h:aB/\aE/\aK/\P3/\a5/\bc/\bs/\bE/\cQ/\d1/\jO):C:=D1 (k h.1) h.2
theorem d7 {bb:Type} {aB:bb->Prop} {C:Prop} (k:∀J,aB J->C) (h:∃J,aB J):C:=h.elim k
theorem eQ {bb:Type} {aB aE:bb->Prop} {C:Prop} (k:∀J,aB J->aE J->C) (h:∃J,aB J/\aE J):C:=h.elim λa h=>gT (k a) h
theorem hN {bb:Type} {aB aE aK:bb->Prop} {C:Prop} (k:∀J,aB J->aE J->aK J->C) (h:∃J,aB J/\aE J/\aK J):C:=h.elim λa h=>og (k a) h
theorem rl {bb:Type} {aB aE aK P3:bb->Prop} {C:Prop} (k:∀J,aB J->aE J->aK J->P3 J->C) (h:∃J,aB J/\aE J/\aK J/\P3 J):C:=h.elim λa h=>vF (k a) h
theorem D4 {bb:Type} {aB aE aK P3 a5:bb->Prop} {C:Prop} (k:∀J,aB J->aE J->aK J->P3 J->a5 J->C) (h:∃J,aB J/\aE J/\aK J/\P3 J/\a5 J):C:=h.elim λa h=>pK (k a) h
theorem KZ {bb:Type} {aB aE aK P3 a5 bc:bb->Prop} {C:Prop} (k:∀J,aB J->aE J->aK J->P3 J->a5 J->bc J->C) (h:∃J,aB J/\aE J/\aK J/\P3 J/\a5 J/\bc J):C:=h.elim λa h=>yQ (k a) h
theorem K0 {bb:Type} {aB aE aK P3 a5 bc bs:bb->Prop} {C:Prop} (k:∀J,aB J->aE J->aK J->P3 J->a5 J->bc J->bs J->C) (h:∃J,aB J/\aE J/\aK J/\P3 J/\a5 J/\bc J/\bs J):C:=h.elim λa h=>yR (k a) h
theorem vG {bb:Type} {aB aE aK P3 a5 bc bs bE:bb->Prop} {C:Prop} (k:∀J,aB J->aE J->aK J->P3 J->a5 J->bc J->bs J->bE J->C) (h:∃J,aB J/\aE J/\aK J/\P3 J/\a5 J/\bc J/\bs J/\bE J):C:=h.elim λa h=>yS (k a) h
theorem K1 {bb:Type} {aB aE aK P3 a5 bc bs bE cQ:bb->Prop} {C:Prop} (k:∀J,aB J->aE J->aK J->P3 J->a5 J->bc J->bs J->bE J->cQ J->C) (h:∃J,aB J/\aE J/\aK J/\P3 J/\a5 J/\bc J/\bs J/\bE J/\cQ J):C:=h.elim λa h=>D2 (k a) h
theorem KX {bb:Type} {aB aE aK P3 a5 bc bs bE cQ d1:bb->Prop} {C:Prop} (k:∀J,aB J->aE J->aK J->P3 J->a5 J->bc J->bs J->bE J->cQ J->d1 J->C) (h:∃J,aB J/\aE J/\aK J/\P3 J/\a5 J/\bc J/\bs J/\bE J/\cQ J/\d1 J):C:=h.elim λa h=>D1 (k a) h
theorem KY {bb:Type} {aB aE aK P3 a5 bc bs bE cQ d1 jO:bb->Prop} {C:Prop} (k:∀J,aB J->aE J->aK J->P3 J->a5 J->bc J->bs J->bE J->cQ J->d1 J->jO J->C) (h:∃J,aB J/\aE J/\aK J/\P3 J/\a5 J/\bc J/\bs J/\bE J/\cQ J/\d1 J/\jO J):C:=h.elim λa h=>KW (k a) h
theorem mo {bb bz:Type} {aB:bb->bz->Prop} {C:Prop} (k:∀J O,aB J O->C) (h:∃J,∃O,aB J O):C:=h.elim λa h=>d7 (k a) h
theorem lF {bb bz:Type} {aB aE:bb->bz->Prop} {C:Prop} (k:∀J O,aB J O->aE J O->C) (h:∃J,∃O,aB J O/\aE J O):C:=h.elim λa h=>eQ (k a) h
theorem D6 {bb bz:Type} {aB aE aK:bb->bz->Prop} {C:Prop} (k:∀J O,aB J O->aE J O->aK J O->C) (h:∃J,∃O,aB J O/\aE J O/\aK J O):C:=h.elim λa h=>hN (k a) h
theorem K3 {bb bz:Type} {aB aE aK P3:bb->bz->Prop} {C:Prop} (k:∀J O,aB J O->aE J O->aK J O->P3 J O->C) (h:∃J,∃O,aB J O/\aE J O/\aK J O/\P3 J O):C:=h.elim λa h=>rl (k a) h
theorem yT {bb bz:Type} {aB aE aK P3 a5:bb->bz->Prop} {C:Prop} (k:∀J O,aB J O->aE J O->aK J O->P3 J O->a5 J O->C) (h:∃J,∃O,aB J O/\aE J O/\aK J O/\P3 J O/\a5 J O):C:=h.elim λa h=>D4 (k a) h
theorem vH {bb bz:Type} {aB aE aK P3 a5 bc:bb->bz->Prop} {C:Prop} (k:∀J O,aB J O->aE J O->aK J O->P3 J O->a5 J O->bc J O->C) (h:∃J,∃O,aB J O/\aE J O/\aK J O/\P3 J O/\a5 J O/\bc J O):C:=h.elim λa h=>KZ (k a) h
theorem rm {bb bz:Type} {aB aE aK P3 a5 bc bs:bb->bz->Prop} {C:Prop} (k:∀J O,aB J O->aE J O->aK J O->P3 J O->a5 J O->bc J O->bs J O->C) (h:∃J,∃O,aB J O/\aE J O/\aK J O/\P3 J O/\a5 J O/\bc J O/\bs J O):C:=h.elim λa h=>K0 (k a) h
theorem D7 {bb bz:Type} {aB aE aK P3 a5 bc bs bE:bb->bz->Prop} {C:Prop} (k:∀J O,aB J O->aE J O->aK J O->P3 J O->a5 J O->bc J O->bs J O->bE J O->C) (h:∃J,∃O,aB J O/\aE J O/\aK J O/\P3 J O/\a5 J O/\bc J O/\bs J O/\bE J O):C:=h.elim λa h=>vG (k a) h
theorem K4 {bb bz:Type} {aB aE aK P3 a5 bc bs bE cQ:bb->bz->Prop} {C:Prop} (k:∀J O,aB J O->aE J O->aK J O->P3 J O->a5 J O->bc J O->bs J O->bE J O->cQ J O->C) (h:∃J,∃O,aB J O/\aE J O/\aK J O/\P3 J O/\a5 J O/\bc J O/\bs J O/\bE J O/\cQ J O):C:=h.elim λa h=>K1 (k a) h
theorem K2 {bb bz:Type} {aB aE aK P3 a5 bc bs bE cQ d1:bb->bz->Prop} {C:Prop} (k:∀J O,aB J O->aE J O->aK J O->P3 J O->a5 J O->bc J O->bs J O->bE J O->cQ J O->d1 J O->C) (h:∃J,∃O,aB J O/\aE J O/\aK J O/\P3 J O/\a5 J O/\bc J O/\bs J O/\bE J O/\cQ J O/\d1 J O):C:=h.elim λa h=>KX (k a) h
theorem D5 {bb bz:Type} {aB aE aK P3 a5 bc bs bE cQ d1 jO:bb->bz->Prop} {C:Prop} (k:∀J O,aB J O->aE J O->aK J O->P3 J O->a5 J O->bc J O->bs J O->bE J O->cQ J O->d1 J O->jO J O->C) (h:∃J,∃O,aB J O/\aE J O/\aK J O/\P3 J O/\a5 J O/\bc J O/\bs J O/\bE J O/\cQ J O/\d1 J O/\jO J O):C:=h.elim λa h=>KY (k a) h
theorem ro {bb bz b7:Type} {aB:bb->bz->b7->Prop} {C:Prop} (k:∀J O ah,aB J O ah->C) (h:∃J,∃O,∃ah,aB J O ah):C:=h.elim λa h=>mo (k a) h
theorem tw {bb bz b7:Type} {aB aE:bb->bz->b7->Prop} {C:Prop} (k:∀J O ah,aB J O ah->aE J O ah->C) (h:∃J,∃O,∃ah,aB J O ah/\aE J O ah):C:=h.elim λa h=>lF (k a) h
theorem oh {bb bz b7:Type} {aB aE aK:bb->bz->b7->Prop} {C:Prop} (k:∀J O ah,aB J O ah->aE J O ah->aK J O ah->C) (h:∃J,∃O,∃ah,aB J O ah/\aE J O ah/\aK J O ah):C:=h.elim λa h=>D6 (k a) h
theorem K6 {bb bz b7:Type} {aB aE aK P3 a5:bb->bz->b7->Prop} {C:Prop} (k:∀J O ah,aB J O ah->aE J O ah->aK J O ah->P3 J O ah->a5 J O ah->C) (h:∃J,∃O,∃ah,aB J O ah/\aE J O ah/\aK J O ah/\P3 J O ah/\a5 J O ah):C:=h.elim λa h=>yT (k a) h
theorem D' {bb bz b7:Type} {aB aE aK P3 a5 bc:bb->bz->b7->Prop} {C:Prop} (k:∀J O ah,aB J O ah->aE J O ah->aK J O ah->P3 J O ah->a5 J O ah->bc J O ah->C) (h:∃J,∃O,∃ah,aB J O ah/\aE J O ah/\aK J O ah/\P3 J O ah/\a5 J O ah/\bc J O ah):C:=h.elim λa h=>vH (k a) h
theorem Ea {bb bz b7:Type} {aB aE aK P3 a5 bc bs:bb->bz->b7->Prop} {C:Prop} (k:∀J O ah,aB J O ah->aE J O ah->aK J O ah->P3 J O ah->a5 J O ah->bc J O ah->bs J O ah->C) (h:∃J,∃O,∃ah,aB J O ah/\aE J O ah/\aK J O ah/\P3 J O ah/\a5 J O ah/\bc J O ah/\bs J O ah):C:=h.elim λa h=>rm (k a) h
theorem yU {bb bz b7:Type} {aB aE aK P3 a5 bc bs bE:bb->bz->b7->Prop} {C:Prop} (k:∀J O ah,aB J O ah->aE J O ah->aK J O ah->P3 J O ah->a5 J O ah->bc J O ah->bs J O ah->bE J O ah->C) (h:∃J,∃O,∃ah,aB J O ah/\aE J O ah/\aK J O ah/\P3 J O ah/\a5 J O ah/\bc J O ah/\bs J O ah/\bE J O ah):C:=h.elim λa h=>D7 (k a) h
theorem K7 {bb bz b7:Type} {aB aE aK P3 a5 bc bs bE cQ:bb->bz->b7->Prop} {C:Prop} (k:∀J O ah,aB J O ah->aE J O ah->aK J O ah->P3 J O ah->a5 J O ah->bc J O ah->bs J O ah->bE J O ah->cQ J O ah->C) (h:∃J,∃O,∃ah,aB J O ah/\aE J O ah/\aK J O ah/\P3 J O ah/\a5 J O ah/\bc J O ah/\bs J O ah/\bE J O ah/\cQ J O ah):C:=h.elim λa h=>K4 (k a) h
theorem K5 {bb bz b7:Type} {aB aE aK P3 a5 bc bs bE cQ d1:bb->bz->b7->Prop} {C:Prop} (k:∀J O ah,aB J O ah->aE J O ah->aK J O ah->P3 J O ah->a5 J O ah->bc J O ah->bs J O ah->bE J O ah->cQ J O ah->d1 J O ah->C) (h:∃J,∃O,∃ah,aB J O ah/\aE J O ah/\aK J O ah/\P3 J O ah/\a5 J O ah/\bc J O ah/\bs J O ah/\bE J O ah/\cQ J O ah/\d1 J O ah):C:=h.elim λa h=>K2 (k a) h
theorem D9 {bb bz b7:Type} {aB aE aK P3 a5 bc bs bE cQ d1 jO:bb->bz->b7->Prop} {C:Prop} (k:∀J O ah,aB J O ah->aE J O ah->aK J O ah->P3 J O ah->a5 J O ah->bc J O ah->bs J O ah->bE J O ah->cQ J O ah->d1 J O ah->jO J O ah->C) (h:∃J,∃O,∃ah,aB J O ah/\aE J O ah/\aK J O ah/\P3 J O ah/\a5 J O ah/\bc J O ah/\bs J O ah/\bE J O ah/\cQ J O ah/\d1 J O ah/\jO J O ah):C:=h.elim λa h=>D5 (k a) h
theorem pL {bb bz b7 di:Type} {aB:bb->bz->b7->di->Prop} {C:Prop} (k:∀J O ah au,aB J O ah au->C) (h:∃J,∃O,∃ah,∃au,aB J O ah au):C:=h.elim λa h=>ro (k a) h
theorem K' {bb bz b7 di:Type} {aB aE:bb->bz->b7->di->Prop} {C:Prop} (k:∀J O ah au,aB J O ah au->aE J O ah au->C) (h:∃J,∃O,∃ah,∃au,aB J O ah au/\aE J O ah au):C:=h.elim λa h=>tw (k a) h
theorem yW {bb bz b7 di:Type} {aB aE aK:bb->bz->b7->di->Prop} {C:Prop} (k:∀J O ah au,aB J O ah au->aE J O ah au->aK J O ah au->C) (h:∃J,∃O,∃ah,∃au,aB J O ah au/\aE J O ah au/\aK J O ah au):C:=h.elim λa h=>oh (k a) h
theorem La {bb bz b7 di:Type} {aB aE aK P3 a5 bc:bb->bz->b7->di->Prop} {C:Prop} (k:∀J O ah au,aB J O ah au->aE J O ah au->aK J O ah au->P3 J O ah au->a5 J O ah au->bc J O ah au->C) (h:∃J,∃O,∃ah,∃au,aB J O ah au/\aE J O ah au/\aK J O ah au/\P3 J O ah au/\a5 J O ah au/\bc J O ah au):C:=h.elim λa h=>D' (k a) h
theorem Lb {bb bz b7 di:Type} {aB aE aK P3 a5 bc bs:bb->bz->b7->di->Prop} {C:Prop} (k:∀J O ah au,aB J O ah au->aE J O ah au->aK J O ah au->P3 J O ah au->a5 J O ah au->bc J O ah au->bs J O ah au->C) (h:∃J,∃O,∃ah,∃au,aB J O ah au/\aE J O ah au/\aK J O ah au/\P3 J O ah au/\a5 J O ah au/\bc J O ah au/\bs J O ah au):C:=h.elim λa h=>Ea (k a) h
theorem Eb {bb bz b7 di:Type} {aB aE aK P3 a5 bc bs bE:bb->bz->b7->di->Prop} {C:Prop} (k:∀J O ah au,aB J O ah au->aE J O ah au->aK J O ah au->P3 J O ah au->a5 J O ah au->bc J O ah au->bs J O ah au->bE J O ah au->C) (h:∃J,∃O,∃ah,∃au,aB J O ah au/\aE J O ah au/\aK J O ah au/\P3 J O ah au/\a5 J O ah au/\bc J O ah au/\bs J O ah au/\bE J O ah au):C:=h.elim λa h=>yU (k a) h
theorem Lc {bb bz b7 di:Type} {aB aE aK P3 a5 bc bs bE cQ:bb->bz->b7->di->Prop} {C:Prop} (k:∀J O ah au,aB J O ah au->aE J O ah au->aK J O ah au->P3 J O ah au->a5 J O ah au->bc J O ah au->bs J O ah au->bE J O ah au->cQ J O ah au->C) (h:∃J,∃O,∃ah,∃au,aB J O ah au/\aE J O ah au/\aK J O ah au/\P3 J O ah au/\a5 J O ah au/\bc J O ah au/\bs J O ah au/\bE J O ah au/\cQ J O ah au):C:=h.elim λa h=>K7 (k a) h
theorem K9 {bb bz b7 di:Type} {aB aE aK P3 a5 bc bs bE cQ d1:bb->bz->b7->di->Prop} {C:Prop} (k:∀J O ah au,aB J O ah au->aE J O ah au->aK J O ah au->P3 J O ah au->a5 J O ah au->bc J O ah au->bs J O ah au->bE J O ah au->cQ J O ah au->d1 J O ah au->C) (h:∃J,∃O,∃ah,∃au,aB J O ah au/\aE J O ah au/\aK J O ah au/\P3 J O ah au/\a5 J O ah au/\bc J O ah au/\bs J O ah au/\bE J O ah au/\cQ J O ah au/\d1 J O ah au):C:=h.elim λa h=>K5 (k a) h
theorem Le {bb bz b7 di e0:Type} {aB aE:bb->bz->b7->di->e0->Prop} {C:Prop} (k:∀J O ah au ay,aB J O ah au ay->aE J O ah au ay->C) (h:∃J,∃O,∃ah,∃au,∃ay,aB J O ah au ay/\aE J O ah au ay):C:=h.elim λa h=>K' (k a) h
theorem Ec {bb bz b7 di e0:Type} {aB aE aK P3 a5 bc bs bE:bb->bz->b7->di->e0->Prop} {C:Prop} (k:∀J O ah au ay,aB J O ah au ay->aE J O ah au ay->aK J O ah au ay->P3 J O ah au ay->a5 J O ah au ay->bc J O ah au ay->bs J O ah au ay->bE J O ah au ay->C) (h:∃J,∃O,∃ah,∃au,∃ay,aB J O ah au ay/\aE J O ah au ay/\aK J O ah au ay/\P3 J O ah au ay/\a5 J O ah au ay/\bc J O ah au ay/\bs J O ah au ay/\bE J O ah au ay):C:=h.elim λa h=>Eb (k a) h
theorem Lf {bb bz b7 di e0:Type} {aB aE aK P3 a5 bc bs bE cQ:bb->bz->b7->di->e0->Prop} {C:Prop} (k:∀J O ah au ay,aB J O ah au ay->aE J O ah au ay->aK J O ah au ay->P3 J O ah au ay->a5 J O ah au ay->bc J O ah au ay->bs J O ah au ay->bE J O ah au ay->cQ J O ah au ay->C) (h:∃J,∃O,∃ah,∃au,∃ay,aB J O ah au ay/\aE J O ah au ay/\aK J O ah au ay/\P3 J O ah au ay/\a5 J O ah au ay/\bc J O ah au ay/\bs J O ah au ay/\bE J O ah au ay/\cQ J O ah au ay):C:=h.elim λa h=>Lc (k a) h
theorem Ld {bb bz b7 di e0:Type} {aB aE aK P3 a5 bc bs bE cQ d1:bb->bz->b7->di->e0->Prop} {C:Prop} (k:∀J O ah au ay,aB J O ah au ay->aE J O ah au ay->aK J O ah au ay->P3 J O ah au ay->a5 J O ah au ay->bc J O ah au ay->bs J O ah au ay->bE J O ah au ay->cQ J O ah au ay->d1 J O ah au ay->C) (h:∃J,∃O,∃ah,∃au,∃ay,aB J O ah au ay/\aE J O ah au ay/\aK J O ah au ay/\P3 J O ah au ay/\a5 J O ah au ay/\bc J O ah au ay/\bs J O ah au ay/\bE J O ah au ay/\cQ J O ah au ay/\d1 J O ah au ay):C:=h.elim λa h=>K9 (k a) h
theorem Li {bb bz b7 di e0 gQ:Type} {aB aE:bb->bz->b7->di->e0->gQ->Prop} {C:Prop} (k:∀J O ah au ay aQ,aB J O ah au ay aQ->aE J O ah au ay aQ->C) (h:∃J,∃O,∃ah,∃au,∃ay,∃aQ,aB J O ah au ay aQ/\aE J O ah au ay aQ):C:=h.elim λa h=>Le (k a) h
theorem Lj {bb bz b7 di e0 gQ:Type} {aB aE aK P3 a5 bc bs bE:bb->bz->b7->di->e0->gQ->Prop} {C:Prop} (k:∀J O ah au ay aQ,aB J O ah au ay aQ->aE J O ah au ay aQ->aK J O ah au ay aQ->P3 J O ah au ay aQ->a5 J O ah au ay aQ->bc J O ah au ay aQ->bs J O ah au ay aQ->bE J O ah au ay aQ->C) (h:∃J,∃O,∃ah,∃au,∃ay,∃aQ,aB J O ah au ay aQ/\aE J O ah au ay aQ/\aK J O ah au ay aQ/\P3 J O ah au ay aQ/\a5 J O ah au ay aQ/\bc J O ah au ay aQ/\bs J O ah au ay aQ/\bE J O ah au ay aQ):C:=h.elim λa h=>Ec (k a) h
theorem Lk {bb bz b7 di e0 gQ:Type} {aB aE aK P3 a5 bc bs bE cQ:bb->bz->b7->di->e0->gQ->Prop} {C:Prop} (k:∀J O ah au ay aQ,aB J O ah au ay aQ->aE J O ah au ay aQ->aK J O ah au ay aQ->P3 J O ah au ay aQ->a5 J O ah au ay aQ->bc J O ah au ay aQ->bs J O ah au ay aQ->bE J O ah au ay aQ->cQ J O ah au ay aQ->C) (h:∃J,∃O,∃ah,∃au,∃ay,∃aQ,aB J O ah au ay aQ/\aE J O ah au ay aQ/\aK J O ah au ay aQ/\P3 J O ah au ay aQ/\a5 J O ah au ay aQ/\bc J O ah au ay aQ/\bs J O ah au ay aQ/\bE J O ah au ay aQ/\cQ J O ah au ay aQ):C:=h.elim λa h=>Lf (k a) h
theorem Lh {bb bz b7 di e0 gQ:Type} {aB aE aK P3 a5 bc bs bE cQ d1:bb->bz->b7->di->e0->gQ->Prop} {C:Prop} (k:∀J O ah au ay aQ,aB J O ah au ay aQ->aE J O ah au ay aQ->aK J O ah au ay aQ->P3 J O ah au ay aQ->a5 J O ah au ay aQ->bc J O ah au ay aQ->bs J O ah au ay aQ->bE J O ah au ay aQ->cQ J O ah au ay aQ->d1 J O ah au ay aQ->C) (h:∃J,∃O,∃ah,∃au,∃ay,∃aQ,aB J O ah au ay aQ/\aE J O ah au ay aQ/\aK J O ah au ay aQ/\P3 J O ah au ay aQ/\a5 J O ah au ay aQ/\bc J O ah au ay aQ/\bs J O ah au ay aQ/\bE J O ah au ay aQ/\cQ J O ah au ay aQ/\d1 J O ah au ay aQ):C:=h.elim λa h=>Ld (k a) h
theorem Lm {bb bz b7 di e0 gQ mj:Type} {aB aE aK P3 a5 bc bs bE:bb->bz->b7->di->e0->gQ->mj->Prop} {C:Prop} (k:∀J O ah au ay aQ bF,aB J O ah au ay aQ bF->aE J O ah au ay aQ bF->aK J O ah au ay aQ bF->P3 J O ah au ay aQ bF->a5 J O ah au ay aQ bF->bc J O ah au ay aQ bF->bs J O ah au ay aQ bF->bE J O ah au ay aQ bF->C) (h:∃J,∃O,∃ah,∃au,∃ay,∃aQ,∃bF,aB J O ah au ay aQ bF/\aE J O ah au ay aQ bF/\aK J O ah au ay aQ bF/\P3 J O ah au ay aQ bF/\a5 J O ah au ay aQ bF/\bc J O ah au ay aQ bF/\bs J O ah au ay aQ bF/\bE J O ah au ay aQ bF):C:=h.elim λa h=>Lj (k a) h
theorem Ll {bb bz b7 di e0 gQ mj:Type} {aB aE aK P3 a5 bc bs bE cQ d1:bb->bz->b7->di->e0->gQ->mj->Prop} {C:Prop} (k:∀J O ah au ay aQ bF,aB J O ah au ay aQ bF->aE J O ah au ay aQ bF->aK J O ah au ay aQ bF->P3 J O ah au ay aQ bF->a5 J O ah au ay aQ bF->bc J O ah au ay aQ bF->bs J O ah au ay aQ bF->bE J O ah au ay aQ bF->cQ J O ah au ay aQ bF->d1 J O ah au ay aQ bF->C) (h:∃J,∃O,∃ah,∃au,∃ay,∃aQ,∃bF,aB J O ah au ay aQ bF/\aE J O ah au ay aQ bF/\aK J O ah au ay aQ bF/\P3 J O ah au ay aQ bF/\a5 J O ah au ay aQ bF/\bc J O ah au ay aQ bF/\bs J O ah au ay aQ bF/\bE J O ah au ay aQ bF/\cQ J O ah au ay aQ bF/\d1 J O ah au ay aQ bF):C:=h.elim λa h=>Lh (k a) h
theorem Lo {bb bz b7 di e0 gQ mj vy:Type} {aB aE aK P3 a5 bc bs bE:bb->bz->b7->di->e0->gQ->mj->vy->Prop} {C:Prop} (k:∀J O ah au ay aQ bF dq,aB J O ah au ay aQ bF dq->aE J O ah au ay aQ bF dq->aK J O ah au ay aQ bF dq->P3 J O ah au ay aQ bF dq->a5 J O ah au ay aQ bF dq->bc J O ah au ay aQ bF dq->bs J O ah au ay aQ bF dq->bE J O ah au ay aQ bF dq->C) (h:∃J,∃O,∃ah,∃au,∃ay,∃aQ,∃bF,∃dq,aB J O ah au ay aQ bF dq/\aE J O ah au ay aQ bF dq/\aK J O ah au ay aQ bF dq/\P3 J O ah au ay aQ bF dq/\a5 J O ah au ay aQ bF dq/\bc J O ah au ay aQ bF dq/\bs J O ah au ay aQ bF dq/\bE J O ah au ay aQ bF dq):C:=h.elim λa h=>Lm (k a) h
theorem Lp {bb bz b7 di e0 gQ mj vy DH:Type} {aB aE aK P3 a5 bc bs bE:bb->bz->b7->di->e0->gQ->mj->vy->DH->Prop} {C:Prop} (k:∀J O ah au ay aQ bF dq eI,aB J O ah au ay aQ bF dq eI->aE J O ah au ay aQ bF dq eI->aK J O ah au ay aQ bF dq eI->P3 J O ah au ay aQ bF dq eI->a5 J O ah au ay aQ bF dq eI->bc J O ah au ay aQ bF dq eI->bs J O ah au ay aQ bF dq eI->bE J O ah au ay aQ bF dq eI->C) (h:∃J,∃O,∃ah,∃au,∃ay,∃aQ,∃bF,∃dq,∃eI,aB J O ah au ay aQ bF dq eI/\aE J O ah au ay aQ bF dq eI/\aK J O ah au ay aQ bF dq eI/\P3 J O ah au ay aQ bF dq eI/\a5 J O ah au ay aQ bF dq eI/\bc J O ah au ay aQ bF dq eI/\bs J O ah au ay aQ bF dq eI/\bE J O ah au ay aQ bF dq eI):C:=h.elim λa h=>Lo (k a) h
theorem cq {aB aE:Prop} {C:Prop} (h:aB/\aE) (k:aB->aE->C):C:=gT k h
theorem iz {aB aE aK:Prop} {C:Prop} (h:aB/\aE/\aK) (k:aB->aE->aK->C):C:=og k h
theorem vC {aB aE aK P3:Prop} {C:Prop} (h:aB/\aE/\aK/\P3) (k:aB->aE->aK->P3->C):C:=vF k h
theorem DR {aB aE aK P3 a5:Prop} {C:Prop} (h:aB/\aE/\aK/\P3/\a5) (k:aB->aE->aK->P3->a5->C):C:=pK k h
theorem yL {aB aE aK P3 a5 bc bs:Prop} {C:Prop} (h:aB/\aE/\aK/\P3/\a5/\bc/\bs) (k:aB->aE->aK->P3->a5->bc->bs->C):C:=yR k h
theorem yM {aB aE aK P3 a5 bc bs bE:Prop} {C:Prop} (h:aB/\aE/\aK/\P3/\a5/\bc/\bs/\bE) (k:aB->aE->aK->P3->a5->bc->bs->bE->C):C:=yS k h
theorem cH {bb:Type} {aB:bb->Prop} {C:Prop} (h:∃J,aB J) (k:∀J,aB J->C):C:=d7 k h
theorem a2 {bb:Type} {aB aE:bb->Prop} {C:Prop} (h:∃J,aB J/\aE J) (k:∀J,aB J->aE J->C):C:=eQ k h
theorem gk {bb:Type} {aB aE aK:bb->Prop} {C:Prop} (h:∃J,aB J/\aE J/\aK J) (k:∀J,aB J->aE J->aK J->C):C:=hN k h
theorem vD {bb:Type} {aB aE aK P3:bb->Prop} {C:Prop} (h:∃J,aB J/\aE J/\aK J/\P3 J) (k:∀J,aB J->aE J->aK J->P3 J->C):C:=rl k h
theorem tt {bb:Type} {aB aE aK P3 a5:bb->Prop} {C:Prop} (h:∃J,aB J/\aE J/\aK J/\P3 J/\a5 J) (k:∀J,aB J->aE J->aK J->P3 J->a5 J->C):C:=D4 k h
theorem DW {bb:Type} {aB aE aK P3 a5 bc bs bE:bb->Prop} {C:Prop} (h:∃J,aB J/\aE J/\aK J/\P3 J/\a5 J/\bc J/\bs J/\bE J) (k:∀J,aB J->aE J->aK J->P3 J->a5 J->bc J->bs J->bE J->C):C:=vG k h
theorem DX {bb bz:Type} {aB:bb->bz->Prop} {C:Prop} (h:∃J,∃O,aB J O) (k:∀J O,aB J O->C):C:=mo k h
theorem hn {bb bz:Type} {aB aE:bb->bz->Prop} {C:Prop} (h:∃J,∃O,aB J O/\aE J O) (k:∀J O,aB J O->aE J O->C):C:=lF k h
theorem fZ {bb bz:Type} {aB aE aK:bb->bz->Prop} {C:Prop} (h:∃J,∃O,aB J O/\aE J O/\aK J O) (k:∀J O,aB J O->aE J O->aK J O->C):C:=D6 k h
theorem fj {bb bz:Type} {aB aE aK P3:bb->bz->Prop} {C:Prop} (h:∃J,∃O,aB J O/\aE J O/\aK J O/\P3 J O) (k:∀J O,aB J O->aE J O->aK J O->P3 J O->C):C:=K3 k h
theorem KI {bb bz:Type} {aB aE aK P3 a5:bb->bz->Prop} {C:Prop} (h:∃J,∃O,aB J O/\aE J O/\aK J O/\P3 J O/\a5 J O) (k:∀J O,aB J O->aE J O->aK J O->P3 J O->a5 J O->C):C:=yT k h
theorem KJ {bb bz:Type} {aB aE aK P3 a5 bc bs:bb->bz->Prop} {C:Prop} (h:∃J,∃O,aB J O/\aE J O/\aK J O/\P3 J O/\a5 J O/\bc J O/\bs J O) (k:∀J O,aB J O->aE J O->aK J O->P3 J O->a5 J O->bc J O->bs J O->C):C:=rm k h
theorem rg {bb bz:Type} {aB aE aK P3 a5 bc bs bE:bb->bz->Prop} {C:Prop} (h:∃J,∃O,aB J O/\aE J O/\aK J O/\P3 J O/\a5 J O/\bc J O/\bs J O/\bE J O) (k:∀J O,aB J O->aE J O->aK J O->P3 J O->a5 J O->bc J O->bs J O->bE J O->C):C:=D7 k h
theorem KH {bb bz:Type} {aB aE aK P3 a5 bc bs bE cQ d1 jO:bb->bz->Prop} {C:Prop} (h:∃J,∃O,aB J O/\aE J O/\aK J O/\P3 J O/\a5 J O/\bc J O/\bs J O/\bE J O/\cQ J O/\d1 J O/\jO J O) (k:∀J O,aB J O->aE J O->aK J O->P3 J O->a5 J O->bc J O->bs J O->bE J O->cQ J O->d1 J O->jO J O->C):C:=D5 k h
theorem KL {bb bz b7:Type} {aB:bb->bz->b7->Prop} {C:Prop} (h:∃J,∃O,∃ah,aB J O ah) (k:∀J O ah,aB J O ah->C):C:=ro k h
theorem kW {bb bz b7:Type} {aB aE:bb->bz->b7->Prop} {C:Prop} (h:∃J,∃O,∃ah,aB J O ah/\aE J O ah) (k:∀J O ah,aB J O ah->aE J O ah->C):C:=tw k h
theorem oe {bb bz b7:Type} {aB aE aK:bb->bz->b7->Prop} {C:Prop} (h:∃J,∃O,∃ah,aB J O ah/\aE J O ah/\aK J O ah) (k:∀J O ah,aB J O ah->aE J O ah->aK J O ah->C):C:=oh k h
theorem KN {bb bz b7:Type} {aB aE aK P3 a5:bb->bz->b7->Prop} {C:Prop} (h:∃J,∃O,∃ah,aB J O ah/\aE J O ah/\aK J O ah/\P3 J O ah/\a5 J O ah) (k:∀J O ah,aB J O ah->aE J O ah->aK J O ah->P3 J O ah->a5 J O ah->C):C:=K6 k h
theorem vE {bb bz b7:Type} {aB aE aK P3 a5 bc:bb->bz->b7->Prop} {C:Prop} (h:∃J,∃O,∃ah,aB J O ah/\aE J O ah/\aK J O ah/\P3 J O ah/\a5 J O ah/\bc J O ah) (k:∀J O ah,aB J O ah->aE J O ah->aK J O ah->P3 J O ah->a5 J O ah->bc J O ah->C):C:=D' k h
theorem DY {bb bz b7:Type} {aB aE aK P3 a5 bc bs:bb->bz->b7->Prop} {C:Prop} (h:∃J,∃O,∃ah,aB J O ah/\aE J O ah/\aK J O ah/\P3 J O ah/\a5 J O ah/\bc J O ah/\bs J O ah) (k:∀J O ah,aB J O ah->aE J O ah->aK J O ah->P3 J O ah->a5 J O ah->bc J O ah->bs J O ah->C):C:=Ea k h
theorem rh {bb bz b7:Type} {aB aE aK P3 a5 bc bs bE:bb->bz->b7->Prop} {C:Prop} (h:∃J,∃O,∃ah,aB J O ah/\aE J O ah/\aK J O ah/\P3 J O ah/\a5 J O ah/\bc J O ah/\bs J O ah/\bE J O ah) (k:∀J O ah,aB J O ah->aE J O ah->aK J O ah->P3 J O ah->a5 J O ah->bc J O ah->bs J O ah->bE J O ah->C):C:=yU k h
theorem KO {bb bz b7 di:Type} {aB:bb->bz->b7->di->Prop} {C:Prop} (h:∃J,∃O,∃ah,∃au,aB J O ah au) (k:∀J O ah au,aB J O ah au->C):C:=pL k h
theorem KP {bb bz b7 di:Type} {aB aE aK:bb->bz->b7->di->Prop} {C:Prop} (h:∃J,∃O,∃ah,∃au,aB J O ah au/\aE J O ah au/\aK J O ah au) (k:∀J O ah au,aB J O ah au->aE J O ah au->aK J O ah au->C):C:=yW k h
theorem yN {bb bz b7 di:Type} {aB aE aK P3 a5 bc bs bE:bb->bz->b7->di->Prop} {C:Prop} (h:∃J,∃O,∃ah,∃au,aB J O ah au/\aE J O ah au/\aK J O ah au/\P3 J O ah au/\a5 J O ah au/\bc J O ah au/\bs J O ah au/\bE J O ah au) (k:∀J O ah au,aB J O ah au->aE J O ah au->aK J O ah au->P3 J O ah au->a5 J O ah au->bc J O ah au->bs J O ah au->bE J O ah au->C):C:=Eb k h
theorem KQ {bb bz b7 di e0:Type} {aB aE aK P3 a5 bc bs bE:bb->bz->b7->di->e0->Prop} {C:Prop} (h:∃J,∃O,∃ah,∃au,∃ay,aB J O ah au ay/\aE J O ah au ay/\aK J O ah au ay/\P3 J O ah au ay/\a5 J O ah au ay/\bc J O ah au ay/\bs J O ah au ay/\bE J O ah au ay) (k:∀J O ah au ay,aB J O ah au ay->aE J O ah au ay->aK J O ah au ay->P3 J O ah au ay->a5 J O ah au ay->bc J O ah au ay->bs J O ah au ay->bE J O ah au ay->C):C:=Ec k h
theorem KR {bb bz b7 di e0 gQ:Type} {aB aE:bb->bz->b7->di->e0->gQ->Prop} {C:Prop} (h:∃J,∃O,∃ah,∃au,∃ay,∃aQ,aB J O ah au ay aQ/\aE J O ah au ay aQ) (k:∀J O ah au ay aQ,aB J O ah au ay aQ->aE J O ah au ay aQ->C):C:=Li k h
theorem KS {bb bz b7 di e0 gQ:Type} {aB aE aK P3 a5 bc bs bE cQ:bb->bz->b7->di->e0->gQ->Prop} {C:Prop} (h:∃J,∃O,∃ah,∃au,∃ay,∃aQ,aB J O ah au ay aQ/\aE J O ah au ay aQ/\aK J O ah au ay aQ/\P3 J O ah au ay aQ/\a5 J O ah au ay aQ/\bc J O ah au ay aQ/\bs J O ah au ay aQ/\bE J O ah au ay aQ/\cQ J O ah au ay aQ) (k:∀J O ah au ay aQ,aB J O ah au ay aQ->aE J O ah au ay aQ->aK J O ah au ay aQ->P3 J O ah au ay aQ->a5 J O ah au ay aQ->bc J O ah au ay aQ->bs J O ah au ay aQ->bE J O ah au ay aQ->cQ J O ah au ay aQ->C):C:=Lk k h
theorem yO {bb bz b7 di e0 gQ mj:Type} {aB aE aK P3 a5 bc bs bE cQ d1:bb->bz->b7->di->e0->gQ->mj->Prop} {C:Prop} (h:∃J,∃O,∃ah,∃au,∃ay,∃aQ,∃bF,aB J O ah au ay aQ bF/\aE J O ah au ay aQ bF/\aK J O ah au ay aQ bF/\P3 J O ah au ay aQ bF/\a5 J O ah au ay aQ bF/\bc J O ah au ay aQ bF/\bs J O ah au ay aQ bF/\bE J O ah au ay aQ bF/\cQ J O ah au ay aQ bF/\d1 J O ah au ay aQ bF) (k:∀J O ah au ay aQ bF,aB J O ah au ay aQ bF->aE J O ah au ay aQ bF->aK J O ah au ay aQ bF->P3 J O ah au ay aQ bF->a5 J O ah au ay aQ bF->bc J O ah au ay aQ bF->bs J O ah au ay aQ bF->bE J O ah au ay aQ bF->cQ J O ah au ay aQ bF->d1 J O ah au ay aQ bF->C):C:=Ll k h
theorem KV {bb bz b7 di e0 gQ mj vy DH:Type} {aB aE aK P3 a5 bc bs bE:bb->bz->b7->di->e0->gQ->mj->vy->DH->Prop} {C:Prop} (h:∃J,∃O,∃ah,∃au,∃ay,∃aQ,∃bF,∃dq,∃eI,aB J O ah au ay aQ bF dq eI/\aE J O ah au ay aQ bF dq eI/\aK J O ah au ay aQ bF dq eI/\P3 J O ah au ay aQ bF dq eI/\a5 J O ah au ay aQ bF dq eI/\bc J O ah au ay aQ bF dq eI/\bs J O ah au ay aQ bF dq eI/\bE J O ah au ay aQ bF dq eI) (k:∀J O ah au ay aQ bF dq eI,aB J O ah au ay aQ bF dq eI->aE J O ah au ay aQ bF dq eI->aK J O ah au ay aQ bF dq eI->P3 J O ah au ay aQ bF dq eI->a5 J O ah au ay aQ bF dq eI->bc J O ah au ay aQ bF dq eI->bs J O ah au ay aQ bF dq eI->bE J O ah au ay aQ bF dq eI->C):C:=Lp k h
end
section
open PySem PySem.W PySem.W.X PyProof.Rows PySem.Calls PySem.SeqAt
noncomputable abbrev er:=Int ⊕ Str
noncomputable def T3:er->Value->Bool
 | .inl i,v=>Value.isInt i v
 | .inr x,v=>Value.isStrOf x v
theorem Hq {k:Int} {x:Str} {v:Value} (h:Value.isInt k v=true) (h':Value.isStrOf x v=true):False:=by
 refine cH (Value.isInt_shape h) λt bl=>?_;subst bl
 cases h'
noncomputable def l0 (prog:Program) (w:World):KeyKind prog w er where
 is:=T3
 hash:=λk=>match k with | .inl i=>hashInt i | .inr x=>hashStr w x
 inj:=λv a b bw aA=>by
  cases a <;> cases b
  .exact congrArg _ (Value.isInt_inj v _ _ bw aA)
  .exact (Hq bw aA).elim
  .exact (Hq aA bw).elim
  .exact congrArg _ (Value.isStrOf_inj v _ _ bw aA)
 byValue:=λk v h=>by
  cases k with
  | inl i=>refine cH (Value.isInt_shape h) λt bl=>?_;subst bl;rfl
  | inr x=>refine cH (Value.isStrOf_shape h) λt bl=>?_;subst bl;rfl
 pyHash:=λ{A E s k v Q} aI h=>by
  cases k with
  | inl i=>refine cH (Value.isInt_shape aI) λt bl=>?_;subst bl;exact wpAny_pyHash_int h
  | inr x=>refine cH (Value.isStrOf_shape aI) λt bl=>?_;subst bl;exact wpAny_pyHash_str h
 eqBool:=λ{A E s a b bA v Q} dD aI h=>by
  cases a with
  | inl i=>
   refine cH (Value.isInt_shape dD) λt bl=>?_;subst bl
   cases b with
   | inl j=>
    refine cH (Value.isInt_shape aI) λmd bl=>?_;subst bl;refine wpAny_eqBool_int ?_;have:decide ((Sum.inl i:er)=.inl j)=(i == j):=by
     by_cases q:i=j
     .subst q;simp
     .simp [q]
    rw [<- this];exact h
   | inr y=>
    refine cH (Value.isStrOf_shape aI) λmd bl=>?_;subst bl;exact EqAt.int_str i t y md prog w E Q (by simpa using h)
  | inr x=>
   refine cH (Value.isStrOf_shape dD) λt bl=>?_;subst bl
   cases b with
   | inl j=>
    refine cH (Value.isInt_shape aI) λmd bl=>?_;subst bl;exact EqAt.str_int x t j md prog w E Q (by simpa using h)
   | inr y=>
    refine cH (Value.isStrOf_shape aI) λmd bl=>?_;subst bl;exact wpAny_eqBool_str (by simpa using h)
 «strs» :=λk x t v h=>by
  cases k with
  | inl i=>cases h
  | inr y=>
   refine cH (Value.isStrOf_shape (show Value.isStrOf y (.str x t)=true from h)) λbA dD=>?_;injection dD with ax;subst ax
   cases v <;> rfl
end
section
open PySem PySem.W PySem.W.X PyProof.Rows PySem.Calls
open Mine (br KT)
set_option genInjectivity true in
inductive V where
 | none | bool (b:Bool) | int (i:Int) | str (l:List Nat) | tup (l:List V) | ap (l:List V) | de (a b c:Int) | ref (i:Nat) | hole | con (v:Value) | u
set_option genInjectivity true in
inductive az where
 | list (l:List V) | dict (es:List (V×V)) | inst (C:Nat) (fs:List V) | bB
theorem bU {aS:Type} {a:aS} {C:Prop} (e:none=some a):C:=nomatch e
section
variable {aS a0:Type} {r:a0}
theorem dM {a b:Option a0} {C:Prop} (cz:a=some r->C) (dB:b=some r->C) (e:a.or b=some r):C:=by
 cases a with
 | none=>exact dB e
 | some _=>exact cz e
theorem ds {c:Prop} [Decidable c] {a:Option a0} {C:Prop} (k:c->a=some r->C) (e:(if c then a else none)=some r):C:=by
 by_cases bj:c
 .rw [if_pos bj] at e;exact k bj e
 .rw [if_neg bj] at e;exact bU e
theorem BK {p q:Prop} [Decidable p] [Decidable q] {a:Option a0} {C:Prop} (k:p->q->a=some r->C) (e:(if (decide p && decide q)=true then a else none)=some r):C:=
 ds (λh=>k (of_decide_eq_true (Bool.and_eq_true_iff.mp h).1) (of_decide_eq_true (Bool.and_eq_true_iff.mp h).2)) e
noncomputable def fI (a:Option a0) (f:aS->List aS->Option a0):List aS->Option a0
 | []=>a
 | x::l=>f x l
noncomputable def iq (f:aS->Option a0):List aS->Option a0:=fI none λa=>fI (f a) λ_ _=>none
noncomputable def n1 (f:aS->aS->Option a0):List aS->Option a0:=fI none λa=>iq (f a)
noncomputable def CS (f:aS->aS->aS->Option a0):List aS->Option a0:=fI none λa=>n1 (f a)
@[elab_as_elim] theorem CR {f:aS->Option a0} {l:List aS} {K:List aS->Prop} (k:∀a,f a=some r->K [a]) (e:iq f l=some r):K l:=by
 cases l with
 | nil=>exact bU e
 | cons a l=>cases l with
  | nil=>exact k a e
  | cons _ _=>exact bU e
noncomputable def fV (f:Int->Option a0) (v:V):Option a0:=@V.casesOn.{1} (λ_=>Option a0) v none (λ_=>none) f (λ_=>none) (λ_=>none) (λ_=>none) (λ_ _ _=>none) (λ_=>none) none (λ_=>none) none
noncomputable def gA (f:List Nat->Option a0) (v:V):Option a0:=@V.casesOn.{1} (λ_=>Option a0) v none (λ_=>none) (λ_=>none) f (λ_=>none) (λ_=>none) (λ_ _ _=>none) (λ_=>none) none (λ_=>none) none
noncomputable def m2 (f:Bool->Option a0) (v:V):Option a0:=@V.casesOn.{1} (λ_=>Option a0) v none f (λ_=>none) (λ_=>none) (λ_=>none) (λ_=>none) (λ_ _ _=>none) (λ_=>none) none (λ_=>none) none
noncomputable def mg (f:Option a0) (v:V):Option a0:=@V.casesOn.{1} (λ_=>Option a0) v f (λ_=>none) (λ_=>none) (λ_=>none) (λ_=>none) (λ_=>none) (λ_ _ _=>none) (λ_=>none) none (λ_=>none) none
noncomputable def m4 (f:List V->Option a0) (v:V):Option a0:=@V.casesOn.{1} (λ_=>Option a0) v none (λ_=>none) (λ_=>none) (λ_=>none) f (λ_=>none) (λ_ _ _=>none) (λ_=>none) none (λ_=>none) none
noncomputable def m3 (f:List V->Option a0) (v:V):Option a0:=@V.casesOn.{1} (λ_=>Option a0) v none (λ_=>none) (λ_=>none) (λ_=>none) (λ_=>none) f (λ_ _ _=>none) (λ_=>none) none (λ_=>none) none
noncomputable def th (f:Nat->Option a0) (v:V):Option a0:=@V.casesOn.{1} (λ_=>Option a0) v none (λ_=>none) (λ_=>none) (λ_=>none) (λ_=>none) (λ_=>none) (λ_ _ _=>none) f none (λ_=>none) none
noncomputable def vo (f:Int->Int->Int->Option a0) (v:V):Option a0:=@V.casesOn.{1} (λ_=>Option a0) v none (λ_=>none) (λ_=>none) (λ_=>none) (λ_=>none) (λ_=>none) f (λ_=>none) none (λ_=>none) none
noncomputable def tg (f:Value->Option a0) (v:V):Option a0:=@V.casesOn.{1} (λ_=>Option a0) v none (λ_=>none) (λ_=>none) (λ_=>none) (λ_=>none) (λ_=>none) (λ_ _ _=>none) (λ_=>none) none f none
noncomputable def DA (f:Option a0) (v:V):Option a0:=@V.casesOn.{1} (λ_=>Option a0) v none (λ_=>none) (λ_=>none) (λ_=>none) (λ_=>none) (λ_=>none) (λ_ _ _=>none) (λ_=>none) f (λ_=>none) none
variable {v:V}
@[elab_as_elim] theorem ZT {f:Option a0} {K:V->Prop} (k:f=some r->K .hole) (e:DA f v=some r):K v:=by
 cases v <;> first | exact bU e | exact k e
@[elab_as_elim] theorem vp {f:Int->Option a0} {K:V->Prop} (k:∀i,f i=some r->K (.int i)) (e:fV f v=some r):K v:=by
 cases v <;> first | exact bU e | exact k _ e
@[elab_as_elim] theorem vu {f:List Nat->Option a0} {K:V->Prop} (k:∀i,f i=some r->K (.str i)) (e:gA f v=some r):K v:=by
 cases v <;> first | exact bU e | exact k _ e
@[elab_as_elim] theorem Dz {f:Bool->Option a0} {K:V->Prop} (k:∀i,f i=some r->K (.bool i)) (e:m2 f v=some r):K v:=by
 cases v <;> first | exact bU e | exact k _ e
@[elab_as_elim] theorem DB {f:List V->Option a0} {K:V->Prop} (k:∀i,f i=some r->K (.tup i)) (e:m4 f v=some r):K v:=by
 cases v <;> first | exact bU e | exact k _ e
@[elab_as_elim] theorem vn {f:List V->Option a0} {K:V->Prop} (k:∀i,f i=some r->K (.ap i)) (e:m3 f v=some r):K v:=by
 cases v <;> first | exact bU e | exact k _ e
@[elab_as_elim] theorem vr {f:Nat->Option a0} {K:V->Prop} (k:∀i,f i=some r->K (.ref i)) (e:th f v=some r):K v:=by
 cases v <;> first | exact bU e | exact k _ e
@[elab_as_elim] theorem ZQ {f:Value->Option a0} {K:V->Prop} (k:∀i,f i=some r->K (.con i)) (e:tg f v=some r):K v:=by
 cases v <;> first | exact bU e | exact k _ e
@[elab_as_elim] theorem yx {f:Option a0} {K:V->Prop} (k:f=some r->K .none) (e:mg f v=some r):K v:=by
 cases v <;> first | exact bU e | exact k e
@[elab_as_elim] theorem Kk {f:Int->Int->Int->Option a0} {K:V->Prop} (k:∀a b c,f a b c=some r->K (.de a b c)) (e:vo f v=some r):K v:=by
 cases v <;> first | exact bU e | exact k _ _ _ e
end
noncomputable abbrev am:=List az
noncomputable abbrev eu:=List (Option (Addr×Addr))
noncomputable def foot (ae:eu) (a:Addr):Prop:=∃(i:Nat) (q:Addr×Addr),ae[i]? =some (some q)/\(a=q.1\/a=q.2)
noncomputable def big:Nat:=1000
noncomputable def tO:Addr:=203
noncomputable def hB:Nat->List Str
 | 181=>["value","holders","types"]
 | 203=>["was_unset"]
 | 316=>["is_packed","keys","vals","heads","nexts","size","count","next","at","is_shared","walks"]
 | 823=>["func","this","cls","static","vars","args"]
 | 922=>["tools","evals","execs","top","frame","notes","silent","parts","buffers","depth","limit","spent","fuel","handles","classes","functions","constants","autoload_order","made","is_strict"]
 | _=>[]
inductive aO (ae:eu) (h:Heap):V->Value->Prop
 | none:aO ae h .none .none
 | bool (b:Bool):aO ae h (.bool b) (.bool b)
 | int (i:Int) (t:Tok):aO ae h (.int i) (.int i t)
 | str (x:Str) (l:List Nat) (t:Tok):x.cps.toList=l->l.length<=big->aO ae h (.str l) (.str x t)
 | tup (l:List V) (items:List Value) (a:Addr):¬foot ae a->IsTup h a items.toArray->l.length<=big->l.length=items.length->
   (∀(k:Nat) (v:V) (cv:Value),l[k]? =some v->items[k]? =some cv->aO ae h v cv)->aO ae h (.tup l) (.ref a)
 | ap (l:List V) (items:List Value) (a:Addr):¬foot ae a->h.IsList a items.toArray->l.length<=big->l.length=items.length->
   (∀(k:Nat) (v:V) (cv:Value),l[k]? =some v->items[k]? =some cv->aO ae h v cv)->aO ae h (.ap l) (.ref a)
 | de (a b c:Int) (r:Addr) (t bA v:Tok):¬foot ae r->IsRange h r a b c t bA v->aO ae h (.de a b c) (.ref r)
 | ref (i:Nat) (a:Addr):i < ae.length->(∀q:Addr×Addr,ae[i]? =some (some q)->a=q.1)->aO ae h (.ref i) (.ref a)
 | hole (a:Addr) (o:Obj):¬foot ae a->h.get? a=some o->o.cls=.ref tO->o.data=.plain->aO ae h .hole (.ref a)
 | con (v:Value):aO ae h (.con v) v
structure cC (ae:eu) (h:Heap) (l:List V) (items:List Value):Prop where
 len:l.length=items.length
 at_:∀(k:Nat) (v:V) (cv:Value),l[k]? =some v->items[k]? =some cv->aO ae h v cv
theorem cC.nil {ae h}:cC ae h [] []:=⟨rfl,λk v cv e=>by simp at e⟩
theorem cC.cons {ae h v cv l cl} (a:aO ae h v cv) (b:cC ae h l cl):cC ae h (v::l) (cv::cl):=by
 refine ⟨by simp [b.len],λk tf Ou e bH=>?_⟩
 cases k with
 | zero=>simp at e bH;subst e;subst bH;exact a
 | succ k=>simp at e bH;exact b.at_ k _ _ e bH
theorem cC.q8 {ae h v l c} (r:cC ae h (v::l) c):∃cv cl,c=cv::cl/\aO ae h v cv/\cC ae h l cl:=by
 cases c with
 | nil=>have:=r.len;simp at this
 | cons cv cl=>
  refine ⟨cv,cl,rfl,r.at_ 0 _ _ rfl rfl,⟨by have:=r.len;simpa using this,λk tf Ou e bH=>r.at_ (k+1) _ _ ?_ ?_⟩⟩ <;> simpa
theorem cC.get {ae h l cl} {k:Nat} {v:V} (r:cC ae h l cl) (e:l[k]? =some v):∃cv,cl[k]? =some cv/\aO ae h v cv:=by
 have hk:=(List.getElem?_eq_some_iff.mp e).1;have ii:k < cl.length:=by rw [<- r.len];exact hk
 exact ⟨cl[k],List.getElem?_eq_getElem ii,r.at_ k _ _ e (List.getElem?_eq_getElem ii)⟩
theorem cC.append {ae h l cl l' Fj} (a:cC ae h l cl) (b:cC ae h l' Fj):cC ae h (l++l') (cl++Fj):=by
 refine ⟨by simp [a.len,b.len],λk v cv e bH=>?_⟩;rw [List.getElem?_append] at e bH;rw [a.len] at e;split at e
 .rename_i q;rw [if_pos q] at bH;exact a.at_ _ _ _ e bH
 .rename_i q;rw [if_neg q] at bH;exact b.at_ _ _ _ e bH
theorem cC.set {ae h l cl v cv} (a:cC ae h l cl) (b:aO ae h v cv) (k:Nat):cC ae h (l.set k v) (cl.set k cv):=by
 refine ⟨by simp [a.len],λj w cF e bH=>?_⟩;rw [List.getElem?_set] at e bH;rw [a.len] at e;split at e
 .rename_i q;rw [if_pos q] at bH;split at e
  .rename_i dt;rw [if_pos dt] at bH;cases e;cases bH;exact b
  .cases e
 .rename_i q;rw [if_neg q] at bH;exact a.at_ _ _ _ e bH
structure i5 (ae:eu) (h:Heap) (C:Nat) (fs:List V) (es:List DictEntry):Prop where
 len:fs.length=es.length
 le:fs.length<=(hB C).length
 at_:∀(k:Nat) (v:V) (x:Str) (e:DictEntry),fs[k]? =some v->(hB C)[k]? =some x->es[k]? =some e->(∃t,e.key=.str x t)/\aO ae h v e.val
noncomputable def jy (es:List DictEntry) (n:Nat):Obj:={cls:=.type "dict",data:=.dict es.toArray n}
noncomputable def je (v:V):Option er:=(fV (λi=>some (.inl i)) v).or (gA (λl=>some (.inr ⟨l.toArray⟩)) v)
structure e9 (ae:eu) (h:Heap) (l:List (V×V)) (bT:List (er×Value)):Prop where
 len:l.length=bT.length
 small:l.length<=big
 at_:∀(k:Nat) (dA:V×V) (e:er×Value),l[k]? =some dA->bT[k]? =some e->je dA.1=some e.1/\aO ae h dA.2 e.2
inductive gC (w:World) (ae:eu) (h:Heap) (q:Addr×Addr):az->Prop
 | list (l:List V) (items:List Value) (n:Nat):q.2=q.1->h.get? q.1=some (lobj items n)->cC ae h l items->l.length<=big->gC w ae h q (.list l)
 | dict (l:List (V×V)) (bT:List (er×Value)):q.2=q.1->h.DictOf (l0 br w) q.1 bT->e9 ae h l bT->gC w ae h q (.dict l)
 | inst (C:Nat) (fs:List V) (es:List DictEntry) (n:Nat):q.2≠q.1->h.get? q.1=some (instObj C q.2)->h.get? q.2=some (jy es n)->i5 ae h C fs es->gC w ae h q (.inst C fs)
structure db where
 w:World
 h0:Heap
 jv:Str->Option Value
 nV:Str->Option Value
 Vg:OsState
 uw:(KT w.params).In h0
 glob:h0.Ns mainGlobals jv
 MI:h0.Ns builtinsNs nV
 MK:∀x:Str,x≠"__name__"->nV x=bootBuiltins x
 lim:h0.NoLimit
 mods:∃o,h0.get? sysModules=some o
structure Inv (B:db) (ae:eu) (D:am) (s:Shared):Prop where
 len:ae.length=D.length
 obj:∀(i:Nat) (q:Addr×Addr) (o:az),ae[i]? =some (some q)->D[i]? =some o->gC B.w ae s.heap q o
 live:∀(i:Nat) (o:az),D[i]? =some o->ae[i]? =some none->o=.bB
 apart:∀(i j:Nat) (q r:Addr×Addr),ae[i]? =some (some q)->ae[j]? =some (some r)->i≠j->q.1≠r.1/\q.1≠r.2/\q.2≠r.1/\q.2≠r.2
 fresh:∀a,foot ae a->B.h0.get? a=none
 base:∀b o,B.h0.get? b=some o->s.heap.get? b=some o
 gens:s.gens=#[]
 os:s.os=B.Vg
structure Step (X:List Addr) (ae:eu) (s:Shared) (bt:eu) (s':Shared):Prop where
 keep:∀b o,s.heap.get? b=some o->¬foot ae b->b∉X->s'.heap.get? b=some o
 mono:∀b,s'.heap.get? b=none->s.heap.get? b=none
 len:ae.length<=bt.length
 old:∀(i:Nat) (q:Addr×Addr),i < ae.length->bt[i]? =some (some q)->ae[i]? =some (some q)
 new:∀(i:Nat) (q:Addr×Addr),ae.length<=i->bt[i]? =some (some q)->s.heap.get? q.1=none/\s.heap.get? q.2=none
theorem Step.refl (X ae s):Step X ae s ae s:=
 ⟨λ_ _ e _ _=>e,λ_ e=>e,Nat.le_refl _,λ_ _ _ e=>e,λi q aJ e=>by
  have:=(List.getElem?_eq_some_iff.mp e).1;lia⟩
theorem Step.foot {X ae s bt s'} (x:Step X ae s bt s') {a:Addr} (e:foot bt a):foot ae a\/s.heap.get? a=none:=by
 revert e;refine lF λi q bL bw=>?_
 by_cases aJ:i < ae.length
 .exact .inl ⟨i,q,x.old i q aJ bL,bw⟩
 .have:=x.new i q (by lia) bL;rcases bw with rfl | rfl
  .exact .inr this.1
  .exact .inr this.2
theorem Step.out {X ae s bt s'} (x:Step X ae s bt s') {a:Addr} {o:Obj} (h:s.heap.get? a=some o) (n:¬My.foot ae a):¬My.foot bt a:=λe=>by
 rcases x.foot e with y | y
 .exact n y
 .rw [h] at y;cases y
theorem Step.trans {X ae s bt s' gj d4} (x:Step X ae s bt s') (y:Step X bt s' gj d4):Step X ae s gj d4:=by
 refine ⟨λb o e n m=>y.keep b o (x.keep b o e n m) (x.out e n) m,λb e=>x.mono b (y.mono b e),Nat.le_trans x.len y.len,λi q aJ e=>x.old i q aJ (y.old i q (Nat.lt_of_lt_of_le aJ x.len) e),λi q aJ e=>?_⟩
 by_cases h:i < bt.length
 .exact x.new i q aJ (y.old i q h e)
 .have:=y.new i q (by lia) e;exact ⟨x.mono _ this.1,x.mono _ this.2⟩
theorem Step.wide {X Y ae s bt s'} (x:Step X ae s bt s') (h:∀a,a∈X->a∈Y):Step Y ae s bt s':=
 ⟨λb o e n m=>x.keep b o e n λq=>m (h b q),x.mono,x.len,x.old,x.new⟩
theorem Step.fW {Y ae s bt s'} (x:Step [] ae s bt s'):Step Y ae s bt s':=x.wide (by simp)
noncomputable def BU (n:String):Bool:=n == "list_iterator" || n == "range_iterator" || n == "str_ascii_iterator" || n == "dict_keyiterator"
noncomputable def fS (o:Obj):Bool:=(match o.data with | .dict _ _=>true | .cell _=>true | _=>false) || (match o.cls with | .type n=>BU n | _=>false)
noncomputable def hq (X:List Addr) (h:Heap):Prop:=∀a∈X,∃o,h.get? a=some o/\fS o=true
theorem hq.nil (h:Heap):hq [] h:=λ_ h=>by cases h
theorem hq.not {X h a o} (p:hq X h) (e:h.get? a=some o) (n:fS o=false):a∉X:=λm=>by
 refine a2 (p a m) λb8 bH qM=>?_;rw [e] at bH;cases bH;rw [n] at qM;cases qM
theorem aO.step {X ae s bt s' v cv} (r:aO ae s.heap v cv) (x:Step X ae s bt s') (p:hq X s.heap):aO bt s'.heap v cv:=by
 have ve:∀{o:Obj} {items n} {T:String},o.data=.seq items n->o.cls=.type T->BU T=false->fS o=false:=λ{o items n T} e aC bN=>by unfold fS;rw [e,aC];exact bN
 induction r with
 | none=>exact .none
 | bool b=>exact .bool b
 | int i t=>exact .int i t
 | str y l t aj ao=>exact .str y l t aj ao
 | tup l items a cT cd aA aW _ bJ=>
  revert cd;refine hN λo aG bj ci=>?_;revert ci;refine d7 λn bn=>?_;exact .tup l items a (x.out aG cT) ⟨o,x.keep _ _ aG cT (p.not aG (ve bn bj (by decide))),bj,n,bn⟩ aA aW bJ
 | ap l items a cT cd aA aW _ bJ=>
  revert cd;refine hN λo aG bj ci=>?_;revert ci;refine d7 λn bn=>?_;exact .ap l items a (x.out aG cT) ⟨o,x.keep _ _ aG cT (p.not aG (ve bn bj (by decide))),bj,n,bn⟩ aA aW bJ
 | de a b c r t bA v cT aZ=>exact .de a b c r t bA v (x.out aZ cT) (x.keep _ _ aZ cT (p.not aZ rfl))
 | ref i a aJ bL=>
  exact .ref i a (Nat.lt_of_lt_of_le aJ x.len) λq e=>bL q (x.old i q aJ e)
 | hole a o cT aG bj bn=>exact .hole a o (x.out aG cT) (x.keep _ _ aG cT (p.not aG (by unfold fS;rw [bn,bj];rfl))) bj bn
 | con v=>exact .con v
theorem aO.bx {ae s bt s' v cv} (r:aO ae s.heap v cv) (x:Step [] ae s bt s'):aO bt s'.heap v cv:=r.step x (.nil _)
theorem cC.step {X ae s bt s' l cl} (r:cC ae s.heap l cl) (x:Step X ae s bt s') (p:hq X s.heap):cC bt s'.heap l cl:=
 ⟨r.len,λk v cv e bH=>(r.at_ k v cv e bH).step x p⟩
theorem cC.bx {ae s bt s' l cl} (r:cC ae s.heap l cl) (x:Step [] ae s bt s'):cC bt s'.heap l cl:=r.step x (.nil _)
theorem i5.step {X ae s bt s' C l cl} (r:i5 ae s.heap C l cl) (x:Step X ae s bt s') (p:hq X s.heap):i5 bt s'.heap C l cl:=
 ⟨r.len,r.le,λk v y e aj ao aL=>⟨(r.at_ k v y e aj ao aL).1,(r.at_ k v y e aj ao aL).2.step x p⟩⟩
theorem e9.step {X ae s bt s' l cl} (r:e9 ae s.heap l cl) (x:Step X ae s bt s') (p:hq X s.heap):e9 bt s'.heap l cl:=
 ⟨r.len,r.small,λk dA e aj ao=>let z:=r.at_ k dA e aj ao;⟨z.1,z.2.step x p⟩⟩
theorem FZ {w:World} {h h':Heap} {a:Addr} {bT:List (er×Value)} (d:h.DictOf (l0 br w) a bT) (k:∀o,h.get? a=some o->h'.get? a=some o):h'.DictOf (l0 br w) a bT:=by
 revert d;refine tw λo es d9 aG r=>?_;exact ⟨o,es,d9,k o aG,r⟩
noncomputable def LM (ae:eu) (h:Heap) (K:Value->Prop):V->Prop
 | .none=>True->K .none
 | .bool b=>True->K (.bool b)
 | .int i=>∀t,K (.int i t)
 | .str l=>∀x t,x.cps.toList=l->l.length<=big->K (.str x t)
 | .tup l=>∀(items:List Value) (a:Addr),¬foot ae a->IsTup h a items.toArray->l.length<=big->l.length=items.length->(∀(k:Nat) (v:V) (cv:Value),l[k]? =some v->items[k]? =some cv->aO ae h v cv)->K (.ref a)
 | .ap l=>∀(items:List Value) (a:Addr),¬foot ae a->h.IsList a items.toArray->l.length<=big->l.length=items.length->(∀(k:Nat) (v:V) (cv:Value),l[k]? =some v->items[k]? =some cv->aO ae h v cv)->K (.ref a)
 | .de a b c=>∀q t bA v,¬foot ae q->IsRange h q a b c t bA v->K (.ref q)
 | .ref i=>∀a,i < ae.length->(∀q:Addr×Addr,ae[i]? =some (some q)->a=q.1)->K (.ref a)
 | .hole=>∀(a:Addr) (o:Obj),¬foot ae a->h.get? a=some o->o.cls=.ref tO->o.data=.plain->K (.ref a)
 | .con v=>True->K v
 | .u=>True
noncomputable def LG (w:World) (ae:eu) (h:Heap) (q:Addr×Addr) (K:Prop):az->Prop
 | .list l=>∀(items:List Value) (n:Nat),q.2=q.1->h.get? q.1=some (lobj items n)->cC ae h l items->l.length<=big->K
 | .dict l=>∀bT:List (er×Value),q.2=q.1->h.DictOf (l0 br w) q.1 bT->e9 ae h l bT->K
 | .inst C fs=>∀(es:List DictEntry) (n:Nat),q.2≠q.1->h.get? q.1=some (instObj C q.2)->h.get? q.2=some (jy es n)->i5 ae h C fs es->K
 | .bB=>True
theorem gC.e3 {w:World} {ae:eu} {h:Heap} {q:Addr×Addr} {o:az} {K:Prop} (k:LG w ae h q K o) (r:gC w ae h q o):K:=by
 cases r with
 | list _ items n a b c d=>exact k items n a b c d
 | dict _ bT a b c=>exact k bT a b c
 | inst _ _ es n a b c d=>exact k es n a b c d
@[elab_as_elim] theorem aO.e3 {ae:eu} {h:Heap} {v:V} {cv:Value} {K:Value->Prop} (k:LM ae h K v) (r:aO ae h v cv):K cv:=by
 cases r with
 | none | bool | con=>exact k trivial
 | int i t=>exact k t
 | str x l t a b=>exact k x t a b
 | tup l items a aj ao aL cm eg=>exact k items a aj ao aL cm eg
 | ap l items a aj ao aL cm eg=>exact k items a aj ao aL cm eg
 | de a b c q t bA v aj ao=>exact k q t bA v aj ao
 | ref i a aj ao=>exact k a aj ao
 | hole a o aj ao aL cm=>exact k a o aj ao aL cm
theorem aO.Uu {ae:eu} {h:Heap} {cv:Value} (r:aO ae h .none cv):cv=.none:=by cases r;rfl
theorem aO.Sm {ae:eu} {h:Heap} {i:Int} {cv:Value} (r:aO ae h (.int i) cv):∃t,cv=.int i t:=by cases r;exact ⟨_,rfl⟩
theorem aO.Ol {ae:eu} {h:Heap} {v:Value} {cv:Value} (r:aO ae h (.con v) cv):cv=v:=by cases r;rfl
theorem I3 {aS a0:Type} {a c:aS} {b d:a0} (e:(a,b)=(c,d)):a=c/\b=d:=Prod.mk.inj e
theorem c1 {aS:Type} {a v:aS} {κ:aS->Prop} {C:Prop} (e:some a=some v) (h:κ v) (k:κ a->C):C:=k (Option.some.inj e▸h)
theorem a4 {aS a0:Type} {a v:aS} {b x:a0} {κ:a0->aS->Prop} {C:Prop} (e:some (a,b)=some (v,x)) (h:κ x v) (k:κ b a->C):C:=by cases e;exact k h
theorem dP {aS a0:Type} {a v:aS} {b x:a0} {κ:a0->aS->Prop} {C:Prop} (e:(a,b)=(v,x)) (h:κ x v) (k:κ b a->C):C:=a4 (congrArg some e) h k
theorem kI {aS a0 kT:Type} {a v:aS} {b x:a0} {c z:kT} {κ:aS->a0->kT->Prop} {C:Prop} (e:some (a,b,c)=some (v,x,z)) (h:κ v x z) (k:κ a b c->C):C:=by cases e;exact k h
theorem gx {aS a0 kT:Type} {a v:aS} {b x:a0} {c z:kT} {κ:aS->a0->kT->Prop} {C:Prop} (e:(a,b,c)=(v,x,z)) (h:κ v x z) (k:κ a b c->C):C:=kI (congrArg some e) h k
theorem s1 {aS:Type} {a c:aS} {C:Prop} (k:a=c->C) (e:some a=some c):C:=k (Option.some.inj e)
theorem dt {aS a0:Type} {a c:aS} {b d:a0} {C:Prop} (k:a=c->b=d->C) (e:(a,b)=(c,d)):C:=k (I3 e).1 (I3 e).2
theorem s2 {aS a0:Type} {a c:aS} {b d:a0} {C:Prop} (k:a=c->b=d->C) (e:some (a,b)=some (c,d)):C:=dt k (Option.some.inj e)
section
variable {a0:Type} {r:a0} {ae:eu} {h:Heap} {v w:V} {cv cF:Value} {K:Value->Prop}
@[elab_as_elim] theorem iv {f:Int->Option a0} (k:∀i t,f i=some r->K (.int i t)) (e:fV f v=some r) (R:aO ae h v cv):K cv:=
 vp (K:=λv=>aO ae h v cv->K cv) (λi e R=>aO.e3 (λt=>k i t e) R) e R
@[elab_as_elim] theorem iw {f:List Nat->Option a0} (k:∀(l:List Nat) (x:Str) t,f l=some r->x.cps.toList=l->l.length<=big->K (.str x t)) (e:gA f v=some r) (R:aO ae h v cv):K cv:=
 vu (K:=λv=>aO ae h v cv->K cv) (λi e R=>aO.e3 (λx t=>k i x t e) R) e R
@[elab_as_elim] theorem pz {f:Bool->Option a0} (k:∀i,f i=some r->K (.bool i)) (e:m2 f v=some r) (R:aO ae h v cv):K cv:=
 Dz (K:=λv=>aO ae h v cv->K cv) (λi e R=>aO.e3 (λ_=>k i e) R) e R
@[elab_as_elim] theorem vq {f:Option a0} (k:f=some r->K .none) (e:mg f v=some r) (R:aO ae h v cv):K cv:=
 yx (K:=λv=>aO ae h v cv->K cv) (λe R=>aO.e3 (λ_=>k e) R) e R
@[elab_as_elim] theorem ZS {f:Option a0} (k:∀(a:Addr) (o:Obj),f=some r->¬foot ae a->h.get? a=some o->o.cls=.ref tO->o.data=.plain->K (.ref a)) (e:DA f v=some r) (R:aO ae h v cv):K cv:=
 ZT (K:=λv=>aO ae h v cv->K cv) (λe R=>aO.e3 (λa o aj ao aL cm=>k a o e aj ao aL cm) R) e R
@[elab_as_elim] theorem Ki {f:Value->Option a0} (k:∀x,f x=some r->K x) (e:tg f v=some r) (R:aO ae h v cv):K cv:=
 ZQ (K:=λv=>aO ae h v cv->K cv) (λi e R=>aO.e3 (λ_=>k i e) R) e R
@[elab_as_elim] theorem yy {f:List V->Option a0} (k:∀(l:List V) (items:List Value) (a:Addr),f l=some r->¬foot ae a->IsTup h a items.toArray->l.length<=big->cC ae h l items->K (.ref a)) (e:m4 f v=some r) (R:aO ae h v cv):K cv:=
 DB (K:=λv=>aO ae h v cv->K cv) (λi e R=>aO.e3 (λitems a aj ao aL cm eg=>k i items a e aj ao aL ⟨cm,eg⟩) R) e R
@[elab_as_elim] theorem yw {f:List V->Option a0} (k:∀(l:List V) (items:List Value) (a:Addr),f l=some r->¬foot ae a->h.IsList a items.toArray->l.length<=big->cC ae h l items->K (.ref a)) (e:m3 f v=some r) (R:aO ae h v cv):K cv:=
 vn (K:=λv=>aO ae h v cv->K cv) (λi e R=>aO.e3 (λitems a aj ao aL cm eg=>k i items a e aj ao aL ⟨cm,eg⟩) R) e R
@[elab_as_elim] theorem ZR {f:Int->Int->Int->Option a0} (k:∀a b c q t bA w,f a b c=some r->¬foot ae q->IsRange h q a b c t bA w->K (.ref q)) (e:vo f v=some r) (R:aO ae h v cv):K cv:=
 Kk (K:=λv=>aO ae h v cv->K cv) (λa b c e R=>aO.e3 (λq t bA w=>k a b c q t bA w e) R) e R
noncomputable def hJ (f:Int->Int->Option a0) (v w:V):Option a0:=fV (λi=>fV (f i) w) v
noncomputable def q' (f:List Nat->List Nat->Option a0) (v w:V):Option a0:=gA (λi=>gA (f i) w) v
noncomputable def yv (f:Bool->Bool->Option a0) (v w:V):Option a0:=m2 (λi=>m2 (f i) w) v
@[elab_as_elim] theorem h7 {K:Value->Value->Prop} {f:Int->Int->Option a0} (k:∀i t j bA,f i j=some r->K (.int i t) (.int j bA)) (e:hJ f v w=some r) (R:aO ae h v cv) (bV:aO ae h w cF):K cv cF:=
 iv (K:=λc=>K c cF) (λi t e=>iv (λj bA e=>k i t j bA e) e bV) e R
@[elab_as_elim] theorem vt {K:Value->Value->Prop} {f:List Nat->List Nat->Option a0} (k:∀(x:Str) t (y:Str) bA,f x.cps.toList y.cps.toList=some r->x.cps.toList.length<=big->y.cps.toList.length<=big->K (.str x t) (.str y bA)) (e:q' f v w=some r) (R:aO ae h v cv) (bV:aO ae h w cF):K cv cF:=
 iw (K:=λc=>K c cF) (λ_ x t e a b=>iw (λ_ y bA e EK L5=>by subst a;subst EK;exact k x t y bA e b L5) e bV) e R
@[elab_as_elim] theorem Kh {K:Value->Value->Prop} {f:Bool->Bool->Option a0} (k:∀i j,f i j=some r->K (.bool i) (.bool j)) (e:yv f v w=some r) (R:aO ae h v cv) (bV:aO ae h w cF):K cv cF:=
 pz (K:=λc=>K c cF) (λi e=>pz (λj e=>k i j e) e bV) e R
end
theorem kg {aS:Type} {P:aS->Prop} {a:aS} (h:P a):∀x∈[a],P x:=λx m=>(List.mem_singleton.mp m).symm▸h
theorem zm {aS:Type} {P:aS->Prop} {a b:aS} (h:P a) (k:P b):∀x∈[a,b],P x:=List.forall_mem_cons.mpr ⟨h,kg k⟩
theorem uX {aS:Type} {a b:aS} (n:b∉[a]):b≠a:=λz=>n (List.mem_singleton.mpr z)
theorem pa {aS:Type} {a b c:aS} (n:c∉[a,b]):c≠a/\c≠b:=⟨λz=>n (z▸.head _),λz=>n (z▸.tail _ (.head _))⟩
end
section
open PySem PySem.W PySem.W.X PyProof.Rows PySem.Calls
open Mine (br KT)
variable {B:db} {ae bt:eu} {D:am} {s s':Shared} {X:List Addr}
theorem gC.step {w q o} (r:gC w ae s.heap q o) (x:Step X ae s bt s') (p:hq X s.heap) (cz:∀dz,s.heap.get? q.1=some dz->s'.heap.get? q.1=some dz)
  (dB:∀dz,s.heap.get? q.2=some dz->s'.heap.get? q.2=some dz):gC w bt s'.heap q o:=by
 cases r with
 | list l items n aj ao aL cm=>exact .list l items n aj (cz _ ao) (aL.step x p) cm
 | dict l bT aj ao aL=>exact .dict l bT aj (FZ ao cz) (aL.step x p)
 | inst C fs es n h0 aj ao aL=>exact .inst C fs es n h0 (cz _ aj) (dB _ ao) (aL.step x p)
theorem gC.ex {w q o h} (r:gC w ae h q o):(∃a,h.get? q.1=some a)/\(∃a,h.get? q.2=some a):=by
 cases r with
 | list l items n aj ao aL cm=>exact ⟨⟨_,ao⟩,⟨_,aj▸ao⟩⟩
 | dict l bT aj ao aL=>revert ao;refine tw λo es d9 aG _=>?_;exact ⟨⟨_,aG⟩,⟨_,aj▸aG⟩⟩
 | inst C fs es n h0 aj ao aL=>exact ⟨⟨_,aj⟩,⟨_,ao⟩⟩
theorem Inv.rep (I:Inv B ae D s) {i:Nat} {q:Addr×Addr} (e:ae[i]? =some (some q)):∃o,D[i]? =some o/\gC B.w ae s.heap q o:=by
 have aJ:=(List.getElem?_eq_some_iff.mp e).1;have aX:i < D.length:=I.len▸aJ;exact ⟨D[i],List.getElem?_eq_getElem aX,I.obj i q _ e (List.getElem?_eq_getElem aX)⟩
theorem Inv.qa (I:Inv B ae D s) {a:Addr} (f:foot ae a):∃o,s.heap.get? a=some o:=by
 revert f;refine lF λi q e h=>?_;refine a2 (I.rep e) λo _ r=>?_;rcases h with rfl | rfl
 .exact r.ex.1
 .exact r.ex.2
theorem Inv.at_ (I:Inv B ae D s) {i:Nat} {o:az} (e:D[i]? =some o) (n:o≠.bB):∃q,ae[i]? =some (some q)/\gC B.w ae s.heap q o:=by
 have aJ:=(List.getElem?_eq_some_iff.mp e).1;have aX:i < ae.length:=I.len▸aJ;have h:=List.getElem?_eq_getElem aX
 cases bL:ae[i] with
 | none=>rw [bL] at h;exact absurd (I.live i o e h) n
 | some q=>rw [bL] at h;exact ⟨q,h,I.obj i q o h e⟩
structure ce (s s':Shared):Prop where
 keep:∀b o,s.heap.get? b=some o->s'.heap.get? b=some o
 gens:s'.gens=s.gens
 os:s'.os=s.os
theorem ce.refl (s:Shared):ce s s:=⟨λ_ _ e=>e,rfl,rfl⟩
theorem ce.trans {s s' d4:Shared} (x:ce s s') (y:ce s' d4):ce s d4:=⟨λb o e=>y.keep b o (x.keep b o e),y.gens.trans x.gens,y.os.trans x.os⟩
theorem ce.none (x:ce s s') {b:Addr} (e:s'.heap.get? b=none):s.heap.get? b=none:=by
 cases h:s.heap.get? b with
 | none=>rfl
 | some o=>rw [x.keep b o h] at e;cases e
theorem ce.step (x:ce s s'):Step X ae s ae s':=
 ⟨λb o e _ _=>x.keep b o e,λb e=>x.none e,Nat.le_refl _,λ_ _ _ e=>e,λi q aJ e=>by have:=(List.getElem?_eq_some_iff.mp e).1;lia⟩
theorem Inv.ext (I:Inv B ae D s) (x:ce s s'):Inv B ae D s' where
 len:=I.len
 obj i q o e bH:=(I.obj i q o e bH).step (X:=[]) x.step (.nil _) (x.keep _) (x.keep _)
 live:=I.live
 apart:=I.apart
 fresh:=I.fresh
 base b o e:=x.keep b o (I.base b o e)
 gens:=x.gens.trans I.gens
 os:=x.os.trans I.os
theorem Inv.gy (I:Inv B ae D s) (x:Step X ae s ae s') (p:hq X s.heap) (cT:∀a∈X,¬foot ae a) (hk:∀b o,s.heap.get? b=some o->b∉X->s'.heap.get? b=some o)
  (bU:∀a∈X,B.h0.get? a=none) (cr:s'.gens=s.gens) (aG:s'.os=s.os):Inv B ae D s' where
 len:=I.len
 obj i q o e bH:=(I.obj i q o e bH).step x p (λdz h=>hk _ _ h λm=>cT _ m ⟨i,q,e,.inl rfl⟩) (λdz h=>hk _ _ h λm=>cT _ m ⟨i,q,e,.inr rfl⟩)
 live:=I.live
 apart:=I.apart
 fresh:=I.fresh
 base b o e:=hk b o (I.base b o e) λm=>by rw [bU b m] at e;cases e
 gens:=cr.trans I.gens
 os:=aG.trans I.os
theorem Qz {q:Addr×Addr} {a:Addr} (f:foot (ae++[some q]) a):foot ae a\/a=q.1\/a=q.2:=by
 revert f;refine lF λi r e h=>?_;rw [List.getElem?_append] at e;split at e
 .exact .inl ⟨i,r,e,h⟩
 .have:r=q:=by
   cases a3:i - ae.length with
   | zero=>rw [a3] at e;simpa using e.symm
   | succ k=>rw [a3] at e;simp at e
  subst this;exact .inr h
theorem q6 {q:Addr×Addr} (x:ce s s') (aj:s.heap.get? q.1=none) (ao:s.heap.get? q.2=none):Step X ae s (ae++[some q]) s':=by
 refine ⟨λb o e _ _=>x.keep b o e,λb e=>x.none e,by simp,λi r aJ e=>?_,λi r aJ e=>?_⟩
 .rwa [List.getElem?_append_left aJ] at e
 .rw [List.getElem?_append_right aJ] at e
  cases a3:i - ae.length with
  | zero=>rw [a3] at e;simp at e;subst e;exact ⟨aj,ao⟩
  | succ k=>rw [a3] at e;simp at e
theorem Inv.add (I:Inv B ae D s) (x:ce s s') {q:Addr×Addr} {o:az} (aj:s.heap.get? q.1=none) (ao:s.heap.get? q.2=none)
  (r:gC B.w (ae++[some q]) s'.heap q o):Inv B (ae++[some q]) (D++[o]) s' where
 len:=by simp [I.len]
 obj i p dz e bH:=by
  rw [List.getElem?_append] at e bH;rw [I.len] at e;split at e
  .rename_i aJ;rw [if_pos aJ] at bH;exact (I.obj i p dz e bH).step (X:=[]) (q6 x aj ao) (.nil _) (x.keep _) (x.keep _)
  .rename_i aJ;rw [if_neg aJ] at bH
   cases a3:i - D.length with
   | zero=>rw [a3] at e bH;simp at e bH;subst e;subst bH;exact r
   | succ k=>rw [a3] at e;simp at e
 live i dz e bH:=by
  rw [List.getElem?_append] at e bH;rw [I.len] at bH;split at e
  .rename_i aJ;rw [if_pos aJ] at bH;exact I.live i dz e bH
  .rename_i aJ;rw [if_neg aJ] at bH
   cases a3:i - D.length with
   | zero=>rw [a3] at bH;simp at bH
   | succ k=>rw [a3] at bH;simp at bH
 apart i j p r e bH gK:=by
  have key:∀(i j:Nat) (p r:Addr×Addr),ae[i]? =some (some p)->¬j < ae.length->([some q]:eu)[j - ae.length]? =some (some r)->p.1≠r.1/\p.1≠r.2/\p.2≠r.1/\p.2≠r.2:=by
   clear e bH gK i j p r;intro i j p r e aX bH;have:r=q:=by
    cases a3:j - ae.length with
    | zero=>rw [a3] at bH;simpa using bH.symm
    | succ k=>rw [a3] at bH;simp at bH
   subst this;have O:∃o,s.heap.get? p.1=some o:=I.qa ⟨i,p,e,.inl rfl⟩;have ah:∃o,s.heap.get? p.2=some o:=I.qa ⟨i,p,e,.inr rfl⟩;revert O;refine d7 λc1 O=>?_;revert ah;refine d7 λa4 ah=>?_;refine ⟨?_,?_,?_,?_⟩ <;> intro q <;> first | (rw [q] at O;simp_all) | (rw [q] at ah;simp_all)
  rw [List.getElem?_append] at e bH;split at e <;> split at bH
  .exact I.apart i j p r e bH gK
  .rename_i aJ aX;exact key i j p r e aX bH
  .rename_i aJ aX;have:=key j i r p bH aJ e;exact ⟨this.1.symm,this.2.2.1.symm,this.2.1.symm,this.2.2.2.symm⟩
  .rename_i aJ aX
   exfalso
   have iO:=(List.getElem?_eq_some_iff.mp e).1;have eb:=(List.getElem?_eq_some_iff.mp bH).1;simp at iO eb;lia
 fresh a f:=by
  have nn:∀b,s.heap.get? b=none->B.h0.get? b=none:=λb e=>by
   cases h:B.h0.get? b with
   | none=>rfl
   | some o=>rw [I.base b o h] at e;cases e
  rcases Qz f with f | rfl | rfl
  .exact I.fresh a f
  .exact nn _ aj
  .exact nn _ ao
 base b o e:=x.keep b o (I.base b o e)
 gens:=x.gens.trans I.gens
 os:=x.os.trans I.os
theorem aO.fresh {h:Heap} {q:Addr×Addr}:aO (ae++[some q]) h (.ref ae.length) (.ref q.1):=.ref _ _ (by simp) λr e=>by
 simp at e;rw [e]
theorem yn {i:Nat} {q:Addr×Addr} (e:ae[i]? =some (some q)) (hk:∀b,b≠q.1->b≠q.2->∀o,s.heap.get? b=some o->s'.heap.get? b=some o)
  (m:∀b,s'.heap.get? b=none->s.heap.get? b=none):Step X ae s ae s':=
 ⟨λb o h cT _=>hk b (λz=>cT ⟨i,q,e,.inl z⟩) (λz=>cT ⟨i,q,e,.inr z⟩) o h,m,Nat.le_refl _,λ_ _ _ e=>e,λi q aJ e=>by have:=(List.getElem?_eq_some_iff.mp e).1;lia⟩
theorem Inv.upd (I:Inv B ae D s) {i:Nat} {q:Addr×Addr} {o:az} (e:ae[i]? =some (some q)) (hk:∀b,b≠q.1->b≠q.2->∀o,s.heap.get? b=some o->s'.heap.get? b=some o)
  (m:∀b,s'.heap.get? b=none->s.heap.get? b=none) (r:gC B.w ae s'.heap q o) (cr:s'.gens=s.gens) (aG:s'.os=s.os):Inv B ae (D.set i o) s' where
 len:=by simp [I.len]
 obj j p dz av aC:=by
  by_cases h:i=j
  .subst h;have aJ:=(List.getElem?_eq_some_iff.mp e).1;rw [List.getElem?_set_self (I.len▸aJ)] at aC;revert aC;refine s1 λbd=>?_;subst bd;rw [e] at av;cases av;exact r
  .rw [List.getElem?_set_ne h] at aC;have dH:=I.apart i j q p e av h;exact (I.obj j p dz av aC).step (X:=[]) (yn e hk m) (.nil _) (hk _ dH.1.symm dH.2.2.1.symm) (hk _ dH.2.1.symm dH.2.2.2.symm)
 live j dz av aC:=by
  by_cases h:i=j
  .subst h;rw [e] at aC;cases aC
  .rw [List.getElem?_set_ne h] at av;exact I.live j dz av aC
 apart:=I.apart
 fresh:=I.fresh
 base b dz h:=by
  have e5:b≠q.1:=λz=>by rw [z,I.fresh q.1 ⟨i,q,e,.inl rfl⟩] at h;exact bU h
  have eY:b≠q.2:=λz=>by rw [z,I.fresh q.2 ⟨i,q,e,.inr rfl⟩] at h;exact bU h
  exact hk b e5 eY _ (I.base b dz h)
 gens:=cr.trans I.gens
 os:=aG.trans I.os
theorem Gv {i:Nat} {a:Addr} (f:foot (ae.set i none) a):foot ae a:=by
 revert f;refine lF λj q e h=>?_
 by_cases gK:i=j
 .subst gK;rw [List.getElem?_set] at e;simp at e
 .rw [List.getElem?_set_ne gK] at e;exact ⟨j,q,e,h⟩
theorem q5 {i:Nat}:Step X ae s (ae.set i none) s:=by
 refine ⟨λb o e _ _=>e,λb e=>e,by simp,λj q aX e=>?_,λj q aX e=>?_⟩
 .by_cases gK:i=j
  .subst gK;rw [List.getElem?_set] at e;simp at e
  .rwa [List.getElem?_set_ne gK] at e
 .have:=(List.getElem?_eq_some_iff.mp e).1;simp at this;lia
theorem Inv.freeze (I:Inv B ae D s) (i:Nat):Inv B (ae.set i none) (D.set i .bB) s where
 len:=by simp [I.len]
 obj j p dz av aC:=by
  by_cases h:i=j
  .subst h;rw [List.getElem?_set] at av;simp at av
  .rw [List.getElem?_set_ne h] at av aC;exact (I.obj j p dz av aC).step (X:=[]) q5 (.nil _) (λ_ e=>e) (λ_ e=>e)
 live j dz av aC:=by
  by_cases h:i=j
  .subst h;have:=(List.getElem?_eq_some_iff.mp av).1;simp at this;rw [List.getElem?_set_self this] at av;revert av;refine s1 λbd=>?_;subst bd;rfl
  .rw [List.getElem?_set_ne h] at av aC;exact I.live j dz av aC
 apart a b p r av aC h:=by
  have f:∀(j:Nat) (q:Addr×Addr),(ae.set i none)[j]? =some (some q)->ae[j]? =some (some q):=λj q e=>by
   by_cases gK:i=j
   .subst gK;rw [List.getElem?_set] at e;simp at e
   .rwa [List.getElem?_set_ne gK] at e
  exact I.apart a b p r (f _ _ av) (f _ _ aC) h
 fresh a f:=I.fresh a (Gv f)
 base:=I.base
 gens:=I.gens
 os:=I.os
theorem Inv.AR (I:Inv B ae D s) {i:Nat} {l:List V} {cv:Value} (e:D[i]? =some (.list l)) (r:aO ae s.heap (.ref i) cv):aO (ae.set i none) s.heap (.ap l) cv:=by
 refine a2 (I.at_ e (by simp)) λq bL rep=>?_;refine aO.e3 ?_ r;clear r;intro J aJ aZ;have lO:=aZ q bL;subst lO
 cases rep with
 | list _ items n aj ao aL cm=>
  have x:Step [] ae s (ae.set i none) s:=q5;refine .ap l items q.1 (λf=>?_) ⟨_,ao,rfl,n,rfl⟩ cm aL.len (aL.step x (.nil _)).at_;revert f;refine lF λj p bH h=>?_
  by_cases gK:i=j
  .subst gK;rw [List.getElem?_set] at bH;simp at bH
  .rw [List.getElem?_set_ne gK] at bH;have dH:=I.apart i j q p bL bH gK;rcases h with h | h
   .exact dH.1 h
   .exact dH.2.1 h
end
section
open PySem PySem.W PySem.W.X PyProof.Rows PySem.Calls
open Mine (br KT)
structure eU (d:Nat) (A:Around):Prop where
 hand:A.handled=none
 dep:A.depth+4 * d < 1000
 vk:A.units+40 * d < 9000
noncomputable def nH:NameKind->Bool | .local=>true | .cell=>true | .free=>true | _=>false
structure eC where
 env:Env
 d:Nat
 X:List Addr
 own:Bool
 cr:env.globals=mainGlobals
 aA:env.builtins=builtinsNs
 hk:env.scope.kind=.function
 aJ:interactive env=false
 qA:env.locals∈X
noncomputable def iJ (l:List (Str×NameKind)):Bool:=(decide (l.map (·.1)).Nodup) && l.all λp=>!(p.1 == ("__debug__" :Str)) && !(p.1 == ("__classdict__" :Str))
noncomputable def eC.names (c:eC):List (Str×NameKind):=c.env.scope.names
inductive rr (c:eC) (ae:eu) (h:Heap) (x:Str) (v:V):NameKind->Prop
 | loc (cv:Value):(∃m,h.Ns c.env.locals m/\m x=some cv)->aO ae h v cv->rr c ae h x v .local
 | cell (a:Addr) (cv:Value) (bO:NameKind):bO=.cell\/bO=.free->c.env.cells.lookup x=some a->h.IsCell a (some cv)->¬foot ae a->aO ae h v cv->rr c ae h x v bO
structure Loc (B:db) (c:eC) (ae:eu) (ag:List V) (h:Heap):Prop where
 good:iJ c.names=true
 ns:∃m,h.Ns c.env.locals m
 held:∀(k:Nat) (x:Str) (bO:NameKind) (v:V),c.names[k]? =some (x,bO)->nH bO=true->ag[k]? =some v->v≠.u->rr c ae h x v bO
 cell:∀(k:Nat) (x:Str),c.names[k]? =some (x,.cell)->∃a v,c.env.cells.lookup x=some a/\(c.own=true->a∈c.X)/\(¬foot ae a)/\h.IsCell a v
 inj:∀(x y:Str) (a:Addr),c.env.cells.lookup x=some a->c.env.cells.lookup y=some a->x=y
 out:∀a∈c.X,¬foot ae a
 fresh:∀a∈c.X,B.h0.get? a=none
 gy:hq c.X h
end
section
open PySem PySem.W PySem.W.X PyProof.Rows PySem.Calls
open Mine (br KT)
variable {B:db} {c:eC} {ae bt:eu} {D:am} {s s':Shared} {X:List Addr} {ag:List V}
theorem sN {h h':Heap} {a:Addr} {m:Str->Option Value} (n:h.Ns a m) (k:∀o,h.get? a=some o->h'.get? a=some o):h'.Ns a m:=by
 revert n;refine tw λo es d9 e r=>?_;exact ⟨o,es,d9,k o e,r⟩
theorem rr.bx {x v bO} (r:rr c ae s.heap x v bO) (z:Step [] ae s bt s') (fp:¬foot ae c.env.locals):rr c bt s'.heap x v bO:=by
 cases r with
 | loc cv aj ao=>
  revert aj;refine eQ λm aP e=>?_;exact .loc cv ⟨m,sN aP (λo e=>z.keep _ _ e fp (by simp)),e⟩ (ao.bx z)
 | cell a cv bO hk aj ao aL cm=>
  revert ao;refine eQ λo aG bn=>?_;exact .cell a cv bO hk aj ⟨o,z.keep _ _ aG aL (by simp),bn⟩ (z.out aG aL) (cm.bx z)
theorem Loc.bx (L:Loc B c ae ag s.heap) (z:Step [] ae s bt s'):Loc B c bt ag s'.heap where
 good:=L.good
 ns:=by refine cH L.ns λm aP=>?_;exact ⟨m,sN aP (λo e=>z.keep _ _ e (L.out _ c.qA) (by simp))⟩
 held k x bO v aj ao aL cm:=(L.held k x bO v aj ao aL cm).bx z (L.out _ c.qA)
 cell k x h:=by
  refine fj (L.cell k x h) λa v aj ao eg ci=>?_;revert ci;refine eQ λo aL cm=>?_;exact ⟨a,v,aj,ao,z.out aL eg,o,z.keep _ _ aL eg (by simp),cm⟩
 inj:=L.inj
 out a h:=by
  refine a2 (L.gy a h) λo aG _=>?_;exact z.out aG (L.out a h)
 fresh:=L.fresh
 gy a h:=by
  refine a2 (L.gy a h) λo aG aw=>?_;exact ⟨o,z.keep _ _ aG (L.out a h) (by simp),aw⟩
theorem bind_some {aS a0:Type} {o:Option aS} {f:aS->Option a0} {b:a0} (e:o.bind f=some b):∃a,o=some a/\f a=some b:=by
 cases o with
 | none=>exact bU e
 | some a=>exact ⟨a,rfl,e⟩
theorem TU {aS a0:Type} {o:Option aS} {f:aS->a0} {b:a0} (e:o.map f=some b):∃a,o=some a/\f a=b:=by
 cases o with
 | none=>exact bU e
 | some a=>exact ⟨a,rfl,by simpa using e⟩
theorem bZ {aS a0:Type} {o:Option aS} {f:aS->Option a0} {b:a0} {C:Prop} (k:∀a,o=some a->f a=some b->C) (e:o.bind f=some b):C:=eQ k (bind_some e)
theorem cg {aS pE a0:Type} {o:Option (aS×pE)} {f:aS×pE->Option a0} {b:a0} {C:Prop} (k:∀a x,o=some (a,x)->f (a,x)=some b->C) (e:o.bind f=some b):C:=bZ (λa=>k a.1 a.2) e
theorem tS {aS pE Ku a0:Type} {o:Option (aS×pE×Ku)} {f:aS×pE×Ku->Option a0} {b:a0} {C:Prop} (k:∀a x y,o=some (a,x,y)->f (a,x,y)=some b->C) (e:o.bind f=some b):C:=bZ (λa=>k a.1 a.2.1 a.2.2) e
theorem cb {aS a0:Type} {o:Option aS} {f:aS->a0} {b:a0} {C:Prop} (k:∀a,o=some a->f a=b->C) (e:o.map f=some b):C:=eQ k (TU e)
theorem nX {aS pE a0:Type} {o:Option (aS×pE)} {f:aS×pE->a0} {b:a0} {C:Prop} (k:∀a x,o=some (a,x)->f (a,x)=b->C) (e:o.map f=some b):C:=cb (λa=>k a.1 a.2) e
noncomputable abbrev bK:=List V->am->Option (V×am)
noncomputable abbrev dp:=List V->am->Option (Bool×am)
noncomputable def vP (B:db) (ae:eu) (s:Shared) (Q:Value->Shared->Prop) (al:am) (v:V):Prop:=∀bt s' cv,Inv B bt al s'->Step [] ae s bt s'->aO bt s'.heap v cv->Q cv s'
noncomputable def KB (B:db) (ae:eu) (s:Shared) (Q:Bool->Shared->Prop) (al:am) (v:Bool):Prop:=∀bt s',Inv B bt al s'->Step [] ae s bt s'->Q v s'
noncomputable def y6 (ae:eu) (s:Shared) (Q:Value->Shared->Prop) (v:V):Prop:=∀s' cv,ce s s'->aO ae s'.heap v cv->Q cv s'
noncomputable def Ev (B:db) (c:eC) (e:Expr) (f:bK):Prop:=
 ∀A ae D ag s v al,eU c.d A->Inv B ae D s->Loc B c ae ag s.heap->f ag D=some (v,al)->
  ∀(Q:Value->Shared->Prop) (E:Value->Shared->Prop),vP B ae s Q al v->wpAny (model br B.w) A (eval e c.env) Q E s
noncomputable def fM (B:db) (c:eC) (e:Expr) (f:dp):Prop:=
 ∀A ae D ag s v al,eU c.d A->Inv B ae D s->Loc B c ae ag s.heap->f ag D=some (v,al)->
  ∀(Q:Bool->Shared->Prop) (E:Value->Shared->Prop),KB B ae s Q al v->wpAny (model br B.w) A (isTrue e c.env (eval e c.env)) Q E s
noncomputable def Ex (B:db) (d:Nat) (t:Value->Sem Value) (f:am->V->Option V):Prop:=
 ∀A ae D s a b3 v,eU d A->Inv B ae D s->aO ae s.heap a b3->f D a=some v->
  ∀(Q:Value->Shared->Prop) (E:Value->Shared->Prop),y6 ae s Q v->wpAny (model br B.w) A (t b3) Q E s
noncomputable def ew (B:db) (d:Nat) (t:Value->Value->Sem Value) (f:am->V->V->Option V):Prop:=
 ∀A ae D s a b b3 cJ v,eU d A->Inv B ae D s->aO ae s.heap a b3->aO ae s.heap b cJ->f D a b=some v->
  ∀(Q:Value->Shared->Prop) (E:Value->Shared->Prop),y6 ae s Q v->wpAny (model br B.w) A (t b3 cJ) Q E s
theorem ce.toks {s:Shared} {k:Nat}:ce s {s with toks:=k}:=⟨λ_ _ e=>e,rfl,rfl⟩
noncomputable def ab (v:V):bK:=λ_ D=>some (v,D)
noncomputable def V.isUnset (v:V):Bool:=@V.casesOn.{1} (λ_=>Bool) v false (λ_=>false) (λ_=>false) (λ_=>false) (λ_=>false) (λ_=>false) (λ_ _ _=>false) (λ_=>false) false (λ_=>false) true
noncomputable def G (k:Nat):bK:=λag D=>(ag[k]?).bind λv=>if v.isUnset then none else some (v,D)
noncomputable def dU (op:am->V->Option V) (f:bK):bK:=λag D=>(f ag D).bind λp=>(op p.2 p.1).map λv=>(v,p.2)
noncomputable def aM (op:am->V->V->Option V) (f g:bK):bK:=λag D=>(f ag D).bind λp=>(g ag p.2).bind λq=>(op q.2 p.1 q.1).map λv=>(v,q.2)
theorem Ev.const_int {i:Int} {k pos}:Ev B c (.Constant (.int i) k pos) (ab (.int i)):=λA ae D ag s v al ok I L e Q E h=>by
 refine a4 e h λh=>?_;clear e;exact wpAny_Constant_int (h ae _ _ (I.ext .toks) ce.toks.step (.int _ _))
theorem Ev.const_none {k pos}:Ev B c (.Constant .none k pos) (ab .none):=λA ae D ag s v al ok I L e Q E h=>by
 refine a4 e h λh=>?_;clear e;exact wpAny_Constant_none (h ae _ _ I (.refl _ _ _) .none)
theorem Ev.Om {b k pos}:Ev B c (.Constant (.bool b) k pos) (ab (.bool b)):=λA ae D ag s v al ok I L e Q E h=>by
 refine a4 e h λh=>?_;clear e;exact wpAny_Constant_bool (h ae _ _ I (.refl _ _ _) (.bool b))
theorem Ev.Oo {x:Str} {k pos} {l:List Nat} (aW:x.cps.toList=l) (aA:decide (l.length<=big)=true):Ev B c (.Constant (.str x) k pos) (ab (.str l)):=λA ae D ag s v al ok I L e Q E h=>by
 refine a4 e h λh=>?_;clear e;exact wpAny_Constant_str (h ae _ _ (I.ext .toks) ce.toks.step (.str _ _ _ aW (of_decide_eq_true aA)))
theorem Loc.Cy (L:Loc B c ae ag s.heap) {k:Nat} {x bO} (h:c.names[k]? =some (x,bO)):(x == ("__debug__" :Str))=false/\(x == ("__classdict__" :Str))=false:=by
 have g:=L.good;simp only [iJ,Bool.and_eq_true,List.all_eq_true] at g;have:=g.2 _ (List.mem_of_getElem? h);simpa using this
theorem B7 {l:List (Str×NameKind)} (cX:(l.map (·.1)).Nodup) {k:Nat} {x:Str} {bO:NameKind} (h:l[k]? =some (x,bO)):l.lookup x=some bO:=by
 induction l generalizing k with
 | nil=>simp at h
 | cons p l bJ=>
  obtain ⟨y,lW⟩:=p;simp only [List.map_cons,List.nodup_cons] at cX
  cases k with
  | zero=>simp at h;revert h;refine gT λbd bl=>?_;subst bd;subst bl;simp [List.lookup]
  | succ k=>
   simp at h;have fB:x≠y:=λq=>cX.1 (q▸List.mem_map.mpr ⟨_,List.mem_of_getElem? h,rfl⟩);simp only [List.lookup];rw [beq_false_of_ne fB];exact bJ cX.2 h
theorem Loc.kind (L:Loc B c ae ag s.heap) {k:Nat} {x bO} (h:c.names[k]? =some (x,bO)):c.env.kindOf x=some bO:=by
 have g:=L.good;simp only [iJ,Bool.and_eq_true,decide_eq_true_eq] at g;exact B7 g.1 h
theorem wv {k:Nat} {v:V} (h:ag[k]? =some v) (n:v≠.u):G k ag D=some (v,D):=by
 have:v.isUnset=false:=by cases v <;> first | rfl | exact absurd rfl n
 unfold G;rw [h,Option.bind_some,this];rfl
theorem Ev.var {x pos} {k:Nat} {bO} (ax:c.names[k]? =some (x,bO)) (aW:nH bO=true):Ev B c (.Name x pos) (G k):=λA ae D ag s v al ok I L e Q E h=>by
 have aI:ag[k]? =some v/\al=D/\v≠.u:=by
  revert e;refine bZ λw hw e=>?_;split at e
  .exact bU e
  .rename_i a3;revert e;refine s2 λbd bl=>?_;subst bd;subst bl;exact ⟨hw,rfl,λq=>a3 (by rw [q];rfl)⟩
 revert aI;refine og λaI bl dD=>?_;subst bl;have cX:=L.Cy ax;have fC:=L.kind ax
 cases L.held k x bO v ax aW aI dD with
 | loc cv aj ao=>
  revert aj;refine eQ λm aP av=>?_;exact wpAny_Name (wpAny_loadName_local c.hk fC aP av (h ae s cv I (.refl _ _ _) ao)) cX.1
 | cell a cv bO hk aj ao aL cm=>
  rcases hk with rfl | rfl
  .exact wpAny_Name (wpAny_loadName_cell c.hk fC aj ao (h ae s cv I (.refl _ _ _) cm)) cX.1
  .exact wpAny_Name (wpAny_loadName_free c.hk fC aj ao (h ae s cv I (.refl _ _ _) cm) cX.2) cX.1
theorem Inv.ns (I:Inv B ae D s) {a:Addr} {m:Str->Option Value} (n:B.h0.Ns a m):s.heap.Ns a m:=sN n λo e=>I.base _ _ e
theorem Inv.K (I:Inv B ae D s):(KT B.w.params).In s.heap:=B.uw.keeps I.base
theorem Inv.lim (I:Inv B ae D s):s.heap.NoLimit:=B.lim.keeps I.base
theorem AU {x pos v} {k:Nat} {A:Around} {Q:Value->Shared->Prop} {E:Value->Shared->Prop} (I:Inv B ae D s) (L:Loc B c ae ag s.heap) (ax:c.names[k]? =some (x,.globalImplicit)) (aI:B.jv x=some v) (h:Q v s):
  wpAny (model br B.w) A (eval (.Name x pos) c.env) Q E s:=
 Name_function_global c.hk (L.kind ax) (loadGlobal_global (by rw [c.cr];exact I.ns B.glob) aI h) (L.Cy ax).1
theorem E7 {x pos v} {k:Nat} {A:Around} {Q:Value->Shared->Prop} {E:Value->Shared->Prop} (I:Inv B ae D s) (L:Loc B c ae ag s.heap) (ax:c.names[k]? =some (x,.globalImplicit)) (aI:B.jv x=none) (aA:B.nV x=some v) (h:Q v s):
  wpAny (model br B.w) A (eval (.Name x pos) c.env) Q E s:=
 Name_function_global c.hk (L.kind ax) (loadGlobal_builtin (by rw [c.cr];exact I.ns B.glob) aI (by rw [c.aA];exact I.ns B.MI) aA h) (L.Cy ax).1
theorem Ev.glob {x pos v} {k:Nat} (ax:c.names[k]? =some (x,.globalImplicit)) (aI:B.jv x=some v):Ev B c (.Name x pos) (ab (.con v)):=λA ae D ag s bA al ok I L e Q E h=>by
 refine a4 e h λh=>?_;clear e;exact AU I L ax aI (h ae s v I (.refl _ _ _) (.con v))
theorem aO.base {v:V} {cv:Value} (r:aO [] B.h0 v cv) (I:Inv B ae D s):aO ae s.heap v cv:=by
 have cT:∀{a o},B.h0.get? a=some o->¬foot ae a:=λe f=>by rw [I.fresh _ f] at e;exact bU e
 induction r with
 | none=>exact .none
 | bool b=>exact .bool b
 | int i t=>exact .int i t
 | str y l t aj ao=>exact .str y l t aj ao
 | tup l items a _ cd aA aW _ bJ=>
  revert cd;refine hN λo aG bj ci=>?_;revert ci;refine d7 λn bn=>?_;exact .tup l items a (cT aG) ⟨o,I.base _ _ aG,bj,n,bn⟩ aA aW bJ
 | ap l items a _ cd aA aW _ bJ=>
  revert cd;refine hN λo aG bj ci=>?_;revert ci;refine d7 λn bn=>?_;exact .ap l items a (cT aG) ⟨o,I.base _ _ aG,bj,n,bn⟩ aA aW bJ
 | de a b c r t bA v _ aZ=>exact .de a b c r t bA v (cT aZ) (I.base _ _ aZ)
 | ref i cv aJ bL=>simp at aJ
 | hole a o _ aG bj bn=>exact .hole a o (cT aG) (I.base _ _ aG) bj bn
 | con v=>exact .con v
theorem Ev.QM {x pos v cv} {k:Nat} (ax:c.names[k]? =some (x,.globalImplicit)) (aI:B.jv x=some cv) (aZ:aO [] B.h0 v cv):Ev B c (.Name x pos) (ab v):=λA ae D ag s bA al ok I L e Q E h=>by
 refine a4 e h λh=>?_;clear e;exact AU I L ax aI (h ae s cv I (.refl _ _ _) (aZ.base I))
theorem Ev.un {op o x f pos} (aG:Ex B c.d (unaryOp o) op) (aj:Ev B c x f):Ev B c (.UnaryOp o x pos) (dU op f):=λA ae D ag s v al ok I L e Q E h=>by
 revert e;refine cg λa ai av e=>?_;revert e;refine cb λw aC e=>?_;refine dP e h λh=>?_;clear e;exact wpAny_UnaryOp (aj _ _ _ _ _ _ _ ok I L av _ E λbt s' b3 bm bh bo=>aG _ _ _ _ _ _ _ ok bm bo aC _ E λd4 cv X eH=>h _ _ _ (bm.ext X) (bh.trans X.step) eH)
theorem Ev.bin {op o l r f g pos} (aG:ew B c.d (binaryOp o) op) (aj:Ev B c l f) (ao:Ev B c r g):Ev B c (.BinOp l o r pos) (aM op f g):=λA ae D ag s v al ok I L e Q E h=>by
 revert e;refine cg λa ai av e=>?_;revert e;refine cg λb aY aC e=>?_;revert e;refine cb λw bN e=>?_;refine dP e h λh=>?_;clear e;exact wpAny_BinOp (aj _ _ _ _ _ _ _ ok I L av _ E λbt s' b3 bm bh bo=>ao _ _ _ _ _ _ _ ok bm (L.bx bh) aC _ E λgj d4 cJ cB cD eH=>
  aG _ _ _ _ _ _ _ _ _ ok cB (bo.bx cD) eH bN _ E λs3 cv X el=>h _ _ _ (cB.ext X) ((bh.trans cD).trans X.step) el)
theorem Ev.cmp {op o l r f g pos} (aG:ew B c.d (compareOp o) op) (aj:Ev B c l f) (ao:Ev B c r g) (aP:behindInMarks o r=false:=by with_unfolding_all rfl):Ev B c (.Compare l [o] [r] pos) (aM op f g):=λA ae D ag s v al ok I L e Q E h=>by
 revert e;refine cg λa ai av e=>?_;revert e;refine cg λb aY aC e=>?_;revert e;refine cb λw bN e=>?_;refine dP e h λh=>?_;clear e;exact wpAny_Compare1 (aj _ _ _ _ _ _ _ ok I L av _ E λbt s' b3 bm bh bo=>ao _ _ _ _ _ _ _ ok bm (L.bx bh) aC _ E λgj d4 cJ cB cD eH=>
  aG _ _ _ _ _ _ _ _ _ ok cB (bo.bx cD) eH bN _ E λs3 cv X el=>h _ _ _ (cB.ext X) ((bh.trans cD).trans X.step) el) aP
theorem Inv.b0 (I:Inv B ae D s) {a:Addr} (h:s.heap.get? a=none):B.h0.get? a=none:=
 Option.eq_none_iff_forall_ne_some.mpr λo q=>bU (h.symm.trans (I.base _ _ q))
theorem aO.ji {h h':Heap} {i:Nat} {cv:Value} (r:aO ae h (.ref i) cv):aO ae h' (.ref i) cv:=aO.e3 (λ_ aj ao=>.ref _ _ aj ao) r
section
variable {a0:Type} {r:a0} {f:Nat->List V->Option a0} {g:Nat->List (V×V)->Option a0} {t:Nat->Nat->List V->Option a0} {v:V}
noncomputable def kN (f:Nat->List V->Option a0) (D:am):V->Option a0:=th λi=>(D[i]?).bind λo=>@az.casesOn.{1} (λ_=>Option a0) o (f i) (λ_=>none) (λ_ _=>none) none
noncomputable def lA (f:Nat->List (V×V)->Option a0) (D:am):V->Option a0:=th λi=>(D[i]?).bind λo=>@az.casesOn.{1} (λ_=>Option a0) o (λ_=>none) (f i) (λ_ _=>none) none
noncomputable def sY (f:Nat->Nat->List V->Option a0) (D:am):V->Option a0:=th λi=>(D[i]?).bind λo=>@az.casesOn.{1} (λ_=>Option a0) o (λ_=>none) (λ_=>none) (f i) none
@[elab_as_elim] theorem s6 {K:V->Prop} (k:∀i l,D[i]? =some (.list l)->f i l=some r->K (.ref i)) (e:kN f D v=some r):K v:=
 vr (λi=>bZ λo aG e=>by cases o <;> first | exact bU e | exact k _ _ aG e) e
@[elab_as_elim] theorem Jp {K:V->Prop} (k:∀i l,D[i]? =some (.dict l)->g i l=some r->K (.ref i)) (e:lA g D v=some r):K v:=
 vr (λi=>bZ λo aG e=>by cases o <;> first | exact bU e | exact k _ _ aG e) e
@[elab_as_elim] theorem Dd {K:V->Prop} (k:∀i C l,D[i]? =some (.inst C l)->t i C l=some r->K (.ref i)) (e:sY t D v=some r):K v:=
 vr (λi=>bZ λo aG e=>by cases o <;> first | exact bU e | exact k _ _ _ aG e) e
end
@[elab_as_elim] theorem Inv.qY {i:Nat} {o:az} {cv:Value} {K:Value->Prop} (I:Inv B ae D s) (h:D[i]? =some o) (n:o≠.bB) (k:∀q,ae[i]? =some (some q)->gC B.w ae s.heap q o->K (.ref q.1)) (r:aO ae s.heap (.ref i) cv):K cv:=
 a2 (I.at_ h n) λq bL rep=>aO.e3 (λa _ aZ=>aZ q bL▸k q bL rep) r
noncomputable def fx (D:am) (v:V):Option (List V):=(m3 some v).or (kN (λ_=>some) D v)
theorem lJ {v cv l} (I:Inv B ae D s) (r:aO ae s.heap v cv) (e:fx D v=some l):∃a items,cv=.ref a/\s.heap.IsList a items.toArray/\cC ae s.heap l items/\l.length<=big:=by
 refine dM (λe=>?_) (λe=>?_) e
 .refine yw (λl' items a e cT aW aA aZ=>?_) e r;revert e;refine s1 λy=>?_;subst y;exact ⟨a,items,rfl,aW,aZ,aA⟩
 .revert r;refine s6 (λi l h e r=>?_) e;revert e;refine s1 λy=>?_;subst y;refine Inv.qY I h (λz=>by cases z) (λq bL rep=>?_) r;refine gC.e3 ?_ rep;intro items n aj ao aL cm;exact ⟨q.1,items,rfl,⟨_,ao,rfl,n,rfl⟩,aL,cm⟩
noncomputable def jG (D:am) (v:V):Option Bool:=(m2 some v).or ((mg (some false) v).or ((fV (λi=>some (i != 0)) v).or ((gA (λl=>some (l.length != 0)) v).or ((fx D v).map λl=>l.length != 0))))
end
section
open PySem PySem.W PySem.W.X PyProof.Rows PySem.Calls PySem.SeqAt
open Mine (br KT)
variable {B:db} {c:eC} {ae bt:eu} {D:am} {s s':Shared} {X:List Addr} {ag:List V} {d:Nat}
theorem ce.push (s:Shared) (o:Obj):ce s {s with heap:=s.heap.push o}:=⟨λb dz e=>Heap.get?_push_of_some o e,rfl,rfl⟩
noncomputable def cV (_:am) (a b:V):Option V:=(hJ (λa b=>some (.int (a+b))) a b).or (q' (λa b=>if a.length+b.length<=big then some (.str (a++b)) else none) a b)
noncomputable def eA (_:am):V->V->Option V:=hJ λa b=>some (.int (a - b))
noncomputable def g5 (a:Int):Bool:=decide (a.natAbs < 2 ^ 60)
theorem JU {a:Int} (h:g5 a=true):Builtin.Int.intBits a<=64:=by
 unfold g5 at h;simp only [decide_eq_true_eq] at h;unfold Builtin.Int.intBits;split
 .lia
 .have h0:a.natAbs≠0:=by
   rename_i q;intro z;apply q;simp;lia
  have:=(Nat.log2_lt h0).mpr h;lia
noncomputable def gM (_:am):V->V->Option V:=hJ λa b=>if g5 b then some (.int (a * b)) else none
noncomputable def u2 (_:am):V->V->Option V:=hJ λa b=>if decide (0 < b) && g5 b then some (.int (a.fdiv b)) else none
noncomputable def fH (_:am):V->V->Option V:=hJ λa b=>if decide (0 < b) then some (.int (a.fmod b)) else none
noncomputable def kL (_:am):V->V->Option V:=hJ λa b=>if g5 a && (decide (0<=b) && decide (b<=100)) then some (.int (a ^ b.toNat)) else none
noncomputable def CG (_:am):V->V->Option V:=hJ λa b=>some (.int (Builtin.bitAnd a b))
noncomputable def CM (_:am):V->V->Option V:=hJ λa b=>some (.int (Builtin.bitOr a b))
noncomputable def mU (_:am):V->V->Option V:=hJ λa b=>if decide (0<=b) then some (.int (a.fdiv (2 ^ b.toNat))) else none
noncomputable def ej (_:am):V->Option V:=fV λa=>some (.int (-a))
theorem mc {x:Str} {l:List Nat} (h:x.cps.toList=l):x.length=l.length:=by rw [<- h];simp [Str.length]
theorem UC:ew B d (binaryOp .Add) cV:=λA ae D s a b b3 cJ v ok I b2 b' e Q E h=>by
 refine dM (λe=>?_) (λe=>?_) e
 .refine h7 (λi t j bA e=>?_) e b2 b';exact c1 e h λh=>add_int (h _ _ .toks (.int _ _))
 .refine vt (λx t y bA e _ _=>?_) e b2 b';refine ds (λaA e=>c1 e h λh=>?_) e;refine PyProof.Rows.add_str (λmd tk=>h _ _ .toks (.str _ _ _ ?_ ?_)) ?_
  .exact Array.toList_append
  .simpa using aA
  .rw [mc rfl,mc rfl];unfold big at aA;unfold sizeLine;lia
theorem U4:ew B d (binaryOp .Sub) eA:=λA ae D s a b b3 cJ v ok I b2 b' e Q E h=>
 h7 (λi t j bA e=>c1 e h λh=>PyProof.Rows.sub_int (h _ _ .toks (.int _ _))) e b2 b'
theorem Iv:ew B d (binaryOp .Mult) gM:=λA ae D s a b b3 cJ v ok I b2 b' e Q E h=>
 h7 (λi t j bA e=>ds (λq e=>c1 e h λh=>PyProof.Rows.mul_int (h _ _ .toks (.int _ _)) (IntMulOk.of_right (JU q))) e) e b2 b'
theorem Ih {a b:Int} (h:g5 b=true):Builtin.divisionGoesByPylong a b=false:=by
 unfold g5 at h;simp only [decide_eq_true_eq] at h;have k:¬((if b == 0 then 0 else b.natAbs.log2 / 30+1) > 300):=by
  split
  .lia
  .have h0:b.natAbs≠0:=by
    rename_i q;intro z;apply q;simp;lia
   have:=(Nat.log2_lt h0).mpr h;lia
 unfold Builtin.divisionGoesByPylong;dsimp only;rw [decide_eq_false k];rfl
theorem UG:ew B d (binaryOp .FloorDiv) u2:=λA ae D s a b b3 cJ v ok I b2 b' e Q E h=>
 h7 (λi t j bA e=>ds (λq e=>c1 e h λh=>PyProof.Rows.floordiv_int (Int.ne_of_gt (of_decide_eq_true (Bool.and_eq_true_iff.mp q).1)) (h _ _ .toks (.int _ _)) (.inl (Ih (Bool.and_eq_true_iff.mp q).2))) e) e b2 b'
theorem UU:ew B d (binaryOp .Mod) fH:=λA ae D s a b b3 cJ v ok I b2 b' e Q E h=>
 h7 (λi t j bA e=>ds (λq e=>c1 e h λh=>PyProof.Rows.mod_int (Int.ne_of_gt (of_decide_eq_true q)) (h _ _ .toks (.int _ _))) e) e b2 b'
theorem U1:ew B d (binaryOp .Pow) kL:=λA ae D s a b b3 cJ v ok I b2 b' e Q E h=>by
 refine h7 (λa t b bA e=>ds (λq e=>c1 e h λh=>?_) e) e b2 b';simp only [Bool.and_eq_true,decide_eq_true_eq] at q;refine PyProof.Rows.pow_int q.2.1 ?_ (h _ _ .toks (.int _ _));have:=JU q.1
 calc ((Builtin.Int.intBits a:Nat):Int) * b<=64 * b:=Int.mul_le_mul_of_nonneg_right (by lia) q.2.1
  _<=64 * 100:=by lia
  _<=2 ^ 27:=by decide
theorem UD:ew B d (binaryOp .BitAnd) CG:=λA ae D s a b b3 cJ v ok I b2 b' e Q E h=>
 h7 (λi t j bA e=>c1 e h λh=>PyProof.Rows.and_int (h _ _ .toks (.int _ _))) e b2 b'
theorem U0:ew B d (binaryOp .BitOr) CM:=λA ae D s a b b3 cJ v ok I b2 b' e Q E h=>
 h7 (λi t j bA e=>c1 e h λh=>PyProof.Rows.or_int (h _ _ .toks (.int _ _))) e b2 b'
theorem U2:ew B d (binaryOp .RShift) mU:=λA ae D s a b b3 cJ v ok I b2 b' e Q E h=>
 h7 (λi t j bA e=>ds (λq e=>c1 e h λh=>PyProof.Rows.rshift_int (of_decide_eq_true q) (h _ _ .toks (.int _ _))) e) e b2 b'
theorem Iw:Ex B d (unaryOp .USub) ej:=λA ae D s a b3 v ok I b2 e Q E h=>
 iv (λi t e=>c1 e h λh=>PyProof.Rows.neg_int (h _ _ .toks (.int _ _))) e b2
noncomputable def oLt (_:am) (a b:V):Option V:=(hJ (λa b=>some (.bool (decide (a < b)))) a b).or ((q' (λa b=>some (.bool (decide (a < b)))) a b).or (yv (λa b=>some (.bool (decide (b2i a < b2i b)))) a b))
noncomputable def eZ (_:am) (a b:V):Option V:=(hJ (λa b=>some (.bool (decide (b < a)))) a b).or ((q' (λa b=>some (.bool (decide (b < a)))) a b).or (yv (λa b=>some (.bool (decide (b2i b < b2i a)))) a b))
noncomputable def oLe (_:am) (a b:V):Option V:=(hJ (λa b=>some (.bool (decide (a<=b)))) a b).or (q' (λa b=>some (.bool (!decide (b < a)))) a b)
noncomputable def hl (_:am):V->V->Option V:=hJ λa b=>some (.bool (decide (b<=a)))
theorem Iu {A:Around} {a b v:V} {b3 cJ:Value} {Q:Value->Shared->Prop} {E:Value->Shared->Prop} (b2:aO ae s.heap a b3) (b':aO ae s.heap b cJ) (e:oLt D a b=some v) (h:y6 ae s Q v):
  wpAny (model br B.w) A (compareOp .Lt b3 cJ) Q E s:=
 dM (λe=>h7 (λi t j bA e=>c1 e h λh=>PyProof.Rows.lt_int (h _ _ (.refl _) (.bool _))) e b2 b')
  (dM (λe=>vt (λx t y bA e _ _=>c1 e h λh=>PyProof.Rows.lt_str (h _ _ (.refl _) (.bool _))) e b2 b')
   λe=>Kh (λi j e=>c1 e h λh=>PyProof.Rows.lt_bool (h _ _ (.refl _) (.bool _))) e b2 b') e
theorem US:ew B d (compareOp .Lt) oLt:=λA ae D s a b b3 cJ v ok I b2 b' e Q E h=>Iu b2 b' e h
theorem UK:ew B d (compareOp .Gt) eZ:=λA ae D s a b b3 cJ v ok I b2 b' e Q E h=>
 dM (λe=>h7 (λi t j bA e=>c1 e h λh=>PyProof.Rows.gt_int (h _ _ (.refl _) (.bool _))) e b2 b')
  (dM (λe=>vt (λx t y bA e _ _=>c1 e h λh=>P.gt_str (h _ _ (.refl _) (.bool _))) e b2 b')
   λe=>Kh (λi j e=>c1 e h λh=>PyProof.Rows.gt_bool (h _ _ (.refl _) (.bool _))) e b2 b') e
theorem UP:ew B d (compareOp .LtE) oLe:=λA ae D s a b b3 cJ v ok I b2 b' e Q E h=>
 dM (λe=>h7 (λi t j bA e=>c1 e h λh=>PyProof.Rows.le_int (h _ _ (.refl _) (.bool _))) e b2 b')
  (λe=>vt (λx t y bA e _ _=>c1 e h λh=>P.le_str (h _ _ (.refl _) (.bool _))) e b2 b') e
theorem UJ:ew B d (compareOp .GtE) hl:=λA ae D s a b b3 cJ v ok I b2 b' e Q E h=>
 h7 (λi t j bA e=>c1 e h λh=>PyProof.Rows.ge_int (h _ _ (.refl _) (.bool _))) e b2 b'
mutual
noncomputable def hT (D:am):V->Option PyData
 | .none=>some .none
 | .bool b=>some (.bool b)
 | .int i=>some (.int i)
 | .str l=>if l.all (λn=>decide (n < 0x110000)) then some (.str ⟨l.toArray⟩) else none
 | .tup l=>(kl D l).map .tuple
 | .ap l=>(kl D l).map .list
 | .de .. =>none
 | .ref _=>none
 | .hole=>none
 | .con _=>none
 | .u=>none
noncomputable def kl (D:am):List V->Option (List PyData)
 | []=>some []
 | v::l=>(hT D v).bind λd=>(kl D l).map (d::·)
end
noncomputable def ox (D:am) (v:V):Option PyData:=(kN (λ_ l=>(kl D l).map .list) D v).or (hT D v)
noncomputable def oj (h:Heap) (cv:Value) (da:PyData):Prop:=(∃as,Reads h cv da as)/\da.canLay0=true
noncomputable def zc (h:Heap) (cl:List Value) (c5:List PyData):Prop:=(∃as,ReadsAll h cl c5 as)/\PyData.canLayAll0 c5=true
theorem Aq {h:Heap}:∀{l:List V} {cl:List Value} {c5:List PyData},l.length=cl.length->(∀(k:Nat) (v:V) (cv:Value),l[k]? =some v->cl[k]? =some cv->∀da,hT D v=some da->oj h cv da)->kl D l=some c5->zc h cl c5:=by
 intro l;induction l with
 | nil=>
  intro cl c5 len _;refine s1 λy=>?_;subst y;have:=List.eq_nil_of_length_eq_zero len.symm;subst this;exact ⟨⟨_,.nil⟩,rfl⟩
 | cons v l bJ=>
  intro cl c5 len am e
  cases cl with
  | nil=>exact absurd len (Nat.succ_ne_zero _)
  | cons cv cl=>
   refine bZ (λd av=>cb λaaF aC y=>?_) e;subst y;refine cq (am 0 v cv rfl rfl d av) λy cz=>y.elim λas aj=>?_;refine cq (bJ (Nat.succ.inj len) (λk v cv a b=>am (k+1) v cv a b) aC) λy dB=>y.elim λbZ ao=>?_;exact ⟨⟨_,.cons aj ao⟩,Bool.and_eq_true_iff.mpr ⟨cz,dB⟩⟩
theorem OJ {h:Heap} {a:Addr} {items:List Value} {c5:List PyData} (cd:IsTup h a items.toArray) (r:zc h items c5):oj h (.ref a) (.tuple c5):=by
 refine gk cd λo aG bj=>d7 λn bn=>?_;exact r.1.elim λas bw=>⟨⟨_,.tuple aG bj bn (by simpa using bw)⟩,r.2⟩
theorem FU {h:Heap} {a:Addr} {items:List Value} {c5:List PyData} (cd:h.IsList a items.toArray) (r:zc h items c5):oj h (.ref a) (.list c5):=by
 refine gk cd λo aG bj=>d7 λn bn=>?_;exact r.1.elim λas bw=>⟨⟨_,.list aG bj bn (by simpa using bw)⟩,r.2⟩
theorem rN {v:V} {cv:Value} {da:PyData} {h:Heap} (r:aO ae h v cv):hT D v=some da->oj h cv da:=by
 induction r generalizing da with
 | none=>refine s1 λy=>?_;subst y;exact ⟨⟨_,.none⟩,rfl⟩
 | bool b=>refine s1 λy=>?_;subst y;exact ⟨⟨_,.bool _⟩,rfl⟩
 | int i t=>refine s1 λy=>?_;subst y;exact ⟨⟨_,.int _ _⟩,rfl⟩
 | str x l t aj ao=>
  refine ds λq=>s1 λy=>?_;subst y;have:x=⟨l.toArray⟩:=by subst aj;cases x;rfl
  subst this;refine ⟨⟨_,.str _ _⟩,?_⟩;show Array.all _ _=true;rw [<- Array.all_toList];simpa using q
 | tup l items a cT cd aA aW _ bJ=>exact cb λc5 e y=>y▸OJ cd (Aq aW (λk v cv a b da=>bJ k v cv a b) e)
 | ap l items a cT cd aA aW _ bJ=>exact cb λc5 e y=>y▸FU cd (Aq aW (λk v cv a b da=>bJ k v cv a b) e)
 | _=>exact bU
theorem FS {v:V} {cv:Value} {da:PyData} (I:Inv B ae D s) (r:aO ae s.heap v cv) (e:ox D v=some da):oj s.heap cv da:=by
 refine dM (λe=>?_) (rN r) e;revert r;refine s6 (λi l h e r=>?_) e;refine cb (λc5 aC y=>?_) e;subst y;refine fj (lJ I r (show fx D (.ref i)=some l by show (D[i]?).bind _=_;rw [h];rfl)) λa items aV aW aZ aA=>?_;subst aV;exact FU aW (Aq aZ.len (λk v cv a b da=>rN (aZ.at_ k v cv a b)) aC)
noncomputable def kJ (D:am) (a b:V):Option Bool:=(ox D a).bind λda=>(ox D b).bind λia=>if da.depth<=100 then some (PyData.eqv da ia) else none
noncomputable def oEq (D:am) (a b:V):Option V:=(kJ D a b).map .bool
noncomputable def ec (D:am) (a b:V):Option V:=(kJ D a b).map λk=>.bool (!k)
noncomputable def CI (D:am) (a b:V):Option Bool:=m4 (λl=>(hT D a).bind λda=>(kl D l).bind λc5=>if da.depth<=100 then some (c5.any λy=>PyData.eqv y da) else none) b
noncomputable def fq (D:am) (a b:V):Option V:=(CI D a b).map .bool
noncomputable def xK (D:am) (a b:V):Option V:=(CI D a b).map λk=>.bool (!k)
theorem eU.line {d A k} (ok:eU d A) (h:k<=101):A.units+k < cLine:=by have:=ok.vk;unfold cLine;lia
theorem eU.HP {d A k} (ok:eU d A) (h:k<=100):A.units+1+k < cLine:=Nat.add_assoc _ 1 k▸ok.line (Nat.add_le_add_left h 1)
theorem Iq {a b:V} {b3 cJ:Value} {k:Bool} {C:Prop} (I:Inv B ae D s) (b2:aO ae s.heap a b3) (b':aO ae s.heap b cJ) (K:∀{da ia as bZ},Reads s.heap b3 da as->Reads s.heap cJ ia bZ->da.canLay0=true->ia.canLay0=true->da.depth<=100->k=PyData.eqv da ia->C) (e:kJ D a b=some k):C:=
 bZ (λda av=>bZ λia aC=>ds λq=>s1 λy=>cq (FS I b2 av) λx cz=>x.elim λas aj=>cq (FS I b' aC) λx dB=>x.elim λbZ ao=>K aj ao cz dB q y.symm) e
theorem UH:ew B d (compareOp .Eq) oEq:=λA ae D s a b b3 cJ v ok I b2 b' e Q E h=>
 cb (λk av y=>by subst y;exact Iq I b2 b' (λaj ao cz dB q y=>by subst y;exact rcAt_reads aj ao cz dB (ok.line (Nat.le_trans (Nat.min_le_left _ _) (Nat.le_succ_of_le q))) br B.w E Q (h _ _ (.refl _) (.bool _))) av) e
theorem UW:ew B d (compareOp .NotEq) ec:=λA ae D s a b b3 cJ v ok I b2 b' e Q E h=>
 cb (λk av y=>by subst y;exact Iq I b2 b' (λaj ao cz dB q y=>by subst y;exact compareNe_reads aj ao cz dB (ok.line (Nat.le_trans (Nat.min_le_left _ _) (Nat.le_succ_of_le q))) (h _ _ (.refl _) (.bool _))) av) e
theorem Hl {a b:V} {b3 cJ:Value} {k:Bool} {C:Prop} (b2:aO ae s.heap a b3) (b':aO ae s.heap b cJ) (K:∀{c5 da as bZ},Reads s.heap cJ (.tuple c5) as->Reads s.heap b3 da bZ->PyData.canLayAll0 c5=true->da.canLay0=true->da.depth<=100->k=c5.any (λy=>PyData.eqv y da)->C) (e:CI D a b=some k):C:=by
 revert b';refine DB (λl e b'=>?_) e;refine bZ (λda av=>bZ λc5 aC=>ds λq=>s1 λy=>?_) e;refine cq (rN b2 av) λx cz=>x.elim λbZ aj=>?_;refine cq (rN (D:=D) (da:=.tuple c5) b' (congrArg (Option.map _) aC)) λx dB=>x.elim λas ao=>?_;exact K ao aj dB cz q y.symm
theorem UL:ew B d (compareOp .In) fq:=λA ae D s a b b3 cJ v ok I b2 b' e Q E h=>
 cb (λk av y=>by subst y;exact Hl b2 b' (λaj ao cz dB q y=>by subst y;exact in_tuple_reads aj ao cz dB (ok.HP (Nat.le_trans (Nat.min_le_right _ _) q)) (h _ _ (.refl _) (.bool _))) av) e
theorem UZ:ew B d (compareOp .NotIn) xK:=λA ae D s a b b3 cJ v ok I b2 b' e Q E h=>
 cb (λk av y=>by subst y;exact Hl b2 b' (λaj ao cz dB q y=>by subst y;exact notIn_tuple_reads aj ao cz dB (ok.HP (Nat.le_trans (Nat.min_le_right _ _) q)) (h _ _ (.refl _) (.bool _))) av) e
theorem py {A:Around} {v:V} {cv:Value} {b:Bool} {Q:Bool->Shared->Prop} {E:Value->Shared->Prop} (I:Inv B ae D s) (r:aO ae s.heap v cv) (e:jG D v=some b) (h:∀s',ce s s'->Q b s'):
  wpAny (model br B.w) A (truthy cv) Q E s:=by
 refine dM (λe=>pz (λi e=>c1 (κ:=λb=>∀s',ce s s'->Q b s') e h λh=>wpAny_truthy_bool (h _ (.refl _))) e r)
  (dM (λe=>vq (λe=>c1 (κ:=λb=>∀s',ce s s'->Q b s') e h λh=>PyProof.Rows.truthy_none (h _ (.refl _))) e r)
   (dM (λe=>iv (λi t e=>c1 (κ:=λb=>∀s',ce s s'->Q b s') e h λh=>PyProof.Rows.truthy_int (h _ (.refl _))) e r)
    (dM (λe=>iw (λl x t av aj ao=>?_) e r) (cb λl av y=>?_)))) e
 .subst y;refine fj (lJ I r av) λa items aV aW aZ aA=>?_;subst aV;refine wpAny_truthy_list aW (by simp only [List.size_toArray];rw [<- aZ.len];unfold big at aA;lia) ?_;have:(!items.toArray.isEmpty)=(l.length != 0):=by
   rw [aZ.len];cases items <;> rfl
  rw [this];exact h _ .toks
 .revert av;refine s1 λy=>?_;subst y;refine P.truthy_str (by rw [mc aj];unfold big at ao;lia) ?_;have:(((x.length:Nat):Int) != 0)=(l.length != 0):=by rw [mc aj];cases l <;> rfl
  rw [this];exact h _ .toks
noncomputable def a' (f:bK):dp:=λag D=>(f ag D).bind λp=>(jG p.2 p.1).map λb=>(b,p.2)
noncomputable def aD (op:am->V->V->Option V) (f g:bK):dp:=a' (aM op f g)
noncomputable def ek (f:dp):dp:=λag D=>(f ag D).map λp=>(!p.1,p.2)
noncomputable def gP (t a b:dp):dp:=λag D=>(t ag D).bind λp=>if p.1 then a ag p.2 else b ag p.2
noncomputable def bW:dp:=λ_ D=>some (true,D)
noncomputable def fD:dp:=λ_ D=>some (false,D)
noncomputable def bp (a b:dp):dp:=gP a b fD
noncomputable def dI (a b:dp):dp:=gP a bW b
noncomputable def cn (t:dp) (a b:bK):bK:=λag D=>(t ag D).bind λp=>if p.1 then a ag p.2 else b ag p.2
noncomputable def nt (a b:bK):bK:=λag D=>(a ag D).bind λp=>(jG p.2 p.1).bind λk=>if k then b ag p.2 else some p
noncomputable def p6 (a b:bK):bK:=λag D=>(a ag D).bind λp=>(jG p.2 p.1).bind λk=>if k then some p else b ag p.2
noncomputable def p5 (f:bK):bK:=λag D=>(f ag D).bind λp=>(jG p.2 p.1).map λk=>(.bool (!k),p.2)
theorem fM.plain {e f} (aj:Ev B c e f) (cW:∀env Kp,isTrue e env Kp=(do let v <- Kp;standAt e.pos;holding [v] (truthy v)):=by intro _ _;rfl):fM B c e (a' f):=λA ae D ag s v al ok I L e Q E h=>by
 revert e;refine cg λa ai av e=>?_;revert e;refine cb λk aC e=>?_;refine dP e h λh=>?_;clear e;exact isTrue_plain (aj _ _ _ _ _ _ _ ok I L av _ E λbt s' b3 bm bh bo=>py bm bo aC λd4 X=>h _ _ (bm.ext X) (bh.trans X.step)) (cW _ _)
theorem fM.cmp {op o l r f g pos} (aG:ew B c.d (compareOp o) op) (aj:Ev B c l f) (ao:Ev B c r g) (aP:behindInMarks o r=false:=by with_unfolding_all rfl):fM B c (.Compare l [o] [r] pos) (aD op f g):=λA ae D ag s v al ok I L e Q E h=>by
 revert e;refine cg λw a6 hb e=>?_;revert e;refine cb λk du e=>?_;revert hb;refine cg λa ai av fo=>?_;revert fo;refine cg λb aY aC hx=>?_;revert hx;refine cb λZ6 bN ws=>?_;revert ws;refine dt λbd bl=>?_;subst bd;subst bl;revert e;refine dt λbd bl=>?_;subst bd;subst bl;exact wpAny_isTrue_Compare1 (aj _ _ _ _ _ _ _ ok I L av _ E λbt s' b3 bm bh bo=>ao _ _ _ _ _ _ _ ok bm (L.bx bh) aC _ E λgj d4 cJ cB cD eH=>
  aG _ _ _ _ _ _ _ _ _ ok cB (bo.bx cD) eH bN _ E λs3 cv X el=>py (cB.ext X) el du λs4 gW=>h _ _ ((cB.ext X).ext gW) (((bh.trans cD).trans X.step).trans gW.step)) aP
theorem fM.not {x f pos} (aj:fM B c x f):fM B c (.UnaryOp .Not x pos) (ek f):=λA ae D ag s v al ok I L e Q E h=>by
 revert e;refine nX λk ai av e=>?_;refine dP e h λh=>?_;clear e;exact isTrue_not (aj _ _ _ _ _ _ _ ok I L av _ E λbt s' bm bh=>h _ _ bm bh)
theorem fM.ite {t a b lc oC hV pos} (aj:fM B c t lc) (ao:fM B c a oC) (aL:fM B c b hV):fM B c (.IfExp t a b pos) (gP lc oC hV):=λA ae D ag s v al ok I L e Q E h=>by
 revert e;refine cg λk ai av e=>?_;refine isTrue_IfExp (aj _ _ _ _ _ _ _ ok I L av _ E λbt s' bm bh=>?_)
 cases k
 .exact aL _ _ _ _ _ _ _ ok bm (L.bx bh) e _ E λgj d4 cB cD=>h _ _ cB (bh.trans cD)
 .exact ao _ _ _ _ _ _ _ ok bm (L.bx bh) e _ E λgj d4 cB cD=>h _ _ cB (bh.trans cD)
noncomputable def kU (B:db) (c:eC) (op:BoolOp) (es:List Expr) (f:dp):Prop:=
 ∀A ae D ag s v al,eU c.d A->Inv B ae D s->Loc B c ae ag s.heap->f ag D=some (v,al)->
  ∀(Q:Bool->Shared->Prop) (E:Value->Shared->Prop),KB B ae s Q al v->wpAny (model br B.w) A (allTrue op es c.env) Q E s
theorem kU.and_nil:kU B c .And [] bW:=λA ae D ag s v al ok I L e Q E h=>by refine a4 e h λh=>?_;clear e;exact wpAny_allTrue_And_nil (h _ _ I (.refl _ _ _))
theorem kU.or_nil:kU B c .Or [] fD:=λA ae D ag s v al ok I L e Q E h=>by refine a4 e h λh=>?_;clear e;exact wpAny_pure (h _ _ I (.refl _ _ _))
theorem kU.and {x es f g} (aj:fM B c x f) (ao:kU B c .And es g):kU B c .And (x::es) (bp f g):=λA ae D ag s v al ok I L e Q E h=>by
 revert e;refine cg λk ai av e=>?_;refine wpAny_allTrue_And_cons (aj _ _ _ _ _ _ _ ok I L av _ E λbt s' bm bh=>?_)
 cases k
 .refine a4 e h λh=>?_;clear e;exact h _ _ bm bh
 .exact ao _ _ _ _ _ _ _ ok bm (L.bx bh) e _ E λgj d4 cB cD=>h _ _ cB (bh.trans cD)
theorem kU.or {x es f g} (aj:fM B c x f) (ao:kU B c .Or es g):kU B c .Or (x::es) (dI f g):=λA ae D ag s v al ok I L e Q E h=>by
 revert e;refine cg λk ai av e=>?_;refine wpAny_allTrue_Or_cons (aj _ _ _ _ _ _ _ ok I L av _ E λbt s' bm bh=>?_)
 cases k
 .exact ao _ _ _ _ _ _ _ ok bm (L.bx bh) e _ E λgj d4 cB cD=>h _ _ cB (bh.trans cD)
 .refine a4 e h λh=>?_;clear e;exact h _ _ bm bh
theorem fM.bool {op es f pos} (aj:kU B c op es f):fM B c (.BoolOp op es pos) f:=λA ae D ag s v al ok I L e Q E h=>
 wpAny_isTrue_BoolOp (aj _ _ _ _ _ _ _ ok I L e Q E h)
theorem Ev.not {x f pos} (aj:Ev B c x f):Ev B c (.UnaryOp .Not x pos) (p5 f):=λA ae D ag s v al ok I L e Q E h=>by
 revert e;refine cg λa ai av e=>?_;revert e;refine cb λk aC e=>?_;refine dP e h λh=>?_;clear e;exact wpAny_UnaryOp (aj _ _ _ _ _ _ _ ok I L av _ E λbt s' b3 bm bh bo=>not_of (py bm bo aC λd4 X=>h _ _ _ (bm.ext X) (bh.trans X.step) (.bool _)))
theorem Ev.ite {t a b lc oC hV pos} (aj:fM B c t lc) (ao:Ev B c a oC) (aL:Ev B c b hV):Ev B c (.IfExp t a b pos) (cn lc oC hV):=λA ae D ag s v al ok I L e Q E h=>by
 revert e;refine cg λk ai av e=>?_;refine wpAny_IfExp (aj _ _ _ _ _ _ _ ok I L av _ E λbt s' bm bh=>?_)
 cases k
 .exact aL _ _ _ _ _ _ _ ok bm (L.bx bh) e _ E λgj d4 cv cB cD R=>h _ _ _ cB (bh.trans cD) R
 .exact ao _ _ _ _ _ _ _ ok bm (L.bx bh) e _ E λgj d4 cv cB cD R=>h _ _ _ cB (bh.trans cD) R
theorem Ev.and {x y f g pos} (aj:Ev B c x f) (ao:Ev B c y g):Ev B c (.BoolOp .And [x,y] pos) (nt f g):=λA ae D ag s v al ok I L e Q E h=>by
 revert e;refine cg λa ai av e=>?_;revert e;refine bZ λk aC e=>?_;refine wpAny_And2 (aj _ _ _ _ _ _ _ ok I L av _ E λbt s' b3 bm bh bo=>py bm bo aC λd4 X=>?_)
 cases k
 .refine a4 e h λh=>?_;clear e;exact h _ _ _ (bm.ext X) (bh.trans X.step) (bo.bx X.step)
 .exact ao _ _ _ _ _ _ _ ok (bm.ext X) (L.bx (bh.trans X.step)) e _ E λgj d4 cv cB cD R=>h _ _ _ cB ((bh.trans X.step).trans cD) R
theorem Ev.or {x y f g pos} (aj:Ev B c x f) (ao:Ev B c y g):Ev B c (.BoolOp .Or [x,y] pos) (p6 f g):=λA ae D ag s v al ok I L e Q E h=>by
 revert e;refine cg λa ai av e=>?_;revert e;refine bZ λk aC e=>?_;refine wpAny_Or2 (aj _ _ _ _ _ _ _ ok I L av _ E λbt s' b3 bm bh bo=>py bm bo aC λd4 X=>?_)
 cases k
 .exact ao _ _ _ _ _ _ _ ok (bm.ext X) (L.bx (bh.trans X.step)) e _ E λgj d4 cv cB cD R=>h _ _ _ cB ((bh.trans X.step).trans cD) R
 .refine a4 e h λh=>?_;clear e;exact h _ _ _ (bm.ext X) (bh.trans X.step) (bo.bx X.step)
noncomputable def iI (qP qQ:am->V->V->Option V) (f g k:bK):bK:=λag D=>(f ag D).bind λp=>(g ag p.2).bind λq=>(qP q.2 p.1 q.1).bind λw=>(jG q.2 w).bind λt=>
 if t then (k ag q.2).bind λr=>(qQ r.2 q.1 r.1).map λv=>(v,r.2) else some (w,q.2)
theorem Ev.chain {qP qQ c1 a4 l r1 cp f g k pos} (Bs:ew B c.d (compareOp c1) qP) (he:ew B c.d (compareOp a4) qQ) (aj:Ev B c l f) (ao:Ev B c r1 g) (aL:Ev B c cp k)
  (aP:lastMarks [c1,a4] [r1,cp]=false:=by with_unfolding_all rfl):Ev B c (.Compare l [c1,a4] [r1,cp] pos) (iI qP qQ f g k):=λA ae D ag s v al ok I L e Q E h=>by
 revert e;refine cg λa ai av e=>?_;revert e;refine cg λb aY aC e=>?_;revert e;refine bZ λw bN e=>?_;revert e;refine bZ λt du e=>?_;refine Compare_chain (aj _ _ _ _ _ _ _ ok I L av _ E λbt s' b3 bm bh bo=>chain_link (ao _ _ _ _ _ _ _ ok bm (L.bx bh) aC _ E λgj d4 cJ cB cD eH=>
  Bs _ _ _ _ _ _ _ _ _ ok cB (bo.bx cD) eH bN _ E λs3 cv X el=>py (cB.ext X) el du λs4 gW=>?_)) aP
 have hO:=(cB.ext X).ext gW;have gD:=((bh.trans cD).trans X.step).trans gW.step
 cases t
 .revert e;refine s2 λbd bl=>?_;subst bd;subst bl;exact h _ _ _ hO gD (el.bx gW.step)
 .revert e;refine cg λbA dZ fo e=>?_;revert e;refine cb λtf hx e=>?_;refine dP e h λh=>?_;clear e;exact chain_last (aL _ _ _ _ _ _ _ ok hO (L.bx gD) fo _ E λaar s5 iF jM gV y'=>
   he _ _ _ _ _ _ _ _ _ ok jM (((eH.bx X.step).bx gW.step).bx gV) y' hx _ E λj0 Ov rz tH=>h _ _ _ (jM.ext rz) ((gD.trans gV).trans rz.step) tH)
theorem fM.chain {qP qQ c1 a4 l r1 cp f g k pos} (Bs:ew B c.d (compareOp c1) qP) (he:ew B c.d (compareOp a4) qQ) (aj:Ev B c l f) (ao:Ev B c r1 g) (aL:Ev B c cp k)
  (aP:lastMarks [c1,a4] [r1,cp]=false:=by with_unfolding_all rfl):fM B c (.Compare l [c1,a4] [r1,cp] pos) (a' (iI qP qQ f g k)):=λA ae D ag s v al ok I L e Q E h=>by
 revert e;refine cg λz aa3 hb mA=>?_;revert mA;refine cb λaaR tY mA=>?_;refine dP mA h λh=>?_;clear mA;revert hb;refine cg λa ai av e=>?_;revert e;refine cg λb aY aC e=>?_;revert e;refine bZ λw bN e=>?_;revert e;refine bZ λt du e=>?_;refine isTrue_chain (aj _ _ _ _ _ _ _ ok I L av _ E λbt s' b3 bm bh bo=>test_link (ao _ _ _ _ _ _ _ ok bm (L.bx bh) aC _ E λgj d4 cJ cB cD eH=>
  Bs _ _ _ _ _ _ _ _ _ ok cB (bo.bx cD) eH bN _ E λs3 cv X el=>py (cB.ext X) el du λs4 gW=>?_)) aP
 have hO:=(cB.ext X).ext gW;have gD:=((bh.trans cD).trans X.step).trans gW.step
 cases t
 .revert e;refine s2 λbd bl=>?_;subst bd;subst bl;rw [du] at tY;revert tY;refine s1 λbd=>?_;subst bd;exact h _ _ hO gD
 .revert e;refine cg λbA dZ fo e=>?_;revert e;refine cb λtf hx e=>?_;revert e;refine dt λbd bl=>?_;subst bd;subst bl;exact test_last (aL _ _ _ _ _ _ _ ok hO (L.bx gD) fo _ E λaar s5 iF jM gV y'=>
   he _ _ _ _ _ _ _ _ _ ok jM (((eH.bx X.step).bx gW.step).bx gV) y' hx _ E λj0 Ov rz tH=>py (jM.ext rz) tH tY λkO EJ=>h _ _ ((jM.ext rz).ext EJ) (((gD.trans gV).trans rz.step).trans EJ.step))
inductive i3 where | nx | gX | ret (v:V)
inductive vJ (ae:eu) (h:Heap):i3->Flow->Prop
 | nx:vJ ae h .nx .next
 | gX:vJ ae h .gX .brk
 | ret (v cv):aO ae h v cv->vJ ae h (.ret v) (.ret cv)
noncomputable abbrev aU:=List V->am->Option (i3×List V×am)
noncomputable def Ep (B:db) (c:eC) (ae:eu) (s:Shared) (Q:Flow->Shared->Prop) (r:i3) (bX:List V) (al:am):Prop:=∀bt s' dL,Inv B bt al s'->Step c.X ae s bt s'->Loc B c bt bX s'.heap->vJ bt s'.heap r dL->Q dL s'
noncomputable def et (B:db) (c:eC) (st:Stmt) (g:aU):Prop:=
 ∀A ae D ag s r bX al,eU c.d A->Inv B ae D s->Loc B c ae ag s.heap->g ag D=some (r,bX,al)->
  ∀(Q:Flow->Shared->Prop) (E:Value->Shared->Prop),Ep B c ae s Q r bX al->wpAny (model br B.w) A (exec st c.env) Q E s
noncomputable def hM (B:db) (c:eC) (st:List Stmt) (g:aU):Prop:=
 ∀A ae D ag s r bX al,eU c.d A->Inv B ae D s->Loc B c ae ag s.heap->g ag D=some (r,bX,al)->
  ∀(Q:Flow->Shared->Prop) (E:Value->Shared->Prop),Ep B c ae s Q r bX al->wpAny (model br B.w) A (execs st c.env) Q E s
noncomputable def aq:aU:=λag D=>some (.nx,ag,D)
noncomputable def af (f g:aU):aU:=λag D=>(f ag D).bind λp=>match p.1 with
 | .nx=>g p.2.1 p.2.2
 | _=>some p
noncomputable def a7 (t:dp) (f g:aU):aU:=λag D=>(t ag D).bind λp=>if p.1 then f ag p.2 else g ag p.2
noncomputable def aR (f:bK):aU:=λag D=>(f ag D).map λp=>(.ret p.1,ag,p.2)
noncomputable def b9 (f:bK):aU:=λag D=>(f ag D).map λp=>(.nx,ag,p.2)
noncomputable def a1 (k:Nat) (f:bK):aU:=λag D=>(f ag D).map λp=>(.nx,ag.set k p.1,p.2)
noncomputable def pn:aU:=λag D=>some (.gX,ag,D)
noncomputable def g4 (t:dp) (f:aU):Nat->aU
 | 0=>λ_ _=>none
 | n+1=>λag D=>(t ag D).bind λp=>if p.1 then (f ag p.2).bind λr=>match r.1 with
   | .nx=>g4 t f n r.2.1 r.2.2
   | .gX=>some (.nx,r.2.1,r.2.2)
   | .ret v=>some (.ret v,r.2.1,r.2.2)
  else some (.nx,ag,p.2)
theorem Ns.Gz {h:Heap} {a:Addr} {m m':Str->Option Value} (x:h.Ns a m) (y:h.Ns a m'):m=m':=x.eq_nsMap.trans y.eq_nsMap.symm
theorem vf {x:Str} {bO:NameKind} {k:Nat} {v:V} {cv:Value} {A:Around} {Q:Unit->Shared->Prop} {E:Value->Shared->Prop} (ax:c.names[k]? =some (x,bO)) (aW:bO=.local\/(bO=.cell/\c.own=true)) (I:Inv B ae D s) (L:Loc B c ae ag s.heap)
  (R:aO ae s.heap v cv) (h:∀s',Inv B ae D s'->Step c.X ae s ae s'->Loc B c ae (ag.set k v) s'.heap->ce s {s' with heap:=s.heap}->Q () s'):wpAny (model br B.w) A (storeName c.env x cv) Q E s:=by
 have fC:=L.kind ax;have cX:((c.names.map (·.1)).Nodup):=by
  have g:=L.good;simp only [iJ,Bool.and_eq_true,decide_eq_true_eq] at g;exact g.1
 have Kd:∀(j:Nat) (y:Str) (lW:NameKind),c.names[j]? =some (y,lW)->y=x->j=k:=by
  intro j y lW aX dr;subst dr;have aj:(c.names.map (·.1))[j]? =some y:=by rw [List.getElem?_map,aX];rfl
  have ao:(c.names.map (·.1))[k]? =some y:=by rw [List.getElem?_map,ax];rfl
  have Tv:=(List.getElem?_eq_some_iff.mp aj).1;exact (List.getElem?_inj Tv cX).mp (aj.trans ao.symm)
 have fin:∀(s':Shared) (a:Addr) (b8:Obj),a∈c.X->s'.gens=s.gens->s'.os=s.os->Heap.SameBut a s.heap s'.heap->s'.heap.get? a=some b8->fS b8=true->
   Inv B ae D s'/\Step c.X ae s ae s'/\hq c.X s'.heap:=by
  intro s' a b8 bw cr aG c7 oI aw;have hk:∀b o,s.heap.get? b=some o->b∉c.X->s'.heap.get? b=some o:=λb o e n=>(c7.2 b λq=>n (q▸bw)).trans e;have st:Step c.X ae s ae s':=by
   refine ⟨λb o e _ n=>hk b o e n,λb e=>?_,Nat.le_refl _,λ_ _ _ e=>e,λi q aJ e=>by have:=(List.getElem?_eq_some_iff.mp e).1;lia⟩
   by_cases q:b=a
   .subst q;rw [oI] at e;cases e
   .rw [<- c7.2 b q];exact e
  refine ⟨I.gy st L.gy L.out hk L.fresh cr aG,st,λb aA=>?_⟩
  by_cases q:b=a
  .subst q;exact ⟨b8,oI,aw⟩
  .refine a2 (L.gy b aA) λo e p=>?_;exact ⟨o,(c7.2 b q).trans e,p⟩
 rcases aW with rfl | ⟨rfl,own⟩
 .refine cH L.ns λm aP=>?_;refine wpAny_storeName_local fC aP (λh' a3 c7=>?_) (by rw [c.hk];rfl);have uq:=a3;revert uq;refine oh λb8 es d9 cr bn _=>?_;refine iz (fin {s with heap:=h',toks:=s.toks+1} c.env.locals b8 c.qA rfl rfl c7 cr (by unfold fS;rw [bn];rfl)) λbm st pv=>?_;have Fh:∀a v,s.heap.IsCell a v->a≠c.env.locals:=by
   rintro a v ⟨o,aj,ao⟩ q
   revert aP;refine oh λa4 Qd P' aL cm _=>?_;rw [q,aL] at aj;revert aj;refine s1 λbd=>?_;subst bd;rw [cm] at ao;cases ao
  refine h _ bm st ⟨L.good,⟨_,a3⟩,λj y lW w aj ao aL cm=>?_,λj y aj=>?_,L.inj,L.out,L.fresh,pv⟩ ce.toks
  .by_cases aX:j=k
   .subst aX;rw [ax] at aj;revert aj;refine s2 λbd bl=>?_;subst bd;subst bl;rw [List.getElem?_set_self' ] at aL;have:w=v:=by
     cases aZ:ag[j]? with
     | none=>rw [aZ] at aL;simp at aL
     | some bA=>rw [aZ] at aL;simpa using aL.symm
    subst this;exact .loc cv ⟨_,a3,by simp⟩ (R.step st L.gy)
   .rw [List.getElem?_set_ne (λq=>aX q.symm)] at aL;have nF:y≠x:=λq=>aX (Kd j y lW aj q)
    cases L.held j y lW w aj ao aL cm with
    | loc cF av aC=>
     revert av;refine eQ λqC jX av=>?_;rw [Ns.Gz jX aP] at av;exact .loc cF ⟨_,a3,by rw [if_neg nF];exact av⟩ (aC.step st L.gy)
    | cell a cF bO hk av aC bN du=>
     revert aC;refine eQ λo f1 f2=>?_;exact .cell a cF _ hk av ⟨o,(c7.2 a (Fh a _ ⟨o,f1,f2⟩)).trans f1,f2⟩ bN (du.step st L.gy)
  .refine fj (L.cell j y aj) λa w ao aL jS ci=>?_;revert ci;refine eQ λo cm eg=>?_;exact ⟨a,w,ao,aL,jS,o,(c7.2 a (Fh a _ ⟨o,cm,eg⟩)).trans cm,eg⟩
 .refine fj (L.cell k x ax) λa Kg jW GK Bp nC=>?_;have GJ:=GK own;refine cH L.ns λm aP=>?_;refine wpAny_storeName_cell c.hk fC jW nC λh' Q' c7=>?_;revert Q';refine eQ λb8 cr bn=>?_;refine iz (fin {s with heap:=h'} a b8 GJ rfl rfl c7 cr (by unfold fS;rw [bn];rfl)) λbm st pv=>?_;have fB:c.env.locals≠a:=by
   intro q;revert aP;refine oh λa4 Qd P' aL cm _=>?_;revert nC;refine eQ λo aj ao=>?_;rw [<- q,aL] at aj;revert aj;refine s1 λbd=>?_;subst bd;rw [cm] at ao;cases ao
  have jt:h'.Ns c.env.locals m:=sN aP λo e=>(c7.2 _ fB).trans e;refine h _ bm st ⟨L.good,⟨_,jt⟩,λj y lW w aj ao aL cm=>?_,λj y aj=>?_,L.inj,L.out,L.fresh,pv⟩ (.refl _)
  .by_cases aX:j=k
   .subst aX;rw [ax] at aj;revert aj;refine s2 λbd bl=>?_;subst bd;subst bl;rw [List.getElem?_set_self' ] at aL;have:w=v:=by
     cases aZ:ag[j]? with
     | none=>rw [aZ] at aL;simp at aL
     | some bA=>rw [aZ] at aL;simpa using aL.symm
    subst this;exact .cell a cv _ (.inl rfl) jW ⟨b8,cr,bn⟩ (L.out a GJ) (R.step st L.gy)
   .rw [List.getElem?_set_ne (λq=>aX q.symm)] at aL;have nF:y≠x:=λq=>aX (Kd j y lW aj q)
    cases L.held j y lW w aj ao aL cm with
    | loc cF av aC=>
     revert av;refine eQ λqC jX av=>?_;rw [Ns.Gz jX aP] at av;exact .loc cF ⟨_,jt,av⟩ (aC.step st L.gy)
    | cell b cF bO hk av aC bN du=>
     revert aC;refine eQ λo f1 f2=>?_;have A0:b≠a:=λq=>nF (L.inj y x a (q▸av) jW);exact .cell b cF _ hk av ⟨o,(c7.2 b A0).trans f1,f2⟩ bN (du.step st L.gy)
  .by_cases nF:y=x
   .subst nF;exact ⟨a,_,jW,GK,Bp,b8,cr,bn⟩
   .refine fj (L.cell j y aj) λb w ao aL jS ci=>?_;revert ci;refine eQ λo cm eg=>?_;have A0:b≠a:=λq=>nF (L.inj y x a (q▸ao) jW);exact ⟨b,w,ao,aL,jS,o,(c7.2 b A0).trans cm,eg⟩
noncomputable def lV (own:Bool):NameKind->Bool | .local=>true | .cell=>own | _=>false
theorem wX {own:Bool} {bO:NameKind} (h:lV own bO=true):bO=.local\/(bO=.cell/\own=true):=by cases bO <;> simp_all [lV]
theorem hM.nil:hM B c [] aq:=λA ae D ag s r bX al ok I L e Q E h=>by refine kI e h λh=>?_;clear e;exact wpAny_execs_nil (h _ _ _ I (.refl _ _ _) L .nx)
theorem hM.cons {st fJ f g} (aj:et B c st f) (ao:hM B c fJ g):hM B c (st::fJ) (af f g):=λA ae D ag s r bX al ok I L e Q E h=>by
 revert e;refine tS λr1 cc ai av e=>?_;refine wpAny_execs_cons (aj _ _ _ _ _ _ _ _ ok I L av _ E λbt s' dL bm bh fE bo=>?_)
 cases bo with
 | nx=>exact ao _ _ _ _ _ _ _ _ ok bm fE e _ E λgj d4 aaH cB cD hP eH=>h _ _ _ cB (bh.trans cD) hP eH
 | gX=>refine kI e h λh=>?_;clear e;exact h _ _ _ bm bh fE .gX
 | ret v cv gz=>refine kI e h λh=>?_;clear e;exact h _ _ _ bm bh fE (.ret _ _ gz)
theorem et.ite {t a b pos lc oC hV} (aj:fM B c t lc) (ao:hM B c a oC) (aL:hM B c b hV):et B c (.If t a b pos) (a7 lc oC hV):=λA ae D ag s r bX al ok I L e Q E h=>by
 revert e;refine cg λk ai av e=>?_;refine wpAny_If (aj _ _ _ _ _ _ _ ok I L av _ E λbt s' bm bh=>?_)
 cases k
 .exact aL _ _ _ _ _ _ _ _ ok bm (L.bx bh) e _ E λgj d4 cv cB cD hP R=>h _ _ _ cB (bh.fW.trans cD) hP R
 .exact ao _ _ _ _ _ _ _ _ ok bm (L.bx bh) e _ E λgj d4 cv cB cD hP R=>h _ _ _ cB (bh.fW.trans cD) hP R
theorem et.ret {e f pos} (aj:Ev B c e f):et B c (.Return (some e) pos) (aR f):=λA ae D ag s r bX al ok I L e Q E h=>by
 revert e;refine nX λv ai av e=>?_;refine gx e h λh=>?_;clear e;exact wpAny_Return_some (aj _ _ _ _ _ _ _ ok I L av _ E λbt s' cv bm bh bo=>h _ _ _ bm bh.fW (L.bx bh) (.ret _ _ bo))
theorem et.expr {e f pos} (aj:Ev B c e f) (hs:∀env,swapsWith e none pos.line env=pure false:=by intro _;rfl):et B c (.Expr e pos) (b9 f):=λA ae D ag s r bX al ok I L e Q E h=>by
 revert e;refine nX λv ai av e=>?_;refine gx e h λh=>?_;clear e;exact wpAny_Expr_any (aj _ _ _ _ _ _ _ ok I L av _ E λbt s' cv bm bh bo=>h _ _ _ bm bh.fW (L.bx bh) .nx) c.aJ (hs _)
theorem et.set {x px value pos f} {k:Nat} {bO} (ax:c.names[k]? =some (x,bO)) (aW:lV c.own bO=true) (aj:Ev B c value f) (hs:∀env,swapsWith value (some (.Name x px)) pos.line env=pure false:=by intro _;rfl):
  et B c (.Assign [.Name x px] value pos) (a1 k f):=λA ae D ag s r bX al ok I L e Q E h=>by
 revert e;refine nX λv ai av e=>?_;refine gx e h λh=>?_;clear e;exact wpAny_Assign_Name (aj _ _ _ _ _ _ _ ok I L av _ E λbt s' cv bm bh bo=>vf ax (wX aW) bm (L.bx bh) bo λd4 cB cD hP _=>h _ _ _ cB (bh.fW.trans cD) hP .nx) (hs _)
theorem et.brk {pos}:et B c (.Break pos) pn:=λA ae D ag s r bX al ok I L e Q E h=>by refine kI e h λh=>?_;clear e;exact wpAny_Break (h _ _ _ I (.refl _ _ _) L .gX)
theorem et.pass {pos}:et B c (.Pass pos) aq:=λA ae D ag s r bX al ok I L e Q E h=>by refine kI e h λh=>?_;clear e;exact wpAny_Pass (h _ _ _ I (.refl _ _ _) L .nx)
theorem et.aug {x px op value pos o f} {k:Nat} {bO} (ax:c.names[k]? =some (x,bO)) (aW:lV c.own bO=true) (aG:ew B c.d (inplaceOp op) o) (aj:Ev B c value f):et B c (.AugAssign (.Name x px) op value pos) (a1 k (aM o (G k) f)):=λA ae D ag s r bX al ok I L e Q E h=>by
 revert e;refine nX λv ai av e=>?_;refine gx e h λh=>?_;clear e;revert av;refine cg λa aaq lO av=>?_;revert av;refine cg λb ix nv av=>?_;revert av;refine cb λw AH av=>?_;revert av;refine dt λbd bl=>?_;subst bd;subst bl;have aI:=Ev.var (B:=B) (pos:=px) ax (by cases bO <;> simp_all [lV,nH]);have aI:ag[k]? =some a/\aaq=D/\a≠.u:=by
  revert lO;refine bZ λw hw e=>?_;split at e
  .exact bU e
  .rename_i a3;revert e;refine s2 λbd bl=>?_;subst bd;subst bl;exact ⟨hw,rfl,λq=>a3 (by rw [q];rfl)⟩
 revert aI;refine og λaI bl dD=>?_;subst bl;have fin:∀b3,aO ae s.heap a b3->wpAny (model br B.w) A (eval value c.env) (λv yp=>wpAny (model br B.w) A (inplaceOp op b3 v) (λr pu=>wpAny (model br B.w) A (storeName c.env x r) (λ_=>Q .next) E pu) E yp) E s:=λb3 b2=>
  aj _ _ _ _ _ _ _ ok I L nv _ E λbt s' cJ bm bh bo=>aG _ _ _ _ _ _ _ _ _ ok bm (b2.bx bh) bo AH _ E λs3 cv X el=>
   vf ax (wX aW) (bm.ext X) (L.bx (bh.trans X.step)) el λd4 cB cD hP _=>h _ _ _ cB ((bh.trans X.step).fW.trans cD) hP .nx
 have fC:=L.kind ax;refine wpAny_AugAssign_Name ?_
 cases L.held k x bO a ax (by cases bO <;> simp_all [lV,nH]) aI dD with
 | loc cv hK ob=>
  revert hK;refine eQ λm aP hK=>?_;exact wpAny_loadName_local c.hk fC aP hK (fin cv ob)
 | cell b cv bO hk hK ob aa1 aan=>
  rcases hk with rfl | rfl
  .exact wpAny_loadName_cell c.hk fC hK ob (fin cv aan)
  .cases aW
theorem et.aag {t body pos lc hV} {N:Nat} (aj:fM B c t lc) (ao:hM B c body hV):et B c (.While t body [] pos) (g4 lc hV N):=λA ae D ag s r bX al ok I L e Q E h=>by
 refine wpAny_While (codeAny_whileLoop (λn s1=>∃d5 ai cc,Inv B d5 ai s1/\Step c.X ae s d5 s1/\Loc B c d5 cc s1.heap/\g4 lc hV n cc ai=some (r,bX,al)) ?_ N ⟨ae,D,ag,I,.refl _ _ _,L,e⟩)
 rintro n s1 ⟨d5,ai,cc,I1,dT,hQ,av⟩
 cases n with
 | zero=>exact bU av
 | succ n=>
  revert av;refine cg λk aY aC av=>?_;refine aj _ _ _ _ _ _ _ ok I1 hQ aC _ _ λtp s2 gB c8=>?_;have vU:=dT.trans c8.fW
  cases k
  .refine kI av h λh=>?_;clear av;exact wpAny_execs_nil (h _ _ _ gB vU (hQ.bx c8) .nx)
  .revert av;refine tS λr3 aap a6 bN av=>?_;refine ao _ _ _ _ _ _ _ _ ok gB (hQ.bx c8) bN _ _ λlD s3 dL d0 c9 kY el=>?_
   cases el with
   | nx=>exact ⟨n,Nat.lt_succ_self n,lD,a6,aap,d0,vU.trans c9,kY,av⟩
   | gX=>refine kI av h λh=>?_;clear av;exact h _ _ _ d0 (vU.trans c9) kY .nx
   | ret v cv gz=>refine kI av h λh=>?_;clear av;exact h _ _ _ d0 (vU.trans c9) kY (.ret _ _ gz)
noncomputable abbrev gS:=List V->am->Option (List V×am)
noncomputable abbrev bf:=List V->am->Option (V×am)
noncomputable def Lx (B:db) (ae:eu) (s:Shared) (Q:List Value->Shared->Prop) (al:am) (v:List V):Prop:=∀bt s' cv,Inv B bt al s'->Step [] ae s bt s'->cC bt s'.heap v cv->Q cv s'
noncomputable def i1 (B:db) (c:eC) (pos:Pos) (es:List Expr) (f:gS):Prop:=
 ∀A ae D ag s v al,eU c.d A->Inv B ae D s->Loc B c ae ag s.heap->f ag D=some (v,al)->
  ∀(Q:List Value->Shared->Prop) (E:Value->Shared->Prop),Lx B ae s Q al v->wpAny (model br B.w) A (spliced (backTo pos (starEach es c.env))) Q E s
noncomputable def aa:gS:=λ_ D=>some ([],D)
noncomputable def H (f:bK) (g:gS):gS:=λag D=>(f ag D).bind λp=>(g ag p.2).map λq=>(p.1::q.1,q.2)
theorem i1.nil {pos}:i1 B c pos [] aa:=λA ae D ag s v al ok I L e Q E h=>by
 refine a4 e h λh=>?_;clear e;exact args_nil (h _ _ _ I (.refl _ _ _) .nil)
theorem i1.cons {pos e es f g} (aj:Ev B c e f) (ao:i1 B c pos es g) (cW:∀env,starEach (e::es) env=(false,eval e env)::starEach es env:=by intro _;rfl):i1 B c pos (e::es) (H f g):=λA ae D ag s v al ok I L e Q E h=>by
 revert e;refine cg λa ai av e=>?_;revert e;refine nX λl aY aC e=>?_;refine dP e h λh=>?_;clear e;exact args_cons (aj _ _ _ _ _ _ _ ok I L av _ E λbt s' b3 bm bh bo=>ao _ _ _ _ _ _ _ ok bm (L.bx bh) aC _ E λgj d4 cl cB cD eH=>
  h _ _ _ cB (bh.trans cD) (.cons (bo.bx cD) eH)) (cW _)
noncomputable def j9 (B:db) (f:Value):Prop:=∀(A:Around) (E:Value->Shared->Prop) (s:Shared) (pos:Pos) (first:List Value) (args:List (Bool×Sem Value)) (Q:Value->Shared->Prop),args.any (·.1)=false->
 wpAny (model br B.w) A (evalArgs f true args []) (λa g6=>(KT B.w.params).In g6.heap/\wpAny (model br B.w) A (call f (first++a.pos) a.kw) Q E g6) E s->wpAny (model br B.w) A (callWith pos f first args []) Q E s
theorem j9.K {f:Value} (h:keepIn (KT B.w.params) f=true):j9 B f:=λA E s pos first args Q aw z=>callWith_of (by rw [aw];rfl) (keeps_K h) z
theorem j9.builtin {id:String}:j9 B (.builtin id):=λA E s pos first args Q aw z=>Calls.callWith_builtin aw (wpAny_mono z (λ_ _ q=>q.2) λ_ _ q=>q)
theorem j9.type {T:String}:j9 B (.type T):=λA E s pos first args Q aw z=>PySem.callWith_type aw (wpAny_mono z (λ_ _ q=>q.2) λ_ _ q=>q)
noncomputable def cw (B:db) (d:Nat) (fv:Value) (F:bf):Prop:=
 ∀A ae D s args cI v al,eU d A->Inv B ae D s->cC ae s.heap args cI->F args D=some (v,al)->
  ∀(Q:Value->Shared->Prop) (E:Value->Shared->Prop),vP B ae s Q al v->wpAny (model br B.w) A (call fv cI) Q E s
theorem eU.le {d FL A} (ok:eU d A) (h:FL<=d):eU FL A:=⟨ok.hand,by have:=ok.dep;lia,by have:=ok.vk;lia⟩
noncomputable def qT (es:List Expr):Prop:=∀pos env,(backTo pos (starEach es env)).any (·.1)=false
theorem wl {fv:Value} {F:bf} {first:List V} {wi:List Value} {l:List V} {es:List Expr} {f:gS} {A:Around} {pos:Pos} {v:V} {ai al:am} {Q:Value->Shared->Prop} {E:Value->Shared->Prop} (bj:j9 B fv) (hf:cw B d fv F) (bn:d<=c.d) (aw:qT es)
  (aj:i1 B c pos es f) (ok:eU c.d A) (I:Inv B ae D s) (L:Loc B c ae ag s.heap) (R:cC ae s.heap first wi) (av:f ag D=some (l,ai)) (aC:F (first++l) ai=some (v,al))
  (h:vP B ae s Q al v):wpAny (model br B.w) A (callWith pos fv wi (backTo pos (starEach es c.env)) []) Q E s:=by
 refine bj _ _ _ _ _ _ _ (aw _ _) ?_;have key:wpAny (model br B.w) A (spliced (backTo pos (starEach es c.env))) (λvs g6=>(KT B.w.params).In g6.heap/\wpAny (model br B.w) A (call fv (wi++vs)) Q E g6) E s:=
  aj _ _ _ _ _ _ _ ok I L av _ E λbt s' cl bm bh bo=>⟨bm.K,hf _ _ _ _ _ _ _ _ (ok.le bn) bm ((R.bx bh).append bo) aC _ E λgj d4 cv cB cD eH=>h _ _ _ cB (bh.trans cD) eH⟩
 have hW:=aw pos c.env;revert key hW;generalize backTo pos (starEach es c.env)=Zz;intro key hW
 cases Zz with
 | nil=>exact evalArgs_nil3 (by
   have:wpAny (model br B.w) A (spliced []) (λvs g6=>(KT B.w.params).In g6.heap/\wpAny (model br B.w) A (call fv (wi++vs)) Q E g6) E s:=key;refine ⟨I.K,?_⟩;intro Kt p Hi;exact (this Kt p Hi).2 Kt p Hi)
 | cons x fJ=>
  obtain ⟨b,t⟩:=x;have aA:b=false:=by
   cases b
   .rfl
   .simp at hW
  subst aA;exact Calls.evalArgs_plain (wpAny_mono key (λvs g6 z=>z) λ_ _ z=>z)
noncomputable def ak (F:bf) (f:gS):bK:=λag D=>(f ag D).bind λp=>F p.1 p.2
theorem Ev.call {x ls pos es v F f} {k:Nat} (ax:c.names[k]? =some (x,.globalImplicit)) (aI:B.jv x=some v) (bj:j9 B v) (hf:cw B d v F) (bn:d<=c.d) (aj:i1 B c pos es f) (aw:qT es:=by intro _ _;rfl):
  Ev B c (.Call (.Name x ls) es [] pos) (ak F f):=λA ae D ag s bA al ok I L e Q E h=>by
 revert e;refine cg λl ai av aC=>?_;exact wpAny_Call_NameR (AU I L ax aI (wl bj hf bn aw aj ok I L .nil av aC h))
theorem Ev.Fa {x ls pos es v F f} {k:Nat} (ax:c.names[k]? =some (x,.globalImplicit)) (aI:B.jv x=none) (aA:B.nV x=some v) (bj:j9 B v) (hf:cw B d v F) (bn:d<=c.d) (aj:i1 B c pos es f) (aw:qT es:=by intro _ _;rfl):
  Ev B c (.Call (.Name x ls) es [] pos) (ak F f):=λA ae D ag s bA al ok I L e Q E h=>by
 revert e;refine cg λl ai av aC=>?_;exact wpAny_Call_NameR (E7 I L ax aI aA (wl bj hf bn aw aj ok I L .nil av aC h))
noncomputable def ng (B:db) (name:Str) (sP:am->V->Bool) (fv:Value):Prop:=∀ae D s v cv,Inv B ae D s->aO ae s.heap v cv->sP D v=true->
 ∀(A:Around) (pl:Sem Bool) (Q:Value×List Value->Shared->Prop) (E:Value->Shared->Prop),Q (fv,[cv]) s->wpAny (model br B.w) A (getMethod cv name pl) Q E s
noncomputable def bS (sP:am->V->Bool) (F:bf) (o:bK) (f:gS):bK:=λag D=>(o ag D).bind λp=>if sP p.2 p.1 then (f ag p.2).bind λq=>F (p.1::q.1) q.2 else none
theorem Ev.T0 {o:Expr} {name:Str} {ni pos:Pos} {es sP fv F d' f} {pl:Sem Bool} (aG:Ev B c o d') (aP:ng B name sP fv) (bj:j9 B fv) (hf:cw B d fv F) (bn:d<=c.d) (aj:i1 B c pos es f)
  (cW:eval (.Call (.Attribute o name ni) es [] pos) c.env=(do
   let h3 <- eval o c.env
   standAt ni.atName
   let (f,first) <- holding [h3] (getMethod h3 name pl)
   callWith pos f first (backTo pos (starEach es c.env)) []):=by rfl) (aw:qT es:=by intro _ _;rfl):
  Ev B c (.Call (.Attribute o name ni) es [] pos) (bS sP F d' f):=λA ae D ag s bA al ok I L e Q E h=>by
 revert e;refine cg λa fX hb e=>?_;split at e
 .rename_i wQ;revert e;refine cg λl ai av aC=>?_;exact MethodCall_ (aG _ _ _ _ _ _ _ ok I L hb _ E λbt s' b3 bm bh bo=>aP _ _ _ _ _ bm bo wQ _ _ _ _
   (wl (first:=[a]) bj hf bn aw aj ok bm (L.bx bh) (.cons bo .nil) av aC λgj d4 cv cB cD eH=>h _ _ _ cB (bh.trans cD) eH)) cW
 .exact bU e
theorem i5.key {C:Nat} {fs:List V} {es:List DictEntry} {h:Heap} {j:Nat} {e:DictEntry} (r:i5 ae h C fs es) (cW:es[j]? =some e):∃y t,(hB C)[j]? =some y/\e.key=.str y t:=by
 have aj:j < fs.length:=by rw [r.len];exact (List.getElem?_eq_some_iff.mp cW).1
 have ao:=List.getElem?_eq_getElem (Nat.lt_of_lt_of_le aj r.le);exact (r.at_ j _ _ _ (List.getElem?_eq_getElem aj) ao cW).1.elim λt cd=>⟨_,t,ao,cd⟩
theorem i5.ref {C:Nat} {fs:List V} {es:List DictEntry} {h:Heap} {e:DictEntry} (r:i5 ae h C fs es) (cW:e∈es):e.refKey=false:=by
 refine cH (List.mem_iff_getElem?.mp cW) λj aX=>?_;refine hn (r.key aX) λy t _ cd=>?_;unfold DictEntry.refKey;rw [cd]
theorem i5.str {C k j:Nat} {fs:List V} {es:List DictEntry} {h:Heap} {x:Str} {e:DictEntry} (r:i5 ae h C fs es) (cX:(hB C).Nodup) (ax:(hB C)[k]? =some x) (cW:es[j]? =some e) (n:j≠k):e.key.isStr x=false:=by
 refine hn (r.key cW) λy t dr cd=>?_;rw [cd];show (y == x)=false;rw [beq_eq_false_iff_ne];intro q;subst q;exact n ((List.getElem?_inj (List.getElem?_eq_some_iff.mp dr).1 cX).mp (dr.trans ax.symm))
theorem Qy {C:Nat} {fs:List V} {es:List DictEntry} {n:Nat} {h:Heap} {x:Str} (r:i5 ae h C fs es) (ax:(hB C).contains x=false):lookIn x (jy es n)=some none:=by
 unfold lookIn jy;dsimp only;rw [List.find?_eq_none.mpr λe cW z=>cH (List.mem_iff_getElem?.mp cW) λj aX=>hn (r.key aX) λy t dr cd=>?_]
 .refine if_neg λz=>?_;refine a2 (List.any_eq_true.mp z) λe cW z=>?_;rw [r.ref cW] at z;cases z
 .rw [cd] at z;have z:y=x:=beq_iff_eq.mp z;rw [<- z,List.contains_iff_mem.mpr (List.mem_of_getElem? dr)] at ax;cases ax
theorem Gu {C k:Nat} {fs:List V} {es:List DictEntry} {n:Nat} {h:Heap} {x:Str} {v:V} (r:i5 ae h C fs es) (cX:(hB C).Nodup) (ax:(hB C)[k]? =some x) (aI:fs[k]? =some v):
  ∃e,es[k]? =some e/\(∃t,e.key=.str x t)/\aO ae h v e.val/\lookIn x (jy es n)=some (some e.val)/\es.findIdx? (·.key.isStr x)=some k:=by
 have aj:=(List.getElem?_eq_some_iff.mp aI).1;have aL:k < es.length:=by rw [<- r.len];exact aj
 have cW:=List.getElem?_eq_getElem aL;refine cq (r.at_ k _ _ _ aI ax cW) λcd aZ=>?_;have Iz:∀j (aX:j < k),(es[j]'(Nat.lt_trans aX aL)).key.isStr x=false:=λj aX=>r.str cX ax (List.getElem?_eq_getElem _) (Nat.ne_of_lt aX);have yh:es[k].key.isStr x=true:=cd.elim λt cd=>by rw [cd];exact beq_self_eq_true x
 refine ⟨es[k],cW,cd,aZ,?_,?_⟩
 .unfold lookIn jy;dsimp only;have:es.find? (·.key.isStr x)=some es[k]:=List.find?_eq_some_iff_getElem.mpr ⟨yh,k,aL,rfl,λj aX=>by rw [Iz j aX];rfl⟩;rw [this]
 .rw [List.findIdx?_eq_some_iff_getElem];exact ⟨aL,yh,λj aX=>by rw [Iz j aX];exact Bool.false_ne_true⟩
noncomputable def mG (D:am) (v:V):Option (Nat×List V):=sY (λ_ C fs=>some (C,fs)) D v
theorem BN {v:V} {cv:Value} {C fs} (I:Inv B ae D s) (r:aO ae s.heap v cv) (e:mG D v=some (C,fs)):
  ∃i q es n,v=.ref i/\D[i]? =some (.inst C fs)/\ae[i]? =some (some q)/\cv=.ref q.1/\q.2≠q.1/\s.heap.get? q.1=some (instObj C q.2)/\s.heap.get? q.2=some (jy es n)/\i5 ae s.heap C fs es:=by
 revert r;refine Dd (λi ts Gy aJ e r=>?_) e;revert e;refine s2 λbd bl=>?_;subst bd;subst bl;refine Inv.qY I aJ (λz=>by cases z) (λq bL rep=>?_) r;refine gC.e3 ?_ rep;intro es n h0 aj ao aL;exact ⟨i,q,es,n,rfl,aJ,bL,rfl,h0,aj,ao,aL⟩
theorem uy {C:Nat} {q:Addr×Addr} {es n} {h:Heap} (aj:h.get? q.1=some (instObj C q.2)) (ao:h.get? q.2=some (jy es n)):InstAt h q.1 (instObj C q.2) C (some (jy es n)):=⟨aj,rfl,rfl,ao⟩
noncomputable def eT (C:Nat) (D:am) (v:V):Bool:=(mG D v).any λp=>p.1 == C
theorem U7 {C D v} (h:eT C D v=true):∃fs,mG D v=some (C,fs):=by
 unfold eT at h
 cases q:mG D v with
 | none=>rw [q] at h;cases h
 | some p=>rw [q] at h;exact ⟨p.2,congrArg (λz=>some (z,p.2)) (beq_iff_eq.mp h)⟩
theorem ng.inst {C f:Addr} {name:Str} (cr:plainGet (KT B.w.params) C name=true) (hf:findIn (KT B.w.params) (.ref C) name=some (some (.ref f))) (cd:typeIn (KT B.w.params) (.ref f)=some (.type "function")) (a3:(hB C).contains name=false):
  ng B name (eT C) (.ref f):=λae D s v cv I r ok A pl Q E h=>by
 refine cH (U7 ok) λfs e=>?_;refine yN (BN I r e) λi q es n fK aJ bL rc h0 aj ao aL=>?_;subst fK;subst rc;exact method_fn I.K (uy aj ao) (plainGet_of cr).1 (plainGet_of cr).2 hf cd (by unfold shadowIn;dsimp only;rw [Qy (n:=n) aL a3];rfl) h
noncomputable def uz (v:V):Bool:=@V.casesOn.{1} (λ_=>Bool) v true (λ_=>true) (λ_=>true) (λ_=>true) (λ_=>true) (λ_=>true) (λ_ _ _=>true) (λ_=>true) true (λ_=>false) false
noncomputable def fld (C k:Nat) (D:am) (v:V):Option V:=(mG D v).bind λp=>if p.1 == C then (p.2[k]?).bind λw=>if uz w then some w else none else none
theorem handed {h:Heap} {v:V} {cv:Value} (r:aO ae h v cv) (a3:uz v=true):handedIn cv=true:=by
 refine aO.e3 (K:=λcv=>handedIn cv=true) ?_ r
 cases v <;> first | exact trivial | exact λ_=>rfl | exact λ_ _ _=>rfl | exact λ_ _ _ _=>rfl | exact λ_ _ _ _ _ _=>rfl | exact λ_ _ _ _ _ _ _=>rfl | cases a3
noncomputable def aN (C k:Nat) (f:bK):bK:=λag D=>(f ag D).bind λp=>(fld C k p.2 p.1).map λv=>(v,p.2)
structure ty (B:db) (C k:Nat) (name:Str):Prop where
 get:plainGet (KT B.w.params) C name=true
 cls:(clsIn (KT B.w.params) C).any (·.hasDict)=true
 cX:(hB C).Nodup
 at_:(hB C)[k]? =some name
 no:findIn (KT B.w.params) (.ref C) name=some none
theorem Qv {K:Frag} {C:Addr} {o:Obj} {name:Str} {eD:ClassData} {v:Value} (aj:clsIn K C=some eD) (ao:eD.hasDict=true) (aL:findIn K (.ref C) name=some none) (cm:lookIn name o=some (some v)):findObj K C (some o) name=some (.value v):=by
 unfold findObj;rw [aj,Option.bind_some,aL];show (W.ownOf eD (some o) name).bind _=_;have:W.ownOf eD (some o) name=some (some v):=by unfold W.ownOf;rw [ao];exact cm
 rw [this];rfl
theorem Gr {C k:Nat} {name:Str} {v w:V} {cv:Value} {A:Around} {Q:Value->Shared->Prop} {E:Value->Shared->Prop} {ex:Bool} (F:ty B C k name) (I:Inv B ae D s) (r:aO ae s.heap v cv) (e:fld C k D v=some w)
  (h:∀s' cF,ce s s'->aO ae s'.heap w cF->Q cF s'):wpAny (model br B.w) A (getAttr cv name ex) Q E s:=by
 refine cg (λts fs av aC=>ds (λdC=>bZ λZ6 hw bN=>ds (λoG=>s1 λy=>?_) bN) aC) e;subst y;have dC:ts=C:=beq_iff_eq.mp dC;subst dC;refine yN (BN I r av) λi q es n fK aJ bL rc h0 aj ao aL=>?_;subst fK;subst rc;refine tt (Gu (n:=n) aL F.cX F.at_ hw) λhy cW cd aZ aW _=>?_;refine a2 (any_some F.cls) λeD ul bn=>?_;exact get_value I.K (uy aj ao) (plainGet_of F.get).1 (Qv ul bn F.no aW) (handed aZ oG) (h _ _ .toks aZ)
theorem Ev.fld {o:Expr} {name:Str} {pos:Pos} {C k:Nat} {f} (F:ty B C k name) (aj:Ev B c o f) (cW:eval (.Attribute o name pos) c.env=(do
   let h3 <- eval o c.env
   standAt pos.atName
   let r <- holding [h3] (getAttr h3 name true)
   letTemporaryGo o h3 r
   pure r):=by with_unfolding_all rfl):Ev B c (.Attribute o name pos) (aN C k f):=λA ae D ag s v al ok I L e Q E h=>by
 revert e;refine cg λa ai av e=>?_;revert e;refine cb λw aC e=>?_;refine dP e h λh=>?_;clear e;exact Attribute_any_ (aj _ _ _ _ _ _ _ ok I L av _ E λbt s' b3 bm bh bo=>Gr F bm bo aC λd4 cF X eH=>h _ _ _ (bm.ext X) (bh.trans X.step) eH) cW
noncomputable def u9 (names:List (Str×NameKind)) (xs:List Str):List (Option Nat):=names.map λp=>if nH p.2 then xs.findIdx? (· == p.1) else none
noncomputable def gR (pl:List (Option Nat)) (args:List V):List V:=pl.map λo=>match o with
 | some i=>args.getD i .u
 | none=>.u
noncomputable def outF (r:Option (i3×List V×am)):Option (V×am):=r.bind λr=>match r.1 with
 | .ret v=>some (v,r.2.2)
 | .nx=>some (.none,r.2.2)
 | .gX=>none
noncomputable def bC (n:Nat) (df:List V) (pl:List (Option Nat)) (g:aU):bf:=λargs D=>if args.length=n then outF (g (gR pl (args++df)) D) else none
noncomputable def jJ (B:db) (fd:FuncData) (n:Nat) (df:List V) (xs:List Str):Prop:=
 ∀(s:Shared) (cI:List Value),(KT B.w.params).In s.heap->cI.length=n->∃lK,cC [] B.h0 df lK/\BindsTo s fd ⟨cI,[]⟩ (xs.zip (cI++lK))
theorem Qu {xs:List Str} {kj:List Value} (cX:xs.Nodup) (aW:xs.length=kj.length) {i:Nat} {x:Str} {cv:Value} (ax:xs[i]? =some x) (bj:kj[i]? =some cv):(xs.zip kj).reverse.lookup x=some cv:=by
 have gen:∀(l:List (Str×Value)),(l.map (·.1)).Nodup->(x,cv)∈l->l.lookup x=some cv:=by
  intro l
  induction l with
  | nil=>intro _ h;cases h
  | cons p l bJ=>
   obtain ⟨y,w⟩:=p;intro cX aP;simp only [List.map_cons,List.nodup_cons] at cX;rcases List.mem_cons.mp aP with h | h
   .revert h;refine dt λbd bl=>?_;subst bd;subst bl;simp [List.lookup]
   .have:x≠y:=λq=>cX.1 (q▸List.mem_map.mpr ⟨_,h,rfl⟩);simp only [List.lookup];rw [beq_false_of_ne this];exact bJ cX.2 h
 refine gen _ ?_ ?_
 .rw [List.map_reverse,List.map_fst_zip (by lia)];exact List.pairwise_reverse.mpr (List.Pairwise.imp (λh=>Ne.symm h) cX)
 .rw [List.mem_reverse];refine List.mem_of_getElem? (i:=i) ?_;rw [List.getElem?_zip_eq_some];exact ⟨ax,bj⟩
theorem eU.deeper {A:Around} {env:Env} (ok:eU (d+1) A):eU d (A.deeper env):=⟨ok.hand,by have:=ok.dep;show A.depth+1+_ < _;lia,by have:=ok.vk;show A.units+3+_ < _;lia⟩
theorem cC.base {l:List V} {cl:List Value} (r:cC [] B.h0 l cl) (I:Inv B ae D s):cC ae s.heap l cl:=⟨r.len,λk v cv e bH=>(r.at_ k v cv e bH).base I⟩
noncomputable def t6 (fd:FuncData) (L a d:Nat) (cr:fd.globals=mainGlobals) (aA:fd.builtins=builtinsNs) (hk:fd.scope.kind=.function):eC where
 env:=callEnv fd L a
 d:=d
 X:=[L]
 own:=true
 cr:=cr
 aA:=aA
 hk:=hk
 aJ:=by unfold interactive;show (fd.scope.kind == .module && _)=false;rw [hk];rfl
 qA:=List.mem_singleton_self _
theorem Jb {names:List (Str×NameKind)} {xs:List Str} {pl:List (Option Nat)} (h:u9 names xs=pl) {args:List V} {k:Nat} {x:Str} {bO:NameKind} {v:V} (ax:names[k]? =some (x,bO)) (aW:nH bO=true)
  (aI:(gR pl args)[k]? =some v) (dD:v≠.u):∃i:Nat,xs[i]? =some x/\args[i]? =some v:=by
 subst h;unfold gR u9 at aI;rw [List.map_map,List.getElem?_map,ax] at aI;simp only [Option.map_some,Function.comp,aW,if_true,Option.some.injEq] at aI
 cases hf:xs.findIdx? (· == x) with
 | none=>rw [hf] at aI;exact absurd aI.symm dD
 | some i=>
  rw [hf] at aI;rw [List.findIdx?_eq_some_iff_getElem] at hf;obtain ⟨aJ,cW,_⟩:=hf;refine ⟨i,?_,?_⟩
  .rw [List.getElem?_eq_getElem aJ];simp only [beq_iff_eq] at cW;rw [cW]
  .dsimp only at aI;rw [List.getD_eq_getElem?_getD] at aI
   cases bw:args[i]? with
   | none=>rw [bw] at aI;exact absurd aI.symm dD
   | some w=>rw [bw] at aI;simpa using aI
noncomputable def bv (B:db) (d:Nat) (fv:Value) (F:bf):Prop:=
 ∀A ae D s args cI v al,eU d A->Inv B ae D s->cC ae s.heap args cI->F args D=some (v,al)->
  ∀(Q:Value->Shared->Prop) (E:Value->Shared->Prop),vP B ae s Q al v->
   codeAny (model br B.w) A (.call fv ⟨cI,[]⟩) (λr s'=>match r with | .ok (.ret v)=>Q v s' | .ok _=>False | .error e=>E e s') s
theorem bv.fn {fv F} (h:bv B d fv F):cw B d fv F:=λA ae D s args cI v al ok I R e Q E z=>wpAny_call (h A ae D s args cI v al ok I R e Q E z)
theorem bv.def_ {a n:Nat} {d':Obj} {fd:FuncData} {body:List Stmt} {df:List V} {xs:List Str} {pl:List (Option Nat)} {g:aU} (e4:(KT B.w.params).lookup a=some d') (bn:d'.data=.func fd) (A2:fd.body=.stmts body) (Rb:fd.closure=[])
  (cr:fd.globals=mainGlobals) (aA:fd.builtins=builtinsNs) (hk:fd.scope.kind=.function) (ul:B.h0.CodeRec fd.code fd.qualname) (A4:fd.scope.isCoroutine=false) (Bb:fd.scope.isGenerator=false)
  (a3:iJ fd.scope.names=true) (nC:(fd.scope.names.all λp=>match p.2 with | .cell=>false | .free=>false | _=>true)=true) (qr:(decide xs.Nodup && xs.all λx=>fd.scope.names.lookup x == some .local)=true)
  (kx:u9 fd.scope.names xs=pl) (fa:xs.length=n+df.length) (A1:jJ B fd n df xs) (lS:∀L,hM B (t6 fd L a d cr aA hk) body g):bv B (d+1) (.ref a) (bC n df pl g):=by
 intro A ae D s args cI v al ok I R e Q E h;unfold bC at e;split at e
 .rename_i AY;revert e;refine tS λr bX ai av aC=>?_;have jU:cI.length=n:=by rw [<- R.len];exact AY
  refine a2 (A1 s cI I.K jU) λlK A7 oF=>?_;simp only [Bool.and_eq_true,decide_eq_true_eq,List.all_eq_true,beq_iff_eq] at qr;have Rd:xs.length=(cI++lK).length:=by rw [List.length_append,jU,<- A7.len];exact fa
  have aG:s.heap.get? a=some d':=I.K a d' e4;have A6:s.heap.CodeRec fd.code fd.qualname:=by
   revert ul;refine yW λnl o vs t aj ao aL=>?_;exact ⟨nl,o,vs,t,aj,I.base _ _ ao,aL⟩
  refine (codeAny_call_def (fd:=fd) (body:=body) (binds:=xs.zip (cI++lK)) (by have:=ok.dep;unfold recursionLimit;lia) aG bn I.lim A6 A2 oF ?_ ?_ (λaj jt ij=>?_) A4 Bb hk)
  .intro x ax;have:=List.all_eq_true.mp nC x ax;intro q;rw [q] at this;cases this
  .intro y dr;exact qr.2 _ (List.of_mem_zip (show (y.1,y.2)∈_ from dr)).1
  .have pV:ce s {s with heap:=aj,toks:=s.toks+(xs.zip (cI++lK)).length}:=⟨ij,rfl,rfl⟩;have I1:=I.ext pV;have A':s.heap.get? s.heap.objs.size=none:=by
    cases q:s.heap.get? s.heap.objs.size with
    | none=>rfl
    | some o=>exact absurd (Heap.lt_size q) (Nat.lt_irrefl _)
   have bo:cC ae aj (args++df) (cI++lK):=(R.bx pV.step).append (A7.base I1);have hQ:Loc B (t6 fd s.heap.objs.size a d cr aA hk) ae (gR pl (args++df)) aj:=by
    refine ⟨a3,⟨_,jt⟩,λk x bO v ax aW aI dD=>?_,λk x ax=>?_,λx y a h=>?_,λb gs f=>?_,λb gs=>?_,λb gs=>?_⟩
    .refine a2 (Jb kx ax aW aI dD) λi ao aL=>?_;refine a2 (bo.get aL) λcv cm eg=>?_;have:bO=.local:=by
      have:=List.all_eq_true.mp nC _ (List.mem_of_getElem? ax)
      cases bO <;> simp_all [nH]
     subst this;exact .loc cv ⟨_,jt,Qu qr.1 Rd ao cm⟩ eg
    .have:=List.all_eq_true.mp nC _ (List.mem_of_getElem? ax)
     cases this
    .have q:List.lookup x fd.closure=some a:=h;rw [Rb] at q;exact bU q
    .rw [List.mem_singleton.mp gs] at f;refine cH (I.qa f) λo aG=>?_;rw [A'] at aG;exact bU aG
    .rw [List.mem_singleton.mp gs]
     cases q:B.h0.get? s.heap.objs.size with
     | none=>rfl
     | some o=>have:=I.base _ _ q;rw [A'] at this;exact bU this
    .rw [List.mem_singleton.mp gs];revert jt;refine oh λo es d9 ao aL _=>?_;exact ⟨o,ao,by unfold fS;rw [aL];rfl⟩
   refine lS s.heap.objs.size _ _ _ _ _ _ _ _ ok.deeper I1 hQ av _ _ λbt s' dL bm bh fE eH=>?_;have g9:Step [] ae s bt s':=by
    have z:=(pV.step (X:=[s.heap.objs.size]) (ae:=ae)).trans bh;refine ⟨λb o e n _=>z.keep b o e n λm=>?_,z.mono,z.len,z.old,z.new⟩;rw [List.mem_singleton.mp m,A'] at e;exact bU e
   cases eH with
   | nx=>refine a4 aC h λh=>?_;clear aC;exact h _ _ _ bm g9 .none
   | gX=>exact bU aC
   | ret v cv gz=>refine a4 aC h λh=>?_;clear aC;exact h _ _ _ bm g9 gz
 .exact bU e
theorem Nc {lL:Str->Option Value} {cs:List (Str×Addr)} {cells:List (Addr×Obj)} (C:CellsAre lL cs cells) {x:Str} {a:Addr} (h:cs.lookup x=some a):∃o,(a,o)∈cells/\o.data=.cell (lL x):=by
 induction C with
 | nil=>exact bU h
 | cons aG r bJ=>
  simp only [List.lookup] at h;split at h
  .rename_i q;revert h;refine s1 λbd=>?_;subst bd;rw [beq_iff_eq.mp q];exact ⟨_,.head _,aG⟩
  .exact a2 (bJ h) λb8 aj ao=>⟨b8,List.mem_cons_of_mem _ aj,ao⟩
theorem Nd {lL:Str->Option Value} {cs:List (Str×Addr)} {cells:List (Addr×Obj)} (C:CellsAre lL cs cells) {a:Addr} (h:a∈cs.map (·.2)):∃x o,(a,o)∈cells/\o.data=.cell (lL x):=by
 induction C with
 | nil=>cases h
 | cons aG r bJ=>
  rcases List.mem_cons.mp h with h | h
  .subst h;exact ⟨_,_,.head _,aG⟩
  .exact hn (bJ h) λx b8 aj ao=>⟨x,b8,List.mem_cons_of_mem _ aj,ao⟩
theorem Ac:∀(l:List (Str×NameKind)) (n:Nat) (bi:List (Str×Addr)),(∀p∈bi,p.2 < n)->(bi.map (·.2)).Nodup->((cellsFrom n l bi).map (·.2)).Nodup
 | [],n,bi,_,h=>h
 | (x,bO)::l,n,bi,aA,h=>by
  simp only [cellsFrom];split
  .refine Ac l (n+1) _ (λp aw=>?_) ?_
   .rcases List.mem_cons.mp aw with h | h
    .subst h;exact Nat.lt_succ_self n
    .exact Nat.lt_succ_of_lt (aA p h)
   .simp only [List.map_cons,List.nodup_cons];refine ⟨λaP=>?_,h⟩;refine a2 (List.mem_map.mp aP) λp aw e=>?_;have:=aA p aw;rw [e] at this;exact absurd this (Nat.lt_irrefl _)
  .exact Ac l n bi aA h
theorem TD {l:List (Str×Addr)} (cX:(l.map (·.2)).Nodup) {x y:Str} {a:Addr} (ax:l.lookup x=some a) (dr:l.lookup y=some a):x=y:=by
 induction l with
 | nil=>exact bU ax
 | cons p l bJ=>
  obtain ⟨z,b⟩:=p;simp only [List.map_cons,List.nodup_cons] at cX;have mem:∀{w:Str},l.lookup w=some a->a∈l.map (·.2):=by
   intro w h;have:∀(l:List (Str×Addr)),l.lookup w=some a->a∈l.map (·.2):=by
    intro l
    induction l with
    | nil=>intro h;exact bU h
    | cons q l bJ=>
     obtain ⟨bA,v⟩:=q;intro h;simp only [List.lookup] at h;split at h
     .revert h;refine s1 λbd=>?_;subst bd;exact .head _
     .exact List.mem_cons_of_mem _ (bJ h)
   exact this l h
  cases hz:x == z <;> cases hw:y == z <;> simp only [List.lookup,hz,hw] at ax dr
  .exact bJ cX.2 ax dr
  .revert dr;refine s1 λbd=>?_;subst bd;exact absurd (mem ax) cX.1
  .revert ax;refine s1 λbd=>?_;subst bd;exact absurd (mem dr) cX.1
  .rw [beq_iff_eq.mp hz,beq_iff_eq.mp hw]
theorem E5 {nL:Str->Option NameKind}:∀(l:List (Str×Value)) (m:Str->Option Value) (x:Str),(∀p∈l,p.1≠x)->bindL nL l m x=m x
 | [],m,x,_=>rfl
 | (n,v)::l,m,x,h=>by
  simp only [bindL];rw [E5 l _ x λp aw=>h p (List.mem_cons_of_mem _ aw)];split
  .have:x≠n:=λq=>h _ (.head _) q.symm;simp [this]
  .rfl
theorem E3 {nL:Str->Option NameKind}:∀(l:List (Str×Value)) (m:Str->Option Value) (x:Str),(∀p∈l,p.1≠x)->bindC nL l m x=m x
 | [],m,x,_=>rfl
 | (n,v)::l,m,x,h=>by
  simp only [bindC];rw [E3 l _ x λp aw=>h p (List.mem_cons_of_mem _ aw)];split
  .rfl
  .have:x≠n:=λq=>h _ (.head _) q.symm;simp [this]
theorem E4 {nL:Str->Option NameKind}:∀(l:List (Str×Value)) (m:Str->Option Value) (x:Str) (v:Value),(l.map (·.1)).Nodup->(x,v)∈l->nL x=some .local->bindL nL l m x=some v
 | [],_,_,_,_,h,_=>by cases h
 | (n,w)::l,m,x,v,cX,h,hk=>by
  simp only [List.map_cons,List.nodup_cons] at cX;simp only [bindL];rcases List.mem_cons.mp h with h | h
  .revert h;refine dt λbd bl=>?_;subst bd;subst bl;rw [E5 l _ x λp aw q=>cX.1 (q▸List.mem_map.mpr ⟨p,aw,rfl⟩),if_pos hk];simp
  .exact E4 l _ x v cX.2 h hk
theorem E2 {nL:Str->Option NameKind}:∀(l:List (Str×Value)) (m:Str->Option Value) (x:Str) (v:Value),(l.map (·.1)).Nodup->(x,v)∈l->nL x≠some .local->bindC nL l m x=some v
 | [],_,_,_,_,h,_=>by cases h
 | (n,w)::l,m,x,v,cX,h,hk=>by
  simp only [List.map_cons,List.nodup_cons] at cX;simp only [bindC];rcases List.mem_cons.mp h with h | h
  .revert h;refine dt λbd bl=>?_;subst bd;subst bl;rw [E3 l _ x λp aw q=>cX.1 (q▸List.mem_map.mpr ⟨p,aw,rfl⟩),if_neg hk];simp
  .exact E2 l _ x v cX.2 h hk
noncomputable def wg (name:Str) (scope:Scope) (L a:Addr) (eD:Value) (d:Nat) (hk:scope.kind=.function):eC where
 env:=envOfC name scope L a eD
 d:=d
 own:=true
 X:=L::(cellsFrom (L+1) scope.names []).map (·.2)
 cr:=rfl
 aA:=rfl
 hk:=hk
 aJ:=by unfold interactive;show (scope.kind == .module && _)=false;rw [hk];rfl
 qA:=.head _
noncomputable def Fi (names:List (Str×NameKind)):Bool:=names.all λp=>match p.2 with
 | .cell=>((cellsFrom 0 names []).lookup p.1).isSome
 | .free=>false
 | _=>true
theorem cellsFrom_some:∀(l:List (Str×NameKind)) (n m:Nat) (bi lI:List (Str×Addr)) (x:Str),(∀x,(bi.lookup x).isSome=(lI.lookup x).isSome)->((cellsFrom n l bi).lookup x).isSome=((cellsFrom m l lI).lookup x).isSome
 | [],n,m,bi,lI,x,h=>h x
 | (y,bO)::l,n,m,bi,lI,x,h=>by
  simp only [cellsFrom];split
  .refine cellsFrom_some l _ _ _ _ x λz=>?_;simp only [List.lookup];split <;> simp [h]
  .exact cellsFrom_some l _ _ _ _ x h
theorem bv.cells {a n:Nat} {d':Obj} {name:Str} {params:Arguments} {body:List Stmt} {scope:Scope} {c3 eD doc:Value} {xs:List Str} {pl:List (Option Nat)} {g:aU} (e4:(KT B.w.params).lookup a=some d') (bn:d'.data=.func (Calls.docDef name params body scope c3 eD doc))
  (hk:scope.kind=.function) (ul:B.h0.CodeRec eD name) (A4:scope.isCoroutine=false) (Bb:scope.isGenerator=false)
  (a3:iJ scope.names=true) (nC:Fi scope.names=true) (qr:(decide xs.Nodup && xs.all λx=>scope.names.lookup x == some .local || scope.names.lookup x == some .cell)=true)
  (nE:((cellsFrom 0 scope.names []).map (·.1)).Nodup)
  (kx:u9 scope.names xs=pl) (fa:xs.length=n) (A1:∀cI:List Value,cI.length=n->bindArgs (Calls.docDef name params body scope c3 eD doc) ⟨cI,[]⟩=pure (xs.zip cI)) (lS:∀L,hM B (wg name scope L a eD d hk) body g):bv B (d+1) (.ref a) (bC n [] pl g):=by
 intro A ae D s args cI v al ok I R e Q E h;unfold bC at e;split at e
 .rename_i AY;revert e;refine tS λr bX ai av aC=>?_;have jU:cI.length=n:=by rw [<- R.len];exact AY
  simp only [Bool.and_eq_true,decide_eq_true_eq,List.all_eq_true,Bool.or_eq_true,beq_iff_eq] at qr;have aG:s.heap.get? a=some d':=I.K a d' e4;have A6:s.heap.CodeRec eD name:=by
   revert ul;refine yW λnl o vs t aj ao aL=>?_;exact ⟨nl,o,vs,t,aj,I.base _ _ ao,aL⟩
  have lv:∀(x:Str) (k:Nat) (m:Nat),scope.names[k]? =some (x,.cell)->((cellsFrom m scope.names []).lookup x).isSome=true:=λx k m ax=>by
   have:=List.all_eq_true.mp nC _ (List.mem_of_getElem? ax);rw [cellsFrom_some scope.names m 0 [] [] x λ_=>rfl];exact this
  have cX:((scope.names.map (·.1)).Nodup):=by
   simp only [iJ,Bool.and_eq_true,decide_eq_true_eq] at a3;exact a3.1
  have L3:∀(x:Str) (bO:NameKind),scope.names.lookup x=some bO->∃k:Nat,scope.names[k]? =some (x,bO):=by
   intro x bO ax;have:∀(l:List (Str×NameKind)),l.lookup x=some bO->(x,bO)∈l:=by
    intro l
    induction l with
    | nil=>intro h;exact bU h
    | cons q l bJ=>
     obtain ⟨bA,w⟩:=q;intro h;simp only [List.lookup] at h;split at h
     .rename_i q;revert h;refine s1 λbd=>?_;subst bd;rw [beq_iff_eq.mp q];exact .head _
     .exact List.mem_cons_of_mem _ (bJ h)
   exact List.getElem?_of_mem (this _ ax)
  have A9:∀b,s.heap.objs.size<=b->s.heap.get? b=none:=λb aA=>by
   cases q:s.heap.get? b with
   | none=>rfl
   | some o=>exact absurd (Heap.lt_size q) (Nat.not_lt.mpr aA)
  refine (call_cellsN (binds:=xs.zip cI) (by have:=ok.dep;unfold recursionLimit;lia) aG bn I.lim A6 (A1 cI jU) (λy dr=>?_) nE (λaj tk cells bf Ew DP=>?_) A4 Bb hk)
  .rcases qr.2 _ (List.of_mem_zip (show (y.1,y.2)∈_ from dr)).1 with q | q
   .exact .inl q
   .refine cH (L3 _ _ q) λk ii=>?_;exact .inr ⟨q,lv _ _ _ ii⟩
  .have pV:ce s {s with heap:=aj,toks:=tk}:=⟨bf.keep,rfl,rfl⟩;have I1:=I.ext pV;have bo:cC ae aj args cI:=R.bx pV.step;have Ks:((xs.zip cI).map (·.1)).Nodup:=by rw [List.map_fst_zip (by lia)];exact qr.1
   have cellAt:∀{x:Str} {b:Addr},(cellsFrom (s.heap.objs.size+1) scope.names []).lookup x=some b->aj.IsCell b (bindC (envOfC name scope s.heap.objs.size a eD).kindOf (xs.zip cI) (λ_=>none) x)/\s.heap.get? b=none:=λax=>by
    refine a2 (Nc DP ax) λo aP bn=>?_;have:=Ew _ aP;exact ⟨⟨o,this.1,bn⟩,this.2.2⟩
   have nB:∀b∈s.heap.objs.size::(cellsFrom (s.heap.objs.size+1) scope.names []).map (·.2),s.heap.get? b=none/\∃o,aj.get? b=some o/\fS o=true:=by
    intro b aA;rcases List.mem_cons.mp aA with rfl | aA
    .refine oe bf.ns λo es d9 ao aL _=>?_;exact ⟨A9 _ (Nat.le_refl _),o,ao,by unfold fS;rw [aL];rfl⟩
    .refine hn (Nd DP aA) λx o aP bn=>?_;have:=Ew _ aP;exact ⟨this.2.2,o,this.1,by unfold fS;rw [bn];rfl⟩
   have hQ:Loc B (wg name scope s.heap.objs.size a eD d hk) ae (gR pl (args++[])) aj:=by
    refine ⟨a3,⟨_,bf.ns⟩,λk x bO v ax aW aI dD=>?_,λk x ax=>?_,λx y b ao aL=>?_,λb gs f=>?_,λb gs=>?_,λb gs=>(nB b gs).2⟩
    .rw [List.append_nil] at aI;refine a2 (Jb kx ax aW aI dD) λi ao aL=>?_;refine a2 (bo.get aL) λcv cm eg=>?_;have aP:(x,cv)∈xs.zip cI:=List.mem_of_getElem? (i:=i) (by rw [List.getElem?_zip_eq_some];exact ⟨ao,cm⟩);have fC:(envOfC name scope s.heap.objs.size a eD).kindOf x=some bO:=B7 cX ax
     cases bO with
     | «local» =>exact .loc cv ⟨_,bf.ns,E4 _ _ _ _ Ks aP fC⟩ eg
     | cell=>
      refine cH (Option.isSome_iff_exists.mp (lv x k (s.heap.objs.size+1) ax)) λb aA=>?_;refine cq (cellAt aA) λhK ob=>?_;rw [E2 _ _ _ _ Ks aP (by rw [fC];simp)] at hK;exact .cell b cv _ (.inl rfl) aA hK (λf=>by refine cH (I.qa f) λo aG=>?_;rw [ob] at aG;exact bU aG) eg
     | free=>
      have:=List.all_eq_true.mp nC _ (List.mem_of_getElem? ax)
      cases this
     | _=>cases aW
    .refine cH (Option.isSome_iff_exists.mp (lv x k (s.heap.objs.size+1) ax)) λb aA=>?_;refine cq (cellAt aA) λhK ob=>?_;refine ⟨b,_,aA,λ_=>List.mem_cons_of_mem _ ?_,(λf=>by refine cH (I.qa f) λo aG=>?_;rw [ob] at aG;exact bU aG),hK⟩;have:∀(l:List (Str×Addr)),l.lookup x=some b->b∈l.map (·.2):=by
      intro l
      induction l with
      | nil=>intro h;exact bU h
      | cons q l bJ=>
       obtain ⟨bA,w⟩:=q;intro h;simp only [List.lookup] at h;split at h
       .revert h;refine s1 λbd=>?_;subst bd;exact .head _
       .exact List.mem_cons_of_mem _ (bJ h)
     exact this _ aA
    .exact TD (Ac scope.names (s.heap.objs.size+1) [] (by simp) (by simp)) ao aL
    .refine cH (I.qa f) λo aG=>?_;rw [(nB b gs).1] at aG;exact bU aG
    .cases q:B.h0.get? b with
     | none=>rfl
     | some o=>have:=I.base _ _ q;rw [(nB b gs).1] at this;exact bU this
   refine lS s.heap.objs.size _ _ _ _ _ _ _ _ ok.deeper I1 hQ av _ _ λbt s' dL bm bh fE eH=>?_;have g9:Step [] ae s bt s':=by
    have z:=(pV.step (X:=(wg name scope s.heap.objs.size a eD d hk).X) (ae:=ae)).trans bh;refine ⟨λb o e n _=>z.keep b o e n λm=>?_,z.mono,z.len,z.old,z.new⟩;rw [(nB b m).1] at e;exact bU e
   cases eH with
   | nx=>refine a4 aC h λh=>?_;clear aC;exact h _ _ _ bm g9 .none
   | gX=>exact bU aC
   | ret v cv gz=>refine a4 aC h λh=>?_;clear aC;exact h _ _ _ bm g9 gz
 .exact bU e
theorem f7 (s:Shared):s.heap.get? s.heap.objs.size=none:=by
 cases q:s.heap.get? s.heap.objs.size with
 | none=>rfl
 | some o=>exact absurd (Heap.lt_size q) (Nat.lt_irrefl _)
theorem Inv.lr (I:Inv B ae D s) {a:Addr} (h:s.heap.get? a=none):¬foot ae a:=λf=>by
 refine cH (I.qa f) λo aG=>?_;rw [h] at aG;exact bU aG
noncomputable def bM (f:gS):bK:=λag D=>(f ag D).bind λp=>if p.1.length<=big then some (.tup p.1,p.2) else none
noncomputable def ef (f:gS):bK:=λag D=>(f ag D).bind λp=>if p.1.length<=big then some (.ap p.1,p.2) else none
noncomputable def cM (f:gS):bK:=λag D=>(f ag D).bind λp=>if p.1.length<=big then some (.ref p.2.length,p.2++[.list p.1]) else none
theorem kh {n:Nat} (h:n<=big):n<=sizeLine:=by unfold big at h;unfold sizeLine;lia
theorem Ev.tup {es k pos f} (aj:i1 B c pos es f):Ev B c (.Tuple es k pos) (bM f):=λA ae D ag s v al ok I L e Q E h=>by
 refine cg (λl ai av=>ds λaA e=>a4 e h λh=>?_) e;refine wpAny_Tuple (aj _ _ _ _ _ _ _ ok I L av _ E λbt s' cl bm bh bo=>⟨kh (by rw [<- bo.len];exact aA),?_⟩);have X:ce s' {s' with heap:=s'.heap.push {cls:=.type "tuple",data:=.seq cl.toArray}}:=.push _ _;refine h _ _ _ (bm.ext X) (bh.trans X.step) (.tup l cl _ (bm.lr (f7 s')) ⟨_,Heap.get?_push_size _ rfl,rfl,0,rfl⟩ aA bo.len (bo.bx X.step).at_)
theorem Ev.ap {es pos f} (aj:i1 B c pos es f):Ev B c (.List es pos) (ef f):=λA ae D ag s v al ok I L e Q E h=>by
 refine cg (λl ai av=>ds λaA e=>a4 e h λh=>?_) e;refine wpAny_List (aj _ _ _ _ _ _ _ ok I L av _ E λbt s' cl bm bh bo=>⟨kh (by rw [<- bo.len];exact aA),?_⟩);have X:ce s' {s' with heap:=s'.heap.push {cls:=.type "list",data:=.seq cl.toArray}}:=.push _ _;refine h _ _ _ (bm.ext X) (bh.trans X.step) (.ap l cl _ (bm.lr (f7 s')) ⟨_,Heap.get?_push_size _ rfl,rfl,0,rfl⟩ aA bo.len (bo.bx X.step).at_)
theorem CA {l:List V} {cl:List Value} (I:Inv B ae D s) (R:cC ae s.heap l cl) (aA:l.length<=big) (x:ce s s') (a3:s.heap.get? s.heap.objs.size=none) (cr:s'.heap.get? s.heap.objs.size=some (lobj cl 0)):
  Inv B (ae++[some (s.heap.objs.size,s.heap.objs.size)]) (D++[.list l]) s'/\Step [] ae s (ae++[some (s.heap.objs.size,s.heap.objs.size)]) s'/\aO (ae++[some (s.heap.objs.size,s.heap.objs.size)]) s'.heap (.ref D.length) (.ref s.heap.objs.size):=by
 have S:Step [] ae s (ae++[some (s.heap.objs.size,s.heap.objs.size)]) s':=q6 x a3 a3;refine ⟨I.add x a3 a3 (.list l cl 0 rfl cr (R.bx S) aA),S,?_⟩;rw [<- I.len];exact aO.fresh (q:=(s.heap.objs.size,s.heap.objs.size))
theorem Ev.lst {es pos f} (aj:i1 B c pos es f):Ev B c (.List es pos) (cM f):=λA ae D ag s v al ok I L e Q E h=>by
 refine cg (λl ai av=>ds λaA e=>a4 e h λh=>?_) e;refine wpAny_List (aj _ _ _ _ _ _ _ ok I L av _ E λbt s' cl bm bh bo=>⟨kh (by rw [<- bo.len];exact aA),?_⟩);have X:ce s' {s' with heap:=s'.heap.push {cls:=.type "list",data:=.seq cl.toArray}}:=.push _ _;refine iz (CA bm bo aA X (f7 s') (Heap.get?_push_size _ rfl)) λgB c8 bV=>?_;exact h _ _ _ gB (bh.trans c8) bV
noncomputable def hc:bK:=λ_ D=>some (.ref D.length,D++[.dict []])
theorem Ev.OM {pos}:Ev B c (.Dict [] [] pos) hc:=λA ae D ag s v al ok I L e Q E h=>by
 refine a4 e h λh=>?_;clear e;refine wpAny_Dict_empty ?_;have X:ce s {s with heap:=s.heap.push {cls:=.type "dict",data:=.dict #[]}}:=.push _ _;have S:Step [] ae s (ae++[some (s.heap.objs.size,s.heap.objs.size)]) _:=q6 X (f7 s) (f7 s);have gB:=I.add X (q:=(s.heap.objs.size,s.heap.objs.size)) (o:=.dict []) (f7 s) (f7 s) (.dict [] [] rfl (Heap.DictOf.new _) ⟨rfl,by simp,λk dA e h=>by simp at h⟩);refine h _ _ _ gB S ?_;rw [<- I.len];exact aO.fresh (q:=(s.heap.objs.size,s.heap.objs.size))
noncomputable def dO (C:Nat) (F:bf):bf:=λargs D=>(F (.ref D.length::args) (D++[.inst C []])).bind λp=>mg (some (.ref D.length,p.2)) p.1
theorem eU.under {A:Around} {C:Addr} {l:List Value} (ok:eU (d+1) A):eU d (A.under (.builtin "type.__call__" ⟨.ref C::l,[]⟩)):=
 ⟨ok.hand,by have:=ok.dep;show A.depth+1+_ < _;lia,by have:=ok.vk;show A.units+1+_ < _;lia⟩
theorem bv.cls {C AK:Addr} {F:bf} (aP:makesIn (KT B.w.params) C=true) (aJ:findIn (KT B.w.params) (.ref C) "__init__"=some (some (.ref AK))) (hf:typeIn (KT B.w.params) (.ref AK)=some (.type "function")) (Sh:bv B d (.ref AK) F):
  bv B (d+1) (.ref C) (dO C F):=by
 intro A ae D s args cI v al ok I R e Q E h;revert e;refine cg λbA ai av aC=>?_;obtain ⟨hh,g,iH,t,os⟩:=s;refine make_core (makes_of I.K aP) (looks_findIn I.K aJ) (λyh=>bind_fn I.K yh hf) (.inl rfl) ?_;have bU:hh.get? hh.objs.size=none:=f7 ⟨hh,g,iH,t,os⟩;have e5:hh.get? (hh.objs.size+1)=none:=by
  cases q:hh.get? (hh.objs.size+1) with
  | none=>rfl
  | some o=>exact absurd (Heap.lt_size q) (Nat.not_lt.mpr (Nat.le_succ _))
 have X:ce ⟨hh,g,iH,t,os⟩ ⟨(hh.push emptyDict).push (instObj C hh.objs.size),g,iH,t,os⟩:=⟨λb o e=>Heap.get?_push_of_some _ (Heap.get?_push_of_some _ e),rfl,rfl⟩;have S:Step [] ae ⟨hh,g,iH,t,os⟩ (ae++[some (hh.objs.size+1,hh.objs.size)]) _:=q6 X e5 bU;have aj:((hh.push emptyDict).push (instObj C hh.objs.size)).get? (hh.objs.size+1)=some (instObj C hh.objs.size):=by
  have:=Heap.get?_push_size (hh.push emptyDict) (o:=instObj C hh.objs.size) rfl;rwa [Heap.size_push] at this
 have ao:((hh.push emptyDict).push (instObj C hh.objs.size)).get? hh.objs.size=some (jy [] 0):=Heap.get?_push_of_some _ (Heap.get?_push_size hh (o:=emptyDict) rfl);have gB:=I.add X (q:=(hh.objs.size+1,hh.objs.size)) (o:=.inst C []) e5 bU (.inst C [] [] 0 (by simp) aj ao ⟨rfl,by simp,λk v x e h=>by simp at h⟩);have bV:cC (ae++[some (hh.objs.size+1,hh.objs.size)]) ((hh.push emptyDict).push (instObj C hh.objs.size)) (.ref D.length::args) (.ref (hh.objs.size+1)::cI):=by
  refine .cons ?_ (R.bx S);rw [<- I.len];exact aO.fresh (q:=(hh.objs.size+1,hh.objs.size))
 refine codeAny_mono (Sh _ _ _ _ _ _ _ _ (eU.under ok) gB bV av (λv s'=>v=.none/\Q (.ref (hh.objs.size+1)) s') E λbt s' cv bm bh bo=>?_) λr s' z=>?_
 .revert bo;refine yx (v:=bA) (λaC=>a4 aC h λh bo=>?_) aC;have y:=aO.Uu bo;subst y;refine ⟨rfl,h _ _ _ bm (S.trans bh) ?_⟩;exact (bV.at_ 0 _ _ rfl rfl).bx bh
 .rcases r with e | (v | _ | _ | _) <;> first | exact z | exact z.elim
noncomputable def g0 (C k:Nat) (D:am) (v w:V):Option am:=sY (λi dj fs=>if dj == C then if k<=fs.length then some (D.set i (.inst C (if k < fs.length then fs.set k w else fs++[w]))) else none else none) D v
structure pS (B:db) (C k:Nat) (name:Str):Prop where
 over:plainOver (KT B.w.params) C=true
 Zm:takerIn (KT B.w.params) C name=some none
 ma:findIn (KT B.w.params) (.ref C) "__setattr__"=some (some (.builtin "object.__setattr__"))
 cls:(clsIn (KT B.w.params) C).any (·.hasDict)=true
 cX:(hB C).Nodup
 cS:(hB C).length<=1000
 at_:(hB C)[k]? =some name
theorem Wi {C k:Nat} {fs:List V} {es:List DictEntry} {n:Nat} {h:Heap} {x:Str} {w:V} {cF:Value} {hash:Int} {t:Tok} (r:i5 ae h C fs es) (cX:(hB C).Nodup) (ax:(hB C)[k]? =some x) (jB:aO ae h w cF) (hk:k<=fs.length):
  ∃rT qM,Obj.putName x hash (.str x t) cF (jy es n)=jy rT qM/\i5 ae h C (if k < fs.length then fs.set k w else fs++[w]) rT:=by
 unfold jy;simp only [Obj.putName_eq,Obj.putNameByArray,List.findIdx?_toArray]
 by_cases cY:k < fs.length
 .refine tt (Gu (n:=n) r cX ax (List.getElem?_eq_getElem cY)) λhy cW cd aZ aW aJ=>?_;rw [aJ];refine ⟨es.modify k (λe=>{e with val:=cF}),n,by simp,?_⟩;rw [if_pos cY];refine ⟨by simp [r.len],by simp [r.le],λj v y e aj ao aL=>?_⟩
  by_cases aX:k=j
  .subst aX;rw [List.getElem?_set_self cY] at aj;revert aj;refine s1 λbd=>?_;subst bd;rw [List.getElem?_modify,cW] at aL;simp at aL;subst aL;rw [ax] at ao;revert ao;refine s1 λbd=>?_;subst bd;exact ⟨cd,jB⟩
  .rw [List.getElem?_set_ne aX] at aj;rw [List.getElem?_modify] at aL;simp [aX] at aL;exact r.at_ j v y e aj ao aL
 .have ii:k=fs.length:=by lia
  have Ut:es.findIdx? (·.key.isStr x)=none:=by
   rw [List.findIdx?_eq_none_iff];intro e cW;refine cH (List.mem_iff_getElem?.mp cW) λj aX=>r.str cX ax aX λz=>?_;have:=(List.getElem?_eq_some_iff.mp aX).1;rw [z,ii,r.len] at this;exact Nat.lt_irrefl _ this
  rw [Ut];refine ⟨es++[⟨hash,.str x t,cF⟩],n+1,by simp,?_⟩;rw [if_neg cY];have dC:=(List.getElem?_eq_some_iff.mp ax).1;refine ⟨by simp [r.len],by simp;lia,λj v y e aj ao aL=>?_⟩;rw [List.getElem?_append] at aj aL;rw [r.len] at aj;split at aj
  .rename_i q;rw [if_pos q] at aL;exact r.at_ j v y e aj ao aL
  .rename_i q;rw [if_neg q] at aL;have aX:j - es.length=0:=by
    cases hz:j - es.length with
    | zero=>rfl
    | succ z=>rw [hz] at aj;simp at aj
   rw [aX] at aj aL;simp at aj aL;subst aj aL;have Rr:j=k:=by have:=r.len;lia
   subst Rr;rw [ax] at ao;revert ao;refine s1 λbd=>?_;subst bd;exact ⟨⟨t,rfl⟩,jB⟩
theorem Gs {C k:Nat} {name:Str} {v w:V} {cv cF:Value} {al:am} {A:Around} {Q:Unit->Shared->Prop} {E:Value->Shared->Prop} (F:pS B C k name) (I:Inv B ae D s) (r:aO ae s.heap v cv) (jB:aO ae s.heap w cF) (e:g0 C k D v w=some al)
  (h:∀s',Inv B ae al s'->Step [] ae s ae s'->Q () s'):wpAny (model br B.w) A (setAttr cv name cF) Q E s:=by
 revert r;refine Dd (λi ts fs aJ=>ds λdC=>ds λkv=>s1 λy=>?_) e;subst y;have dC:ts=C:=beq_iff_eq.mp dC;subst dC;refine Inv.qY I aJ (λz=>by cases z) λq bL rep=>?_;refine gC.e3 ?_ rep;intro es n h0 aj ao aL;refine a2 (any_some F.cls) λeD bj r7=>?_;obtain ⟨hh,g,iH,t,os⟩:=s;dsimp only at aj ao aL jB;refine set_plain I.K (uy aj ao) F.ma ?_;have En:=(I.ext (s':=⟨hh,g,iH,t+1,os⟩) ⟨λ_ _ e=>e,rfl,rfl⟩).K;refine osa_open (s:=⟨hh,g,iH,t+1,os⟩) En (uy aj ao) F.over F.Zm λb=>?_;refine wpAny_bind (wpAny_pure (wpAny_bind (wpAny_bind (wpAny_loadPart aj (wpAny_bind ((looks_clsIn En bj).here ?_))))));rw [r7];refine wpAny_pure (a:=some q.2) (wpAny_bind (wpAny_pure (wpAny_bind ?_)));unfold nsSet;refine wpAny_bind (wpAny_bind (wpAny_askSetting (wpAny_pure (wpAny_bind (wpAny_mkText (wpAny_bind (wpAny_loadPart ao ?_)))))));have nl:(!es.toArray.any (·.key.isStr name) && es.toArray.any (·.refKey))=false:=by
  have:es.toArray.any (·.refKey)=false:=by
   rw [<- Array.any_toList,List.any_eq_false];intro hy Rf;rw [aL.ref Rf];exact Bool.false_ne_true
  rw [this,Bool.and_false]
 unfold jy;dsimp only;rw [aRefKeyMayBeTheName_at,nl];refine wpAny_updatePart ao ?_;refine hn (Wi (n:=n) (hash:=PyData.keyHash B.w.params name) (t:=t+1) aL F.cX F.at_ jB kv) λrT qM Hd kt=>?_;have vB:=Heap.get?_update_self (Obj.putName name (PyData.keyHash B.w.params name) (.str name (t+1)) cF) ao (by rw [Hd];rfl);rw [Hd] at vB;have fa:rT.length<=1000:=by rw [<- kt.len];exact Nat.le_trans kt.le F.cS
 have l5:∀b,b≠q.1->b≠q.2->∀o,hh.get? b=some o->(hh.update q.2 (Obj.putName name (PyData.keyHash B.w.params name) (.str name (t+1)) cF)).get? b=some o:=λb _ eY o e=>(Heap.get?_update_other hh _ (Ne.symm eY)).trans e;have QP:=(Heap.get?_update_other hh (Obj.putName name (PyData.keyHash B.w.params name) (.str name (t+1)) cF) h0).trans aj;have mono:∀b,(hh.update q.2 (Obj.putName name (PyData.keyHash B.w.params name) (.str name (t+1)) cF)).get? b=none->hh.get? b=none:=λb e=>by
  by_cases z:b=q.2
  .subst z;rw [vB] at e;cases e
  .rwa [Heap.get?_update_other hh _ (Ne.symm z)] at e
 refine wpAny_bind (wpAny_lookBehind (o:=jy rT qM) vB (pastItsLine_dict (by rw [List.size_toArray,sizeLine_eq];lia)) ?_);refine wpAny_pure ?_;have S:Step [] ae ⟨hh,g,iH,t,os⟩ ae ⟨hh.update q.2 (Obj.putName name (PyData.keyHash B.w.params name) (.str name (t+1)) cF),g,iH,t+1+1,os⟩:=yn bL l5 mono;exact h _ (I.upd bL l5 mono (.inst ts _ rT qM h0 QP vB (kt.step S (.nil _))) rfl rfl) S
noncomputable def bI (C k:Nat) (d' fv:bK):aU:=λag D=>(fv ag D).bind λp=>(d' ag p.2).bind λq=>(g0 C k q.2 q.1 p.1).map λal=>(.nx,ag,al)
theorem et.yk {o value:Expr} {name:Str} {h6 pos:Pos} {C k:Nat} {d' fv} (F:pS B C k name) (aj:Ev B c value fv) (ao:Ev B c o d') (hs:∀env,swapsWith value (some (.Attribute o name h6)) pos.line env=pure false:=by intro _;rfl):
  et B c (.Assign [.Attribute o name h6] value pos) (bI C k d' fv):=λA ae D ag s r bX al ok I L e Q E h=>by
 revert e;refine cg λa ai av e=>?_;revert e;refine cg λb aY aC e=>?_;revert e;refine cb λa6 bN e=>?_;refine gx e h λh=>?_;clear e;exact plainObj_wpAny_Assign_Attribute (aj _ _ _ _ _ _ _ ok I L av _ E λbt s' b3 bm bh bo=>ao _ _ _ _ _ _ _ ok bm (L.bx bh) aC _ E λgj d4 cJ cB cD eH=>
  Gs F cB eH (bo.bx cD) bN λs3 d0 c9=>h _ _ _ d0 ((bh.trans cD).trans c9).fW (L.bx ((bh.trans cD).trans c9)) .nx) (hs _)
noncomputable def l9 (C k:Nat) (op:am->V->V->Option V) (d' fv:bK):aU:=λag D=>(d' ag D).bind λp=>(fld C k p.2 p.1).bind λw=>(fv ag p.2).bind λq=>(op q.2 w q.1).bind λz=>(g0 C k q.2 p.1 z).map λal=>(.nx,ag,al)
theorem et.L4 {o value:Expr} {name:Str} {h6 pos:Pos} {C k:Nat} {Je op d' fv} (F:pS B C k name) (bD:ty B C k name) (aG:ew B c.d (inplaceOp Je) op) (aj:Ev B c o d') (ao:Ev B c value fv):
  et B c (.AugAssign (.Attribute o name h6) Je value pos) (l9 C k op d' fv):=λA ae D ag s r bX al ok I L e Q E h=>by
 revert e;refine cg λa ai av e=>?_;revert e;refine bZ λw AH e=>?_;revert e;refine cg λb aY aC e=>?_;revert e;refine bZ λz mA e=>?_;revert e;refine cb λa6 bN e=>?_;refine gx e h λh=>?_;clear e;exact wpAny_AugAssign_AttributeAny (aj _ _ _ _ _ _ _ ok I L av _ E λd5 s1 b3 I1 dT d8=>Gr bD I1 d8 AH λs2 cF fk bV=>
  ao _ _ _ _ _ _ _ ok (I1.ext fk) (L.bx (dT.trans fk.step)) aC _ E λlD s3 cJ d0 c9 el=>aG _ _ _ _ _ _ _ _ _ ok d0 (bV.bx c9) el mA _ E λs4 FJ gW pR=>
   Gs F (d0.ext gW) ((d8.bx fk.step).bx (c9.trans gW.step)) pR bN λs5 jM gV=>h _ _ _ jM ((((dT.trans fk.step).trans c9).trans gW.step).trans gV).fW (L.bx ((((dT.trans fk.step).trans c9).trans gW.step).trans gV)) .nx)
noncomputable def L1 (D:am) (v:V):Option (List V):=(m4 some v).or (fx D v)
noncomputable def item (D:am) (v w:V):Option V:=fV (λi=>(gA (λl=>((seqIndex? i l.length).bind (l[·]?)).map λc=>.str [c]) v).or ((L1 D v).bind λl=>(seqIndex? i l.length).bind (l[·]?))) w
theorem Dm {i:Int} {n k:Nat} (h:seqIndex? i n=some k):(i < 0/\0<=i+n/\k=(i+n).toNat)\/(0<=i/\i < n/\k=i.toNat):=by
 unfold seqIndex? at h;dsimp only at h
 by_cases aJ:i < 0
 .rw [if_pos aJ] at h
  by_cases q:(decide (0<=i+n) && decide (i+n < n))=true
  .rw [if_pos q] at h;simp only [Bool.and_eq_true,decide_eq_true_eq] at q;exact .inl ⟨aJ,q.1,(Option.some.inj h).symm⟩
  .rw [if_neg q] at h;exact bU h
 .rw [if_neg aJ] at h
  by_cases q:(decide (0<=i) && decide (i < n))=true
  .rw [if_pos q] at h;simp only [Bool.and_eq_true,decide_eq_true_eq] at q;exact .inr ⟨q.1,q.2,(Option.some.inj h).symm⟩
  .rw [if_neg q] at h;exact bU h
theorem yi {i:Int} {n k:Nat} (h:seqIndex? i n=some k) (aA:n<=big):k < n/\ -(2 ^ 63)<=i/\i < 2 ^ 63:=by
 unfold big at aA;rcases Dm h with ⟨aj,ao,aL⟩ | ⟨aj,ao,aL⟩ <;> (refine ⟨?_,?_,?_⟩ <;> lia)
theorem vg {M:Model} {A:Around} {E:Value->Shared->Prop} {value iY:Expr} {o i:Value} {T id:String} {Q:Value->Shared->Prop} (ig:s.TypeIs o T)
  (aW:typeLookup (.type T) "__getitem__"=pure (some (.builtin id))) (h:wpAny (model br B.w) A (getItem o i) Q E s)
  (hs:subscripted iY false o i=operate [o,i] (getItem o i)):wpAny (model br B.w) A (subscriptTail value iY o i) Q E s:=by
 unfold subscriptTail;refine wpAny_bind ?_;rw [getitemInPython_of_ne ig.not_modules];refine wpAny_bind (wpAny_specialOf ig aW ?_);have fin:wpAny (model br B.w) A (subscripted iY false o i) (λr pu=>wpAny (model br B.w) A (letTemporaryGo value o r >>=λ_=>pure r) Q E pu) E s:=by
  rw [hs];exact wpAny_operating (wpAny_mono h (λr pu wU=>wpAny_bind (wpAny_letTemporaryGo (wpAny_pure wU))) λ_ _ x=>x)
 first
  | exact wpAny_pure (wpAny_bind fin)
  | exact wpAny_bind (wpAny_pure (wpAny_bind fin))
  | exact wpAny_bind fin
theorem SH {A:Around} {v w bA:V} {cv cF:Value} {value iY:Expr} {Q:Value->Shared->Prop} {E:Value->Shared->Prop} (I:Inv B ae D s) (gz:aO ae s.heap v cv) (jB:aO ae s.heap w cF) (e:item D v w=some bA)
  (hs:∀o i,subscripted iY false o i=operate [o,i] (getItem o i)) (h:∀s' iF,ce s s'->aO ae s'.heap bA iF->Q iF s'):wpAny (model br B.w) A (subscriptTail value iY cv cF) Q E s:=by
 refine iv (λi t e=>?_) e jB;refine dM (λe=>?_) (λe=>?_) e
 .refine iw (λl x md e aj ao=>?_) e gz;refine cb (λhu av y=>bZ (λk aC bN=>?_) av) e;subst y;have ax:=yi aC ao;refine vg (M:=model br B.w) (typeIs_str s x md) PyProof.Rows.slot_str_getitem.lookup (PyProof.Rows.getItem_str (c:=hu) ?_ ?_ (h _ _ .toks (.str _ _ _ rfl (by unfold big;simp)))) (hs _ _)
  .rw [decide_eq_false (Int.not_lt.mpr ax.2.1),decide_eq_false (Int.not_le.mpr ax.2.2)];rfl
  .rw [mc aj,aC,Option.bind_some];subst aj;simpa using bN
 .refine bZ (λl av=>bZ λk aC bN=>?_) e;refine dM (λav=>?_) (λav=>?_) av
  .refine yy (λl' items a av cT cd aA aZ=>?_) av gz;revert av;refine s1 λy=>?_;subst y;have ax:=yi aC aA;refine a2 (aZ.get bN) λiF aj ao=>?_;exact vg (M:=model br B.w) cd.typeIs PyProof.Rows.slot_tuple_getitem.lookup (PyProof.Rows.getItem_tuple cd ax.2.1 ax.2.2 (by simp only [List.size_toArray];rw [<- aZ.len];exact aC) (by simpa using aj) (h _ _ (.refl _) ao)) (hs _ _)
  .refine fj (lJ I gz av) λa items aV aW aZ aA=>?_;subst aV;have ax:=yi aC aA;refine a2 (aZ.get bN) λiF aj ao=>?_;refine vg (M:=model br B.w) aW.typeIs PySem.F.slot_list_getitem.lookup ?_ (hs _ _);rcases Dm aC with ⟨cz,dB,lj⟩ | ⟨cz,dB,lj⟩
   .refine wpAny_getItem_list_neg aW cz ?_ ax.2.1 (x:=iF) ?_ (h _ _ (.refl _) ao)
    .simp only [List.size_toArray];rw [<- aZ.len];lia
    .simp only [List.size_toArray,List.getElem?_toArray];rw [<- aZ.len,<- lj];exact aj
   .exact wpAny_getItem_list aW cz ax.2.2 (x:=iF) (by rw [<- lj];simpa using aj) (h _ _ (.refl _) ao)
noncomputable def aT (f g:bK):bK:=λag D=>(f ag D).bind λp=>(g ag p.2).bind λq=>(item q.2 p.1 q.1).map λv=>(v,q.2)
theorem Ev.item {value iY:Expr} {pos:Pos} {f g} (aj:Ev B c value f) (ao:Ev B c iY g) (hs:∀o i,subscripted iY false o i=operate [o,i] (getItem o i):=by intro _ _;rfl):Ev B c (.Subscript value iY pos) (aT f g):=λA ae D ag s v al ok I L e Q E h=>by
 revert e;refine cg λa ai av e=>?_;revert e;refine cg λb aY aC e=>?_;revert e;refine cb λw bN e=>?_;refine dP e h λh=>?_;clear e;exact Subscript_ (aj _ _ _ _ _ _ _ ok I L av _ E λbt s' b3 bm bh bo=>ao _ _ _ _ _ _ _ ok bm (L.bx bh) aC _ E λgj d4 cJ cB cD eH=>
  SH cB (bo.bx cD) eH bN hs λs3 iF X el=>h _ _ _ (cB.ext X) ((bh.trans cD).trans X.step) el)
noncomputable abbrev rv:=List V->am->Option (Option Int×am)
noncomputable def Pv (B:db) (c:eC) (x:Option Expr) (f:rv):Prop:=
 ∀A ae D ag s v al,eU c.d A->Inv B ae D s->Loc B c ae ag s.heap->f ag D=some (v,al)->
  ∀(Q:Value->Shared->Prop) (E:Value->Shared->Prop),(∀bt s' l,Inv B bt al s'->Step [] ae s bt s'->l.map (·.1)=v->Q (partValue l) s')->wpAny (model br B.w) A (evalPart x c.env) Q E s
noncomputable def lw:rv:=λ_ D=>some (none,D)
noncomputable def ed (f:bK):rv:=λag D=>(f ag D).bind λp=>fV (λi=>some (some i,p.2)) p.1
theorem Pv.no:Pv B c none lw:=λA ae D ag s v al ok I L e Q E h=>by revert e;refine s2 λbd bl=>?_;subst bd;subst bl;exact wpAny_evalPart_none (h _ _ none I (.refl _ _ _) rfl)
theorem Pv.yes {e f} (aj:Ev B c e f):Pv B c (some e) (ed f):=λA ae D ag s v al ok I L e Q E h=>by
 revert e;refine cg λa ai av e=>?_;refine wpAny_evalPart_some (aj _ _ _ _ _ _ _ ok I L av _ E λbt s' b3 bm bh bo=>?_);have e:fV _ a=_:=e;refine iv (λi t e=>?_) e bo;revert e;refine s2 λy z=>?_;subst y;subst z;exact h _ _ (some (i,t)) bm bh rfl
noncomputable def Du (l:List Nat) (lo aJ:Option Int):List Nat:=let f':=Builtin.Str.strSliceIndices lo aJ 1 l.length;if f'.length == l.length then l else f'.filterMap (l[·]?)
noncomputable def nM (lo aJ:Option Int) (n:Nat):List Nat:=sliceRange (sliceBounds lo aJ none n).1 (sliceBounds lo aJ none n).2.1 (sliceBounds lo aJ none n).2.2
noncomputable def fG {aS:Type} (l:List aS) (lo aJ:Option Int):List aS:=(nM lo aJ l.length).filterMap (l[·]?)
theorem I8 {aS a0:Type} {l:List aS} {m:List a0} (h:l.length=m.length):∀f':List Nat,(f'.filterMap (l[·]?)).length=(f'.filterMap (m[·]?)).length
 | []=>rfl
 | i::f'=>by
  have bJ:=I8 h f'
  by_cases aJ:i < l.length
  .rw [List.filterMap_cons,List.filterMap_cons,List.getElem?_eq_getElem aJ,List.getElem?_eq_getElem (h▸aJ)];simp [bJ]
  .rw [List.filterMap_cons,List.filterMap_cons,List.getElem?_eq_none (by lia),List.getElem?_eq_none (by lia)];exact bJ
theorem I' {h:Heap} {l:List V} {m:List Value} (r:cC ae h l m):∀f':List Nat,cC ae h (f'.filterMap (l[·]?)) (f'.filterMap (m[·]?))
 | []=>.nil
 | i::f'=>by
  have bJ:=I' r f'
  by_cases aJ:i < l.length
  .rw [List.filterMap_cons,List.filterMap_cons,List.getElem?_eq_getElem aJ,List.getElem?_eq_getElem (r.len▸aJ)];exact .cons (r.at_ i _ _ (List.getElem?_eq_getElem aJ) (List.getElem?_eq_getElem (r.len▸aJ))) bJ
  .rw [List.filterMap_cons,List.filterMap_cons,List.getElem?_eq_none (by lia),List.getElem?_eq_none (by have:=r.len;lia)];exact bJ
noncomputable def lb (f:bK) (lo aJ:rv):bK:=λag D=>(f ag D).bind λp=>(lo ag p.2).bind λq=>(aJ ag q.2).bind λr=>gA (λl=>if (Du l q.1 r.1).length<=big then some (.str (Du l q.1 r.1),r.2) else none) p.1
noncomputable def kn (f:bK) (lo aJ:rv):bK:=λag D=>(f ag D).bind λp=>(lo ag p.2).bind λq=>(aJ ag q.2).bind λr=>(fx r.2 p.1).bind λl=>
 if (fG l q.1 r.1).length<=big then some (.ap (fG l q.1 r.1),r.2) else none
theorem Ev.Y8 {value:Expr} {lower upper:Option Expr} {p pos:Pos} {f lo aJ} (aj:Ev B c value f) (ao:Pv B c lower lo) (aL:Pv B c upper aJ) (cd:∀o r,letTemporaryGo value o r=pure ():=by intro _ _;rfl):Ev B c (.Subscript value (.Slice lower upper none p) pos) (lb f lo aJ):=λA ae D ag s v al ok I L e Q E h=>by
 revert e;refine cg λa ai av e=>?_;revert e;refine cg λb aY aC e=>?_;revert e;refine cg λd a6 bN e=>?_;refine wpAny_Subscript_str_slice (aj _ _ _ _ _ _ _ ok I L av _ E λd5 s1 b3 I1 dT d8=>ao _ _ _ _ _ _ _ ok I1 (L.bx dT) aC _ E λtp s2 eb gB c8 jb=>
  aL _ _ _ _ _ _ _ ok gB ((L.bx dT).bx c8) bN _ E λlD s3 hZ d0 c9 Bl=>?_) cd
 have e:gA _ a=_:=e;refine iw (λl x t e cz dB=>?_) e d8;refine ds (λaA e=>a4 e h λh=>?_) e;subst jb Bl;refine ⟨x,t,eb,hZ,rfl,rfl,rfl,?_⟩;have X:ce s3 {s3 with heap:=s3.heap.push {cls:=.type "slice",data:=.fields #[partValue eb,partValue hZ,.none]}}:=.push _ _;have S:=(dT.trans c8).trans c9;unfold sliceMade;have aw:slicePicked x eb hZ none=Builtin.Str.strSliceIndices (eb.map (·.1)) (hZ.map (·.1)) 1 l.length:=by unfold slicePicked;rw [mc cz];rfl
 rw [aw,mc cz];simp only [Option.map_none,Option.getD_none,beq_self_eq_true,Bool.true_and];unfold Du at aA h;dsimp only at aA h;split
 .rename_i q;rw [if_pos q] at aA h;exact h _ _ _ (d0.ext X) (S.trans X.step) (.str _ _ _ cz aA)
 .rename_i q;rw [if_neg q] at aA h;have cW:(((Builtin.Str.strSliceIndices (eb.map (·.1)) (hZ.map (·.1)) 1 l.length).filterMap (x.cps[·]?)).toArray).toList=(Builtin.Str.strSliceIndices (eb.map (·.1)) (hZ.map (·.1)) 1 l.length).filterMap (l[·]?):=by
   subst cz;simp
  refine ⟨?_,h _ _ _ ((d0.ext X).ext .toks) ((S.trans X.step).trans ce.toks.step) (.str _ _ _ cW aA)⟩;rw [mc cW];exact kh aA
theorem Ev.TG {value:Expr} {lower upper:Option Expr} {p pos:Pos} {f lo aJ} (aj:Ev B c value f) (ao:Pv B c lower lo) (aL:Pv B c upper aJ) (cd:∀o r,letTemporaryGo value o r=pure ():=by intro _ _;rfl):Ev B c (.Subscript value (.Slice lower upper none p) pos) (kn f lo aJ):=λA ae D ag s v al ok I L e Q E h=>by
 revert e;refine cg λa ai av e=>?_;revert e;refine cg λb aY aC e=>?_;revert e;refine cg λd a6 bN e=>?_;revert e;refine bZ λl du e=>?_;split at e
 .rename_i aA;refine a4 e h λh=>?_;clear e;refine wpAny_Subscript_list_slice (aj _ _ _ _ _ _ _ ok I L av _ E λd5 s1 b3 I1 dT d8=>ao _ _ _ _ _ _ _ ok I1 (L.bx dT) aC _ E λtp s2 eb gB c8 jb=>
   aL _ _ _ _ _ _ _ ok gB ((L.bx dT).bx c8) bN _ E λlD s3 hZ d0 c9 Bl=>?_) cd
  refine fj (lJ d0 ((d8.bx c8).bx c9) du) λad items aV aW aZ uk=>?_;subst aV;subst jb Bl;have part:∀l:Option (Int×Tok),IsPart (partValue l) (l.map (·.1)):=λl=>by cases l with | none=>exact .none | some p=>exact .int _ _
  refine ⟨ad,items.toArray,eb.map (·.1),hZ.map (·.1),rfl,aW,?_,part _,part _,?_⟩
  .simp only [List.size_toArray];rw [<- aZ.len];exact kh uk
  .have X:ce s3 {s3 with heap:=(s3.heap.push {cls:=.type "slice",data:=.fields #[partValue eb,partValue hZ,.none]}).push {cls:=.type "list",data:=.seq (slicePick items.toArray (eb.map (·.1)) (hZ.map (·.1)) none)}}:=(ce.push _ _).trans (.push _ _);have mD:slicePick items.toArray (eb.map (·.1)) (hZ.map (·.1)) none=(fG items (eb.map (·.1)) (hZ.map (·.1))).toArray:=by
    unfold slicePick fG nM;simp
   have RJ:=I' (aZ.bx X.step) (nM (eb.map (·.1)) (hZ.map (·.1)) items.length);have fa:l.length=items.length:=aZ.len;have cT:¬foot lD (s3.heap.objs.size+1):=d0.lr (by
    cases q:s3.heap.get? (s3.heap.objs.size+1) with
    | none=>rfl
    | some o=>exact absurd (Heap.lt_size q) (Nat.not_lt.mpr (Nat.le_succ _)))
   have S:=(dT.trans c8).trans c9;refine h _ _ _ (d0.ext X) (S.trans X.step) (.ap _ (fG items (eb.map (·.1)) (hZ.map (·.1))) _ cT ?_ aA ?_ ?_)
   .rw [mD];refine ⟨{cls:=.type "list",data:=.seq (fG items (eb.map (·.1)) (hZ.map (·.1))).toArray},?_,rfl,0,rfl⟩;have:=Heap.get?_push_size (s3.heap.push {cls:=.type "slice",data:=.fields #[partValue eb,partValue hZ,.none]}) (o:={cls:=.type "list",data:=.seq (fG items (eb.map (·.1)) (hZ.map (·.1))).toArray}) rfl;rwa [Heap.size_push] at this
   .unfold fG;rw [fa];exact I8 fa _
   .unfold fG;rw [fa];exact RJ.at_
 .exact bU e
inductive i6 (ae:eu) (h:Heap):V->Nat->Addr->Prop
 | lst (v:V) (k:Nat) (it a:Addr):(∃i,v=.ref i)\/(∃l,v=.ap l)->aO ae h v (.ref a)->h.IsListIter it a k->i6 ae h v k it
 | de (a b c:Int) (k:Nat) (it:Addr):IsRangeIter h it (a+c * k) (Builtin.Range.rangeSize a b c - k) c->i6 ae h (.de a b c) k it
 | str (l:List Nat) (x:Str) (t:Tok) (k:Nat) (it:Addr):x.cps.toList=l->h.IsStrIter it "str_ascii_iterator" x t k->i6 ae h (.str l) k it
theorem i6.obj {h:Heap} {v k it} (r:i6 ae h v k it):∃o vs,h.get? it=some o/\o.data=.fields vs/\fS o=true:=by
 cases r with
 | lst v k it a _ _ ao=>revert ao;refine hN λo aG bj bn=>?_;exact ⟨o,_,aG,bn,by unfold fS;rw [bn,bj];rfl⟩
 | de a b c k it aj=>exact ⟨_,_,aj,rfl,by unfold fS;rfl⟩
 | str l x t k it _ aj=>revert aj;refine hN λo aG bj bn=>?_;exact ⟨o,_,aG,bn,by unfold fS;rw [bn,bj];rfl⟩
theorem i6.step {v k it} (r:i6 ae s.heap v k it) (x:Step X ae s bt s') (p:hq X s.heap) (cT:¬foot ae it) (nx:it∉X):i6 bt s'.heap v k it:=by
 cases r with
 | lst v k it a aI aj ao=>revert ao;refine eQ λo aG r=>?_;exact .lst v k it a aI (aj.step x p) ⟨o,x.keep _ _ aG cT nx,r⟩
 | de a b c k it aj=>exact .de a b c k it (x.keep _ _ aj cT nx)
 | str l y t k it h0 aj=>revert aj;refine eQ λo aG r=>?_;exact .str l y t k it h0 ⟨o,x.keep _ _ aG cT nx,r⟩
noncomputable def g3 (D:am) (v:V) (k:Nat):Option (Option V):=(vo (λa b c=>some (if (k:Int) < Builtin.Range.rangeSize a b c then some (.int (a+c * k)) else none)) v).or ((gA (λl=>some ((l[k]?).map λhu=>.str [hu])) v).or ((fx D v).map λl=>l[k]?))
noncomputable def jd (D:am) (v:V):Bool:=((vo (λa b c=>if Builtin.Range.small a b c then some () else none) v).or ((gA (λl=>if l.all λhu=>decide (hu < 128) then some () else none) v).or ((fx D v).map λ_=>()))).isSome
theorem JX {it:Addr} (hk:∀b o,s.heap.get? b=some o->b≠it->s'.heap.get? b=some o) (cW:∃o,s'.heap.get? it=some o):Step [it] ae s ae s':=by
 refine ⟨λb o e _ n=>hk b o e (by simpa using n),λb e=>?_,Nat.le_refl _,λ_ _ _ e=>e,λi q aJ e=>by have:=(List.getElem?_eq_some_iff.mp e).1;lia⟩
 by_cases z:b=it
 .subst z;revert cW;refine d7 λo cW=>?_;rw [e] at cW;exact bU cW
 .cases q:s.heap.get? b with
  | none=>rfl
  | some o=>rw [hk b o q z] at e;cases e
theorem aO.keep {h h':Heap} {v cv} (r:aO ae h v cv) (k:∀b o,h.get? b=some o->b∉X->h'.get? b=some o) (p:hq X h):aO ae h' v cv:=by
 have ve:∀{o:Obj} {items n} {T:String},o.data=.seq items n->o.cls=.type T->BU T=false->fS o=false:=λ{o items n T} e aC bN=>by unfold fS;rw [e,aC];exact bN
 induction r with
 | none=>exact .none
 | bool b=>exact .bool b
 | int i t=>exact .int i t
 | str y l t aj ao=>exact .str y l t aj ao
 | tup l items a cT cd aA aW _ bJ=>
  revert cd;refine hN λo aG bj ci=>?_;revert ci;refine d7 λn bn=>?_;exact .tup l items a cT ⟨o,k _ _ aG (p.not aG (ve bn bj (by decide))),bj,n,bn⟩ aA aW bJ
 | ap l items a cT cd aA aW _ bJ=>
  revert cd;refine hN λo aG bj ci=>?_;revert ci;refine d7 λn bn=>?_;exact .ap l items a cT ⟨o,k _ _ aG (p.not aG (ve bn bj (by decide))),bj,n,bn⟩ aA aW bJ
 | de a b c r t bA v cT aZ=>exact .de a b c r t bA v cT (k _ _ aZ (p.not aZ rfl))
 | ref i a aJ bL=>exact .ref i a aJ bL
 | hole a o cT aG bj bn=>exact .hole a o cT (k _ _ aG (p.not aG (by unfold fS;rw [bn,bj];rfl))) bj bn
 | con v=>exact .con v
theorem Inv.keep (I:Inv B ae D s) (hk:∀b o,s.heap.get? b=some o->b∉X->s'.heap.get? b=some o) (p:hq X s.heap) (cT:∀a∈X,¬foot ae a) (bU:∀a∈X,B.h0.get? a=none) (cr:s'.gens=s.gens) (aG:s'.os=s.os):Inv B ae D s' where
 len:=I.len
 obj i q o e bH:=by
  have cz:∀dz,s.heap.get? q.1=some dz->s'.heap.get? q.1=some dz:=λdz h=>hk _ _ h λm=>cT _ m ⟨i,q,e,.inl rfl⟩;have dB:∀dz,s.heap.get? q.2=some dz->s'.heap.get? q.2=some dz:=λdz h=>hk _ _ h λm=>cT _ m ⟨i,q,e,.inr rfl⟩
  cases I.obj i q o e bH with
  | list l items n aj ao aL cm=>exact .list l items n aj (cz _ ao) ⟨aL.len,λk v cv a b=>(aL.at_ k v cv a b).keep hk p⟩ cm
  | dict l bT aj ao aL=>exact .dict l bT aj (FZ ao cz) ⟨aL.len,aL.small,λk dA hy a b=>let z:=aL.at_ k dA hy a b;⟨z.1,z.2.keep hk p⟩⟩
  | inst C fs es n h0 aj ao aL=>exact .inst C fs es n h0 (cz _ aj) (dB _ ao) ⟨aL.len,aL.le,λk v y e a b d=>⟨(aL.at_ k v y e a b d).1,(aL.at_ k v y e a b d).2.keep hk p⟩⟩
 live:=I.live
 apart:=I.apart
 fresh:=I.fresh
 base b o e:=hk b o (I.base b o e) λm=>by rw [bU b m] at e;cases e
 gens:=cr.trans I.gens
 os:=aG.trans I.os
theorem Inv.it (I:Inv B ae D s) {it:Addr} (aw:hq [it] s.heap) (cT:¬foot ae it) (bU:B.h0.get? it=none) (hk:∀b o,s.heap.get? b=some o->b≠it->s'.heap.get? b=some o) (cr:s'.gens=s.gens) (aG:s'.os=s.os):Inv B ae D s':=
 I.keep (X:=[it]) (λb o e n=>hk b o e (uX n)) aw (kg cT) (kg bU) cr aG
theorem L0 {v:V} {l:List V} (e:fx D v=some l):(∃i,v=.ref i)\/(∃l,v=.ap l):=by
 refine dM (λe=>?_) (λe=>?_) e
 .exact vn (λl _=>.inr ⟨l,rfl⟩) e
 .exact s6 (λi _ _ _=>.inl ⟨i,rfl⟩) e
theorem BV {A:Around} {v:V} {cv:Value} {Q:Value->Shared->Prop} {E:Value->Shared->Prop} (I:Inv B ae D s) (r:aO ae s.heap v cv) (e:jd D v=true) (h:∀s' it,ce s s'->s.heap.get? it=none->i6 ae s'.heap v 0 it->Q (.ref it) s'):
  wpAny (model br B.w) A (pyIter cv) Q E s:=by
 refine cH (Option.isSome_iff_exists.mp e) λ_ e=>dM (λe=>?_) (dM (λe=>?_) (cb λl av _=>?_)) e
 .revert r h;refine Kk (λa b c e r h=>?_) e;refine ds (λe _=>?_) e;refine aO.e3 ?_ r;clear r;intro b2 t bA w cT aZ;refine wpAny_pyIter_range aZ e ?_;have X:ce s {s with heap:=s.heap.push {cls:=.type "range_iterator",data:=.fields #[rawInt a,rawInt (Builtin.Range.rangeSize a b c),rawInt c]}}:=.push _ _;refine h _ _ X (f7 s) (.de a b c 0 _ ?_);simp only [Int.natCast_zero,Int.mul_zero,Int.add_zero,Int.sub_zero];exact Heap.get?_push_size _ rfl
 .revert r h;refine vu (λl e r h=>?_) e;refine ds (λe _=>?_) e;refine aO.e3 ?_ r;clear r;intro x t aj ao;have bw:x.cps.all (· < 128)=true:=by
   rw [<- Array.all_toList,aj];exact e
  refine wpAny_pyIter_ascii bw ?_;have X:ce s {s with heap:=s.heap.push {cls:=.type "str_ascii_iterator",data:=.fields #[.str x t,.int 0 0]}}:=.push _ _;exact h _ _ X (f7 s) (.str l x t 0 _ aj ⟨_,Heap.get?_push_size _ rfl,rfl,rfl⟩)
 .refine fj (lJ I r av) λa items aV aW aZ aA=>?_;subst aV;refine wpAny_pyIter_list aW ?_;have X:ce s {s with heap:=s.heap.push {cls:=.type "list_iterator",data:=.fields #[.ref a,.int 0 0]}}:=.push _ _;exact h _ _ X (f7 s) (.lst v 0 _ a (L0 av) (r.bx X.step) ⟨_,Heap.get?_push_size _ rfl,rfl,rfl⟩)
theorem xC {A:Around} {v:V} {k:Nat} {it:Addr} {r:Option V} {Q:Option Value->Shared->Prop} {E:Value->Shared->Prop} (hh:A.handled=none) (I:Inv B ae D s) (R:i6 ae s.heap v k it) (cT:¬foot ae it) (bU:B.h0.get? it=none) (e:g3 D v k=some r)
  (h0:r=none->∀s',Inv B ae D s'->s'.gens=s.gens->s'.os=s.os->(∀b o,s.heap.get? b=some o->b≠it->s'.heap.get? b=some o)->Q none s')
  (aj:∀x,r=some x->∀s' eJ,Inv B ae D s'->Step [it] ae s ae s'->(∀b o,s.heap.get? b=some o->b≠it->s'.heap.get? b=some o)->aO ae s'.heap x eJ->i6 ae s'.heap v (k+1) it->Q (some eJ) s'):wpAny (model br B.w) A (pyNext (.ref it)) Q E s:=by
 refine fZ R.obj λo0 aaX oK aaM Bv=>?_;have aB:hq [it] s.heap:=kg ⟨o0,oK,Bv⟩;have q3:∀{h':Heap} {tk:Nat},Heap.SameBut it s.heap h'->(∃o,h'.get? it=some o)->Inv B ae D {s with heap:=h',toks:=tk}/\Step [it] ae s ae {s with heap:=h',toks:=tk}:=λc7 cW=>
  have hk:∀b o,s.heap.get? b=some o->b≠it->_:=λb o e n=>(c7.2 b n).trans e
  ⟨I.it aB cT bU hk rfl rfl,JX hk cW⟩
 have ex:∀{h':Heap},Heap.ExtBut it s.heap h'->r=none->Q none {s with heap:=h'}:=λc7 aZ=>
  have hk:∀b o,s.heap.get? b=some o->b≠it->_:=λb o e n=>c7 b o n e
  h0 aZ _ (I.it aB cT bU hk rfl rfl) rfl rfl hk
 cases R with
 | lst _ _ _ a aI aZ ih=>
  have bH:(fx D v).map (λl=>l[k]?)=some r:=by rcases aI with ⟨i,rfl⟩ | ⟨l,rfl⟩ <;> exact e
  revert bH;refine cb λl av aC=>?_;refine fj (lJ I aZ av) λEK items AV aW Hf aA=>?_
  cases AV
  cases r with
  | none=>
   have ax:items.toArray[k]? =none:=by
    simp only [List.getElem?_toArray];rw [List.getElem?_eq_none_iff] at aC ⊢;rw [<- Hf.len];exact aC
   exact wpAny_pyNext_list_end hh ih aW ax λh' c7=>ex c7 rfl
  | some x=>
   refine a2 (Hf.get aC) λeJ ax mZ=>?_;refine wpAny_pyNext_list_item ih aW (x:=eJ) (by simpa using ax) λh' lT c7=>?_;have Be:=lT;revert Be;refine eQ λb8 qn _=>?_;refine cq (q3 (h':=h') (tk:=s.toks) c7 ⟨b8,qn⟩) λbm bh=>?_;exact aj x rfl _ eJ bm bh (λb o e n=>(c7.2 b n).trans e) (mZ.step bh aB) (.lst v (k+1) it a aI (aZ.step bh aB) lT)
 | de a b c _ _ ih=>
  have aC:(if (k:Int) < Builtin.Range.rangeSize a b c then some (V.int (a+c * k)) else none)=r:=Option.some.inj e
  by_cases hk:(k:Int) < Builtin.Range.rangeSize a b c
  .rw [if_pos hk] at aC;subst aC;refine wpAny_pyNext_range_item ih (by lia) λh' lT c7=>?_;refine cq (q3 (h':=h') (tk:=s.toks+1) c7 ⟨_,lT⟩) λbm bh=>?_;refine aj _ rfl _ _ bm bh (λb o e n=>(c7.2 b n).trans e) (.int _ _) (.de a b c (k+1) it ?_);have hK:a+c * ((k+1:Nat):Int)=a+c * (k:Int)+c:=by push_cast;rw [Int.mul_add];lia
   have ob:Builtin.Range.rangeSize a b c - ((k+1:Nat):Int)=Builtin.Range.rangeSize a b c - (k:Int) - 1:=by push_cast;lia
   rw [hK,ob];exact lT
  .rw [if_neg hk] at aC;subst aC;exact wpAny_pyNext_range_end hh ih (by lia) λh' c7=>ex c7 rfl
 | str l x t _ _ ax ih=>
  have aC:(l[k]?).map (λhu=>V.str [hu])=r:=Option.some.inj e;subst ax
  cases bj:x.cps[k]? with
  | none=>
   have:x.cps.toList[k]? =none:=by simpa using bj
   rw [this] at aC;exact wpAny_pyNext_ascii_end hh ih bj λh' c7=>ex c7 aC.symm
  | some hu=>
   have:x.cps.toList[k]? =some hu:=by simpa using bj
   rw [this] at aC;subst aC;refine wpAny_pyNext_ascii_item ih bj λh' lT c7=>?_;have Be:=lT;revert Be;refine eQ λb8 qn _=>?_;refine cq (q3 (h':=h') (tk:=s.toks+1) c7 ⟨b8,qn⟩) λbm bh=>?_;exact aj _ rfl _ _ bm bh (λb o e n=>(c7.2 b n).trans e) (.str _ _ _ rfl (by unfold big;simp)) (.str _ x t (k+1) it rfl lT)
theorem Loc.off {a:Addr} (L:Loc B c ae ag s.heap) (hk:∀b o,s.heap.get? b=some o->b≠a->s'.heap.get? b=some o) (ih:∃o,s.heap.get? a=some o/\fS o=true/\∀v,o.data≠.cell v) (nB:a∉c.X):Loc B c ae ag s'.heap:=by
 revert ih;refine hN λo0 oK Bv Ra=>?_;have aB:hq [a] s.heap:=kg ⟨o0,oK,Bv⟩;have cz:∀b o,s.heap.get? b=some o->b∉[a]->s'.heap.get? b=some o:=λb o e n=>hk b o e (uX n);have ns:∀{m},s.heap.Ns c.env.locals m->s'.heap.Ns c.env.locals m:=λ{m} aP=>sN aP λo e=>hk _ _ e λq=>nB (q▸c.qA);have cl:∀{b v},s.heap.IsCell b v->s'.heap.IsCell b v:=λ{b v} bj=>by
  revert bj;refine eQ λo aj ao=>?_;refine ⟨o,hk _ _ aj λq=>?_,ao⟩;rw [q,oK] at aj;revert aj;refine s1 λbd=>?_;subst bd;exact Ra _ ao
 refine ⟨L.good,?_,λk x bO v aj ao aL cm=>?_,λk x h=>?_,L.inj,L.out,L.fresh,λb h=>?_⟩
 .refine cH L.ns λm aP=>?_;exact ⟨m,ns aP⟩
 .cases L.held k x bO v aj ao aL cm with
  | loc cv av aC=>revert av;refine eQ λm aP av=>?_;exact .loc cv ⟨m,ns aP,av⟩ (aC.keep cz aB)
  | cell b cv bO hk av aC bN du=>exact .cell b cv bO hk av (cl aC) bN (du.keep cz aB)
 .refine fj (L.cell k x h) λb v aj ao cm aL=>?_;exact ⟨b,v,aj,ao,cm,cl aL⟩
 .refine a2 (L.gy b h) λo e p=>?_
  by_cases q:b=a
  .subst q;exact absurd h nB
  .exact ⟨o,hk _ _ e q,p⟩
theorem Loc.ta {it:Addr} (L:Loc B c ae ag s.heap) (hk:∀b o,s.heap.get? b=some o->b≠it->s'.heap.get? b=some o) (ih:∃o vs,s.heap.get? it=some o/\o.data=.fields vs/\fS o=true) (nB:it∉c.X):Loc B c ae ag s'.heap:=
 fZ ih λo vs aG bn aw=>L.off hk ⟨o,aG,aw,λv q=>by rw [bn] at q;cases q⟩ nB
noncomputable abbrev f5:=List V->V->Option (List V)
noncomputable def tF (B:db) (c:eC) (ae:eu) (D:am) (bX:List V) (s:Shared) (Q:Unit->Shared->Prop):Prop:=∀s',Inv B ae D s'->Step c.X ae s ae s'->Loc B c ae bX s'.heap->Q () s'
noncomputable def lE (B:db) (c:eC) (t:Expr) (f:f5):Prop:=
 ∀A ae D ag s v cv bX,eU c.d A->Inv B ae D s->Loc B c ae ag s.heap->aO ae s.heap v cv->f ag v=some bX->
  ∀(Q:Unit->Shared->Prop) (E:Value->Shared->Prop),tF B c ae D bX s Q->wpAny (model br B.w) A (assign t c.env cv) Q E s
noncomputable def cx (k:Nat):f5:=λag v=>some (ag.set k v)
noncomputable def kQ:List Nat->List V->List V->Option (List V)
 | [],vs,ag=>fI (some ag) (λ_ _=>none) vs
 | k::ks,vs,ag=>fI none (λv vs=>kQ ks vs (ag.set k v)) vs
noncomputable def f9 (ks:List Nat):f5:=λag=>m4 λl=>kQ ks l ag
theorem lE.name {x px} {k:Nat} {bO} (ax:c.names[k]? =some (x,bO)) (aW:lV c.own bO=true):lE B c (.Name x px) (cx k):=λA ae D ag s v cv bX ok I L R e Q E h=>by
 revert e;refine s1 λbd=>?_;subst bd;exact PyProof.Rows.assign_Name (vf ax (wX aW) I L R λs' bm bh fE _=>h _ bm bh fE)
noncomputable def pH (B:db) (c:eC) (es:List Expr) (ks:List Nat):Prop:=
 ∀A ae D ag s vs kj bX,eU c.d A->Inv B ae D s->Loc B c ae ag s.heap->cC ae s.heap vs kj->kQ ks vs ag=some bX->
  ∀(Q:Unit->Shared->Prop) (E:Value->Shared->Prop),tF B c ae D bX s Q->wpAny (model br B.w) A (assignInOrder ((assignEach es c.env).map (·.2)) kj) Q E s
theorem YP:∀{ks:List Nat} {vs:List V} {ag bX:List V},kQ ks vs ag=some bX->ks.length=vs.length:=by
 intro ks
 induction ks with
 | nil=>intro vs ag bX h;cases vs with
  | nil=>rfl
  | cons _ _=>exact bU h
 | cons k ks bJ=>intro vs ag bX h;cases vs with
  | nil=>exact bU h
  | cons _ _=>exact congrArg _ (bJ h)
theorem pH.nil:pH B c [] []:=λA ae D ag s vs kj bX ok I L R e Q E h=>by
 cases vs with
 | nil=>
  have:=List.eq_nil_of_length_eq_zero R.len.symm;subst this;exact c1 (κ:=λag=>tF B c ae D ag s Q) e h λh=>wpAny_assignInOrder_none (h _ I (.refl _ _ _) L)
 | cons v vs=>exact bU e
theorem pH.cons {x px es} {k:Nat} {ks bO} (ax:c.names[k]? =some (x,bO)) (aW:lV c.own bO=true) (ao:pH B c es ks):pH B c (.Name x px::es) (k::ks):=λA ae D ag s vs kj bX ok I L R e Q E h=>by
 cases vs with
 | nil=>exact bU e
 | cons v vs=>
  refine fZ R.q8 λcv cl aV r1 cp=>?_;subst aV;show wpAny _ _ (assignInOrder (assign (.Name x px) c.env::(assignEach es c.env).map (·.2)) _) _ _ _;exact wpAny_assignInOrder_more (lE.name (px:=px) ax aW _ _ _ _ _ _ _ _ ok I L r1 rfl _ E λs' bm bh fE=>ao _ _ _ _ _ _ _ _ ok bm fE (cp.step bh L.gy) e _ E λd4 cB cD hP=>h _ cB (bh.trans cD) hP)
theorem Ge {h':Heap} (x:Heap.ExtBut s.heap.objs.size s.heap h'):ce s {s with heap:=h'}:=⟨λb o e=>x b o (Nat.ne_of_lt (Heap.lt_size e)) e,rfl,rfl⟩
theorem lE.tup {es n pos ks} (aj:pH B c es ks) (a3:(assignEach es c.env).length=ks.length) (RP:(assignEach es c.env).findIdx? (·.1)=none):lE B c (.Tuple es n pos) (f9 ks):=λA ae D ag s v cv bX ok I L R e Q E h=>by
 refine yy (λl items a e cT cd aA aZ=>?_) e R;refine wpAny_assign_Tuple ok.hand cd (a3.trans ((YP e).trans aZ.len)) RP λh' nv=>?_;have X:=Ge nv;exact aj _ _ _ _ _ _ _ _ ok (I.ext X) (L.bx X.step) (aZ.bx X.step) e _ E λd4 cB cD hP=>h _ cB (X.step.trans cD) hP
noncomputable def m0 (v:V) (g:f5) (f:aU):Nat->Nat->aU
 | 0,_=>λ_ _=>none
 | n+1,k=>λag D=>(g3 D v k).bind λr=>match r with
  | none=>some (.nx,ag,D)
  | some x=>(g ag x).bind λcc=>(f cc D).bind λq=>match q.1 with
   | .nx=>m0 v g f n (k+1) q.2.1 q.2.2
   | .gX=>some (.nx,q.2.1,q.2.2)
   | .ret w=>some (.ret w,q.2.1,q.2.2)
noncomputable def e7 (i:bK) (g:f5) (f:aU) (N:Nat):aU:=λag D=>(i ag D).bind λp=>if jd p.2 p.1 then m0 p.1 g f N 0 ag p.2 else none
theorem Step.Av {it:Addr} {Y:List Addr} {s2 s1:Shared} (x:ce s s2) (fr:s.heap.get? it=none) (S:Step (it::Y) ae s2 bt s1) (k:∀b o,s1.heap.get? b=some o->b≠it->s'.heap.get? b=some o):Step Y ae s bt s':=by
 refine ⟨λb o e n m=>?_,λb e=>?_,S.len,S.old,λi q aJ e=>⟨x.none (S.new i q aJ e).1,x.none (S.new i q aJ e).2⟩⟩
 .have aA:b≠it:=λq=>by rw [q,fr] at e;exact bU e
  exact k b o (S.keep b o (x.keep b o e) n (by simp [aA,m])) aA
 .by_cases aA:b=it
  .rw [aA];exact fr
  .cases q:s1.heap.get? b with
   | none=>exact x.none (S.mono b q)
   | some o=>rw [k b o q aA] at e;cases e
theorem Tq {t:Expr} {x v:Value} {P:Sem Unit->Prop} (a:∀es k p,P (letOwnedTupleGo (.Tuple es k p) x v)) (b:P (pure ())):P (letOwnedTupleGo t x v):=by
 cases t <;> first | exact b | exact a _ _ _ | exact a [] 0 (by assumption)
theorem HN {A:Around} {it:Addr} {gi:Expr} {cv:Value} {Q:Unit->Shared->Prop} {E:Value->Shared->Prop} {o:Obj} {vs:Array Value} {n:String} (aG:s.heap.get? it=some o) (bn:o.data=.fields vs) (bj:o.cls=.type n)
  (a3:(["enumerate","zip","dict_itemiterator","dict_reverseitemiterator","odict_iterator","itertools.zip_longest","itertools.pairwise"].contains n)=false) (h:Q () s):wpAny (model br B.w) A (letOwnedTupleGo gi (.ref it) cv) Q E s:=by
 refine Tq (P:=λx=>wpAny (model br B.w) A x Q E s) (λes k p=>?_) (wpAny_pure h);unfold letOwnedTupleGo;dsimp only
 cases cv <;> first | exact wpAny_pure h | skip
 refine wpAny_bind (wpAny_load aG ?_);rw [bj,bn];dsimp only;rw [a3,Bool.false_and];exact wpAny_pure h
theorem HO {A:Around} {v:V} {k:Nat} {it:Addr} {gi:Expr} {cv:Value} {Q:Unit->Shared->Prop} {E:Value->Shared->Prop} (R:i6 ae s.heap v k it) (h:Q () s):wpAny (model br B.w) A (letOwnedTupleGo gi (.ref it) cv) Q E s:=by
 cases R with
 | lst _ _ _ a _ _ ao=>exact letGo_listiter ao h
 | de a b c _ _ aj=>exact HN aj rfl rfl (by decide) h
 | str l x t _ _ _ aj=>exact gk aj λo aG bj bn=>HN aG bn bj (by decide) h
theorem WR {v:V} {g:f5} {f:aU} {n k:Nat} {z:i3×List V×am} {C:Prop} (BW:g3 D v k=some none->(.nx,ag,D)=z->C)
  (cz:∀x cc (r:i3) pF bQ,g3 D v k=some (some x)->g ag x=some cc->f cc D=some (r,pF,bQ)->(match r with | .nx=>m0 v g f n (k+1) pF bQ=some z | .gX=>(.nx,pF,bQ)=z | .ret w=>(.ret w,pF,bQ)=z)->C)
  (e:m0 v g f (n+1) k ag D=some z):C:=by
 refine bZ (λDh hy aC=>?_) e
 cases Dh with
 | none=>exact BW hy (Option.some.inj aC)
 | some x=>
  refine bZ (λhL p7=>tS λqV pF bQ du fo=>cz x hL qV pF bQ hy p7 du ?_) aC
  cases qV with
  | nx=>exact fo
  | gX=>exact Option.some.inj fo
  | ret w=>exact Option.some.inj fo
theorem et.QA {gi hD body pos gI g hV} {N:Nat} (aj:Ev B c hD gI) (ao:lE B c gi g) (aL:hM B c body hV) (hs:∀x,foldedSetIterable hD c.env x=pure x:=by intro _;rfl):
  et B c (.For gi hD body [] pos) (e7 gI g hV N):=λA ae D ag s r bX al ok I L e Q E h=>by
 refine cg (λv fX av=>ds λaJ e=>?_) e;refine wpAny_For (aj _ _ _ _ _ _ _ ok I L av _ E λm6 s0 cv gU g9 cy=>BV gU cy aJ λs2 it fk fr nb=>?_) hs;have vR:=L.bx g9;have jw:it∉c.X:=λm=>a2 (vR.gy it m) λo aG _=>by rw [fr] at aG;exact bU aG
 have b0:=gU.b0 fr;refine codeAny_forLoop_any (λn s1=>∃d5 ai cc k,Inv B d5 ai s1/\Step (it::c.X) m6 s2 d5 s1/\Loc B c d5 cc s1.heap/\i6 d5 s1.heap v k it/\¬foot d5 it/\m0 v g hV n k cc ai=some (r,bX,al)) ?_ N
  ⟨m6,fX,ag,0,gU.ext fk,.refl _ _ _,vR.bx fk.step,nb,gU.lr fr,e⟩
 intro n s1;refine La λd5 ai cc k I1 dT hQ nc l1 av=>?_
 cases n with
 | zero=>exact bU av
 | succ n=>
  refine WR (λhy y=>?_) (λx hL qV pF bQ hy p7 du fo=>?_) av
  .refine xC ok.hand I1 nc l1 b0 hy (λaZ s' bm cr aG hk=>?_) (λx aZ=>bU aZ);refine gx y h λh=>?_;exact wpAny_execs_nil (h _ _ _ bm (g9.fW.trans (Step.Av fk fr dT hk)) (hQ.ta hk nc.obj jw) .nx)
  .refine xC ok.hand I1 nc l1 b0 hy (λaZ=>bU aZ.symm) (λlC aZ s' eJ bm bh hk bo tD=>?_);have aZ:=Option.some.inj aZ;subst aZ;have fE:=hQ.ta hk nc.obj jw;have c8:=dT.trans (bh.wide (kg (.head _)));refine HO tD (ao _ _ _ _ _ _ _ _ ok bm fE bo p7 _ _ λs3 d0 c9 kY=>aL _ _ _ _ _ _ _ _ ok d0 kY du _ _ λod s4 dL hO gD vS pR=>?_);have gV:=(c8.trans (c9.wide λa bw=>List.mem_cons_of_mem _ bw)).trans (gD.wide λa bw=>List.mem_cons_of_mem _ bw);have Ek:=tD.step c9 fE.gy l1 jw
   cases pR with
   | nx=>exact ⟨n,Nat.lt_succ_self n,od,bQ,pF,k+1,hO,gV,vS,Ek.step gD kY.gy l1 jw,fZ Ek.obj λo vs aG _ _=>gD.out aG l1,fo⟩
   | gX=>exact gx fo h λh=>h _ _ _ hO (g9.fW.trans (Step.Av fk fr gV λ_ _ e _=>e)) vS .nx
   | ret w cF jB=>exact gx fo h λh=>h _ _ _ hO (g9.fW.trans (Step.Av fk fr gV λ_ _ e _=>e)) vS (.ret _ _ jB)
noncomputable def jj (g:f5) (f:bK):aU:=λag D=>(f ag D).bind λp=>(g ag p.1).map λbX=>(.nx,bX,p.2)
theorem et.Ke {oA k h6 value pos g f} (aj:Ev B c value f) (ao:lE B c (.Tuple oA k h6) g) (hs:swapsWithSole [.Tuple oA k h6] value pos.line c.env=pure false:=by rfl) (hw:swappedStores [.Tuple oA k h6] value c.env=pure none:=by rfl):
  et B c (.Assign [.Tuple oA k h6] value pos) (jj g f):=λA ae D ag s r bX al ok I L e Q E h=>by
 revert e;refine cg λv ai av e=>?_;revert e;refine cb λcc aC e=>?_;refine gx e h λh=>?_;clear e;exact Assign_Tuple (aj _ _ _ _ _ _ _ ok I L av _ E λbt s' cv bm bh bo=>ao _ _ _ _ _ _ _ _ ok bm (L.bx bh) bo aC _ E λd4 cB cD hP=>h _ _ _ cB (bh.fW.trans cD) hP .nx) hs hw
noncomputable def pI (B:db) (c:eC) (ns:List Str) (ks:List Nat):Prop:=
 ∀A ae D ag s vs kj bX,eU c.d A->Inv B ae D s->Loc B c ae ag s.heap->cC ae s.heap vs kj->kQ ks vs ag=some bX->
  ∀(Q:Unit->Shared->Prop) (E:Value->Shared->Prop),tF B c ae D bX s Q->wpAny (model br B.w) A (assignInOrder (ns.map λn=>bindName c.env n) kj) Q E s
theorem pI.nil:pI B c [] []:=λA ae D ag s vs kj bX ok I L R e Q E h=>by
 cases vs with
 | nil=>
  have:=List.eq_nil_of_length_eq_zero R.len.symm;subst this;exact c1 (κ:=λag=>tF B c ae D ag s Q) e h λh=>wpAny_assignInOrder_none (h _ I (.refl _ _ _) L)
 | cons v vs=>exact bU e
theorem pI.cons {x ns} {k:Nat} {ks bO} (ax:c.names[k]? =some (x,bO)) (aW:lV c.own bO=true) (ao:pI B c ns ks):pI B c (x::ns) (k::ks):=λA ae D ag s vs kj bX ok I L R e Q E h=>by
 cases vs with
 | nil=>exact bU e
 | cons v vs=>
  refine fZ R.q8 λcv cl aV r1 cp=>?_;subst aV;exact wpAny_assignInOrder_more (bindName_ (vf ax (wX aW) I L r1 λs' bm bh fE _=>ao _ _ _ _ _ _ _ _ ok bm fE (cp.step bh L.gy) e _ E λd4 cB cD hP=>h _ cB (bh.trans cD) hP))
noncomputable def eB (ks:List Nat) (f:bK):aU:=λag D=>(f ag D).bind λp=>m4 (λl=>if l.length=ks.length then (kQ ks l.reverse ag).map λbX=>(.nx,bX,p.2) else none) p.1
theorem cC.reverse {h:Heap} {l:List V} {cl:List Value} (r:cC ae h l cl):cC ae h l.reverse cl.reverse:=by
 refine ⟨by simp [r.len],λk v cv e bH=>?_⟩;have hk:=(List.getElem?_eq_some_iff.mp e).1;rw [List.length_reverse] at hk;rw [List.getElem?_reverse hk] at e;rw [List.getElem?_reverse (r.len▸hk),<- r.len] at bH;exact r.at_ _ _ _ e bH
theorem et.swap {oA k h6 value pos ns ks f} (aj:Ev B c value f) (ao:pI B c ns.reverse ks) (a3:ns.length=ks.length) (hs:swapsWithSole [.Tuple oA k h6] value pos.line c.env=pure false:=by rfl) (hw:swappedStores [.Tuple oA k h6] value c.env=pure (some ns):=by rfl):
  et B c (.Assign [.Tuple oA k h6] value pos) (eB ks f):=λA ae D ag s r bX al ok I L e Q E h=>by
 revert e;refine cg λv ai av e=>?_;refine Assign_Tuple_swapped (names:=ns) (aj _ _ _ _ _ _ _ ok I L av _ E λbt s' cv bm bh bo=>?_) hs hw;have e:m4 _ v=_:=e;refine yy (λl items a e cT cd aA aZ=>?_) e bo;refine ds (λfa=>cb λcc aC e=>gx e h λh=>?_) e;have:ns.length=items.toArray.size:=a3.trans (fa.symm.trans aZ.len);rw [this];refine wpAny_unpackItems_tuple ok.hand cd λh' nv=>?_;have X:=Ge nv;exact ao _ _ _ _ _ _ _ _ ok (bm.ext X) (L.bx (bh.trans X.step)) (aZ.bx X.step).reverse aC _ E λd4 cB cD hP=>h _ _ _ cB ((bh.trans X.step).fW.trans cD) hP .nx
@[elab_as_elim] theorem kM {a0:Type} {r:a0} {f:V->Option a0} {l:List V} {cl:List Value} {h:Heap} {K:List Value->Prop} (k:∀v cv,f v=some r->aO ae h v cv->K [cv]) (e:iq f l=some r) (R:cC ae h l cl):K cl:=by
 revert R;refine CR (λv e R=>?_) e
 cases cl with
 | nil=>exact absurd R.len (Nat.succ_ne_zero _)
 | cons cv cl=>cases cl with
  | nil=>exact k v cv e (R.at_ 0 _ _ rfl rfl)
  | cons _ _=>exact absurd (Nat.succ.inj R.len).symm (Nat.succ_ne_zero _)
@[elab_as_elim] theorem ph {a0:Type} {r:a0} {f:V->V->Option a0} {l:List V} {cl:List Value} {h:Heap} {K:List Value->Prop} (k:∀v w cv cF,f v w=some r->aO ae h v cv->aO ae h w cF->K [cv,cF]) (e:n1 f l=some r) (R:cC ae h l cl):K cl:=by
 cases l with
 | nil=>exact bU e
 | cons v l=>exact fZ R.q8 λcv cl y a b=>y▸kM (K:=λcl=>K (cv::cl)) (λw cF e r=>k v w cv cF e a r) e b
@[elab_as_elim] theorem Iy {a0:Type} {r:a0} {f:V->V->V->Option a0} {l:List V} {cl:List Value} {h:Heap} {K:List Value->Prop} (k:∀bA v w iF cv cF,f bA v w=some r->aO ae h bA iF->aO ae h v cv->aO ae h w cF->K [iF,cv,cF]) (e:CS f l=some r) (R:cC ae h l cl):K cl:=by
 cases l with
 | nil=>exact bU e
 | cons v l=>exact fZ R.q8 λcv cl y a b=>y▸ph (K:=λcl=>K (cv::cl)) (λw x cF eJ e r cp=>k v w x cv cF eJ e a r cp) e b
noncomputable def bG:bf:=λargs D=>iq (λv=>(gA (λl=>some (.int l.length,D)) v).or ((m4 (λl=>some (.int l.length,D)) v).or ((fx D v).map λl=>(.int l.length,D)))) args
theorem cC.one {h:Heap} {v:V} {c:List Value} (r:cC ae h [v] c):∃cv,c=[cv]/\aO ae h v cv:=by
 refine fZ r.q8 λcv cl aV a b=>?_;subst aV;have:=List.eq_nil_of_length_eq_zero b.len.symm;subst this;exact ⟨cv,rfl,a⟩
theorem cw.len:cw B d (.builtin "len") bG:=λA ae D s args cI v al ok I R e Q E h=>by
 refine kM (λv cv e r=>?_) e R;refine dM (λe=>?_) (dM (λe=>?_) (cb λl av aC=>?_)) e
 .refine iw (λl x t e aj ao=>a4 e h λh=>?_) e r;refine PyProof.Rows.len_str (by rw [mc aj];unfold big at ao;lia) ?_;rw [mc aj];exact h ae _ _ (I.ext .toks) ce.toks.step (.int _ _)
 .refine yy (λl items a e cT cd aA aZ=>a4 e h λh=>?_) e r;refine PyProof.Rows.len_tuple cd (by simp only [List.size_toArray];rw [<- aZ.len];unfold big at aA;lia) ?_;have:((items.toArray.size:Nat):Int)=l.length:=congrArg _ aZ.len.symm;rw [this];exact h ae _ _ (I.ext .toks) ce.toks.step (.int _ _)
 .refine dP aC h λh=>?_;refine fj (lJ I r av) λa items aV aW aZ aA=>?_;subst aV;refine PyProof.Rows.len_list aW (by simp only [List.size_toArray];rw [<- aZ.len];unfold big at aA;lia) ?_;have:((items.toArray.size:Nat):Int)=l.length:=congrArg _ aZ.len.symm;rw [this];exact h ae _ _ (I.ext .toks) ce.toks.step (.int _ _)
noncomputable def hd:bf:=λargs D=>iq (gA (iq λhu=>some (.int (hu:Int),D))) args
theorem cw.ord:cw B d (.builtin "ord") hd:=λA ae D s args cI v al ok I R e Q E h=>by
 refine kM (λv cv e r=>?_) e R;refine iw (λl x t e aj ao=>?_) e r;revert aj ao;refine CR (λhu e aj ao=>a4 e h λh=>?_) e;refine ord_of_one (by rw [mc aj];rfl) ?_;have:x.cps.getD 0 0=hu:=by
  have:x.cps=#[hu]:=by rw [<- Array.toList_inj,aj]
  rw [this];rfl
 rw [this];exact h ae _ _ (I.ext .toks) ce.toks.step (.int _ _)
noncomputable def dX:bf:=λargs D=>(iq (fV λn=>some (V.de 0 n 1,D)) args).or ((n1 (hJ λa b=>some (V.de a b 1,D)) args).or (CS (λa b c=>fV (λc=>if decide (0 < c) && g5 c then hJ (λa b=>some (V.de a b c,D)) a b else none) c) args))
theorem cw.range:cw B d (.type "range") dX:=λA ae D s args cI v al ok I R e Q E h=>by
 have fin:∀{a b c:Int} {t bA w:Tok} {k:Nat},some (V.de a b c,D)=some (v,al)->Q (.ref s.heap.objs.size) {s with heap:=s.heap.push {cls:=.type "range",data:=.fields #[.int a t,.int b bA,.int c w]},toks:=k}:=by
  intro a b c t bA w k e;refine a4 e h λh=>?_;have X:ce s {s with heap:=s.heap.push {cls:=.type "range",data:=.fields #[.int a t,.int b bA,.int c w]},toks:=k}:=⟨λb o e=>Heap.get?_push_of_some _ e,rfl,rfl⟩;exact h ae _ _ (I.ext X) X.step (.de a b c _ t bA w (I.lr (f7 s)) (Heap.get?_push_size _ rfl))
 refine dM (λe=>?_) (dM (λe=>?_) (λe=>?_)) e
 .exact kM (λv cv e r=>iv (λi t e=>call_range_1 (fin e)) e r) e R
 .exact ph (λv w cv cF e r cp=>h7 (λi t j bA e=>call_range_2 (fin e)) e r cp) e R
 .refine Iy (λa b c b3 cJ nl e r cp r3=>iv (λi t e=>?_) e r3) e R;refine ds (λq e=>?_) e;exact h7 (λi t j bA e=>call_range_3 (Int.ne_of_gt (of_decide_eq_true (Bool.and_eq_true_iff.mp q).1)) (fin e) (.inl (Ih (Bool.and_eq_true_iff.mp q).2))) e r cp
noncomputable def rX:bf:=λargs D=>n1 (hJ λa b=>some (.int (if b > a then b else a),D)) args
noncomputable def oB:bf:=λargs D=>n1 (hJ λa b=>some (.int (if b < a then b else a),D)) args
theorem ite_int {h:Heap} {p:Prop} [Decidable p] {a b:Int} {t bA:Tok}:aO ae h (.int (if p then a else b)) (if p then .int a t else .int b bA):=by
 by_cases q:p
 .rw [if_pos q,if_pos q];exact .int _ _
 .rw [if_neg q,if_neg q];exact .int _ _
theorem cw.min2:cw B d (.builtin "min") oB:=λA ae D s args cI v al ok I R e Q E h=>
 ph (λv w cv cF e r cp=>h7 (λi t j bA e=>a4 e h λh=>min_two_ints ok.hand λh' tk hk=>by
  have X:ce s {s with heap:=h',toks:=tk}:=⟨hk,rfl,rfl⟩;exact h ae _ _ (I.ext X) X.step ite_int) e r cp) e R
theorem cw.max2:cw B d (.builtin "max") rX:=λA ae D s args cI v al ok I R e Q E h=>
 ph (λv w cv cF e r cp=>h7 (λi t j bA e=>a4 e h λh=>max_two_ints ok.hand λh' tk hk=>by
  have X:ce s {s with heap:=h',toks:=tk}:=⟨hk,rfl,rfl⟩;exact h ae _ _ (I.ext X) X.step ite_int) e r cp) e R
noncomputable def Hw (T:String) (v:V):Option Bool:=(fV (λ_=>some (T == "int")) v).or ((m2 (λ_=>some (T == "bool" || T == "int")) v).or ((gA (λ_=>some (T == "str")) v).or (mg (some false) v)))
noncomputable def Hv (D:am) (C:Nat) (v:V):Option Bool:=(fV (λ_=>some false) v).or ((m2 (λ_=>some false) v).or ((gA (λ_=>some false) v).or ((mg (some false) v).or ((DA (if C == tO then some true else none) v).or ((mG D v).map λp=>p.1 == C)))))
noncomputable def listAt (D:am) (v:V):Option (Nat×List V):=kN (λi l=>some (i,l)) D v
theorem uN {v:V} {cv:Value} {i l} (I:Inv B ae D s) (r:aO ae s.heap v cv) (e:listAt D v=some (i,l)):
  ∃q items n,v=.ref i/\D[i]? =some (.list l)/\ae[i]? =some (some q)/\cv=.ref q.1/\q.2=q.1/\s.heap.get? q.1=some (lobj items n)/\cC ae s.heap l items/\l.length<=big:=by
 revert r;refine s6 (λHj l' aJ e r=>?_) e;revert e;refine s2 λbd bl=>?_;subst bd;subst bl;refine Inv.qY I aJ (λz=>by cases z) (λq bL rep=>?_) r;refine gC.e3 ?_ rep;intro items n aj ao aL cm;exact ⟨q,items,n,rfl,aJ,bL,rfl,aj,ao,aL,cm⟩
theorem B4 {i:Nat} {q:Addr×Addr} {l':List V} {items items':List Value} {n:Nat} {f:Array Value->Array Value} (I:Inv B ae D s) (bL:ae[i]? =some (some q)) (ie:q.2=q.1) (aG:s.heap.get? q.1=some (lobj items n))
  (hf:f items.toArray=items'.toArray) (R:cC ae s.heap l' items') (aA:l'.length<=big):
  Inv B ae (D.set i (.list l')) {s with heap:=s.heap.update q.1 (Obj.mapSeq f)}/\Step [] ae s ae {s with heap:=s.heap.update q.1 (Obj.mapSeq f)}:=by
 have cr:=PySem.IsL.update (l:=q.1) aG f;rw [hf] at cr;have l5:∀b,b≠q.1->b≠q.2->∀o,s.heap.get? b=some o->(s.heap.update q.1 (Obj.mapSeq f)).get? b=some o:=λb e5 _ o e=>(Heap.get?_update_other s.heap _ (Ne.symm e5)).trans e;have mono:∀b,(s.heap.update q.1 (Obj.mapSeq f)).get? b=none->s.heap.get? b=none:=λb e=>by
  by_cases z:b=q.1
  .subst z;rw [cr] at e;cases e
  .rwa [Heap.get?_update_other s.heap _ (Ne.symm z)] at e
 have S:Step [] ae s ae {s with heap:=s.heap.update q.1 (Obj.mapSeq f)}:=yn bL l5 mono;exact ⟨I.upd bL l5 mono (.list l' items' _ ie cr (R.bx S) aA) rfl rfl,S⟩
noncomputable def c2 (D:am) (v:V):Bool:=(listAt D v).isSome
theorem ng.list {name:Str} {id:String} (slot:PySem.Slot "list" name id) (BE:typeOf (.builtin id)=pure (.type "method_descriptor")):ng B name c2 (.builtin id):=λae D s v cv I r ok A pl Q E h=>by
 refine cH (Option.isSome_iff_exists.mp ok) λbd e=>?_;obtain ⟨i,l⟩:=bd;refine rh (uN I r e) λq items n dh aJ bL oa ie aG aZ aA=>?_;subst dh;subst oa;exact getMethod_builtin ⟨_,aG,rfl⟩ PySem.F.plainAttrs_list slot BE (λa e=>by cases e;exact ⟨_,aG,rfl⟩) h
noncomputable def ik (_:am) (v:V):Bool:=(gA some v).isSome
theorem ng.str {name:Str} {id:String} (slot:PySem.Slot "str" name id) (BE:typeOf (.builtin id)=pure (.type "method_descriptor")):ng B name ik (.builtin id):=λae D s v cv I r ok A pl Q E h=>by
 refine cH (Option.isSome_iff_exists.mp ok) λ_ e=>?_;revert h;refine iw (λl x t e aj ao h=>?_) e r;exact getMethod_builtin (typeIs_str _ _ _) PySem.F.plainAttrs_str slot BE (λa e=>by cases e) h
noncomputable def c0:bf:=λargs D=>n1 (λw x=>(listAt D w).bind λp=>if p.2.length+1<=big then some (.none,D.set p.1 (.list (p.2++[x]))) else none) args
theorem cw.app:cw B d (.builtin "list.append") c0:=λA ae D s args cI v al ok I R e Q E h=>by
 refine ph (λw x cF eJ e r1 cp=>?_) e R;refine cg (λi l av=>ds λaA aC=>a4 aC h λh=>?_) e;refine rh (uN I r1 av) λq items n dh aJ bL oa ie aG aZ gs=>?_;subst oa;refine call_meets PySem.F.slot_list_append ⟨_,aG,rfl⟩ PySem.F.entry_list_append (PySem.F.args_list_append_2 _ _) (PySem.list_append q.1 items.toArray n eJ (by simp only [List.size_toArray];rw [<- aZ.len];exact kh gs)) ⟨aG,?_⟩;refine cq (B4 (f:=λa=>a.push eJ) (items':=items++[eJ]) I bL ie aG (by simp) (aZ.append (.cons cp .nil)) (by simpa using aA)) λbm bh=>?_;exact h _ _ _ bm bh .none
noncomputable def rV:bf:=λargs D=>CS (λw k x=>fV (λk=>(listAt D w).bind λp=>if (decide (0<=k) && decide (k<=p.2.length)) && decide (p.2.length+1<=big) then some (.none,D.set p.1 (.list (p.2.take k.toNat++x::p.2.drop k.toNat))) else none) k) args
theorem cC.take {h:Heap} {l:List V} {m:List Value} (r:cC ae h l m) (k:Nat):cC ae h (l.take k) (m.take k):=
 ⟨by simp [r.len],λj v cv e bH=>by
  rw [List.getElem?_take] at e bH;split at e
  .rename_i q;rw [if_pos q] at bH;exact r.at_ _ _ _ e bH
  .exact bU e⟩
theorem cC.drop {h:Heap} {l:List V} {m:List Value} (r:cC ae h l m) (k:Nat):cC ae h (l.drop k) (m.drop k):=
 ⟨by simp [r.len],λj v cv e bH=>by
  rw [List.getElem?_drop] at e bH;exact r.at_ _ _ _ e bH⟩
theorem cw.ins:cw B d (.builtin "list.insert") rV:=λA ae D s args cI v al ok I R e Q E h=>by
 refine Iy (λw k x cF rI eJ e r1 r3 cp=>?_) e R;refine iv (λk t e=>?_) e r3;refine cg (λi l av=>ds λaA aC=>a4 aC h λh=>?_) e;simp only [Bool.and_eq_true,decide_eq_true_eq] at aA;refine rh (uN I r1 av) λq items n dh aJ bL oa ie aG aZ gs=>?_;subst oa;have kv:k.toNat<=items.length:=aZ.len▸Int.toNat_le.mpr aA.1.2;have Q7:k < 2 ^ 63:=Int.lt_of_le_of_lt aA.1.2 (Int.lt_of_le_of_lt (Int.ofNat_le.mpr gs) (by decide));refine call_meets PySem.F.slot_list_insert ⟨_,aG,rfl⟩ PySem.F.entry_list_insert (PySem.F.args_list_insert_3 _ _ _) (PySem.AutoListH.list_insert_list_int_val_1 q.1 items.toArray n k t eJ (by simp [fitsIndex_both (k:=k) (Int.le_trans (by decide) aA.1.1) Q7]) (by simp only [List.size_toArray];rw [<- aZ.len];exact kh gs)) ⟨aG,?_⟩;have Bg:¬k < 0:=Int.not_lt.mpr aA.1.1;refine cq (B4 (f:=λxs=>have kk:=if k < 0 then (k+(xs.size:Int)).toNat else min k.toNat xs.size;(xs.extract 0 kk).push eJ++xs.extract kk) (items':=items.take k.toNat++eJ::items.drop k.toNat) I bL ie aG (by
  apply Array.toList_inj.mp;simp [Bg,Nat.min_eq_left kv];exact List.take_of_length_le (by simp)) ((aZ.take _).append (.cons cp (aZ.drop _))) (by
   rw [List.length_append,List.length_cons,Nat.add_succ,<- List.length_append,List.take_append_drop];exact aA.2)) λbm bh=>?_
 exact h _ _ _ bm bh .none
theorem YM {A:Around} {E:Value->Shared->Prop} {l:Addr} {items:Array Value} {n:Nat} {k:Int} {t:Tok} {v:Value} {Q:Unit->Shared->Prop} (aG:s.heap.get? l=some (lobj items.toList n)) (hk:k < 0) (a3:0<=k+items.size) (aA:items.size<=big)
  (qg:Q () {s with heap:=s.heap.update l (Obj.mapSeq (·.setIfInBounds (k+items.size).toNat v))}):wpAny (model br B.w) A (setItem (.ref l) (.int k t) v) Q E s:=by
 have qn:s.heap.get? l=some (listOf items n):=by simpa using aG
 have aW:s.heap.IsList l items:=PySem.IsL.isList (n:=n) qn;have GV:Builtin.List.listFitsIndex k=true:=fitsIndex_both (by unfold big at aA;lia) (by lia);unfold setItem
 try with_reducible refine wpAny_holding ?_
 first | refine wpAny_bind (wpAny_pure ?_) | skip
 refine wpAny_bind (wpAny_sequenceKey aW.typeIs (by decide) ?_);refine wpAny_bind (wpAny_callSpecial?_slot (name:=Str.ofString "__setitem__") aW.typeIs slot_list_setitem
  (wpAny_call_entry slot_list_setitem aW.typeIs entry_list_setitem ?_ (args_list_setitem _ _ _)))
 show wpAny _ _ (Builtin.List.listSubscript? (.int k t) >>=_) _ _ s;refine wpAny_bind (wpAny_listSubscript_int GV ?_);have Rm:seqIndex? k items.size=some (k+items.size).toNat:=by
  unfold seqIndex?;dsimp only;rw [if_pos hk,if_pos (by simp only [Bool.and_eq_true,decide_eq_true_eq];lia)]
 have cY:(k+items.size).toNat < items.size:=by lia
 have ax:items[(k+items.size).toNat]? =some (items[(k+items.size).toNat]'cY):=Array.getElem?_eq_getElem cY;clear GV
 cases k with
 | ofNat j=>exact absurd hk (by simp only [Int.ofNat_eq_natCast];lia)
 | negSucc j=>
  show wpAny _ _ ((Builtin.List.listItems (.ref l) >>=λxs=>pure ((seqIndex? (Int.negSucc j) xs.size).bind λi=>xs[i]?.map (i,·))) >>=_) _ _ s;refine wpAny_bind (wpAny_bind ?_);show wpAny _ _ (seqItems? (.ref l) >>=_) _ _ s;refine wpAny_bind (wpAny_seqItems qn rfl (wpAny_pure (wpAny_pure ?_)));rw [Rm];dsimp only [Option.bind];rw [ax];show wpAny _ _ (setSeqItemAt l (Int.negSucc j+items.size).toNat v >>=_) _ _ s;refine wpAny_bind (wpAny_setSeqItemAt qn rfl ?_)
  first
   | exact wpAny_bind (wpAny_pure (wpAny_pure ⟨.none,rfl,wpAny_pure qg⟩))
   | exact wpAny_pure ⟨.none,rfl,wpAny_pure qg⟩
noncomputable def pq (D:am) (v w x:V):Option am:=(listAt D v).bind λp=>fV (λk=>(seqIndex? k p.2.length).map λj=>D.set p.1 (.list (p.2.set j x))) w
theorem YL {v w x:V} {cv cF eJ:Value} {al:am} {A:Around} {Q:Unit->Shared->Prop} {E:Value->Shared->Prop} (I:Inv B ae D s) (gz:aO ae s.heap v cv) (jB:aO ae s.heap w cF) (mZ:aO ae s.heap x eJ) (e:pq D v w x=some al)
  (h:∀s',Inv B ae al s'->Step [] ae s ae s'->Q () s'):wpAny (model br B.w) A (setItem cv cF eJ) Q E s:=by
 revert e;refine cg λi l av aC=>?_;refine rh (uN I gz av) λq items n dh aJ bL oa ie aG aZ aA=>?_;subst dh;subst oa;refine iv (λk t aC=>?_) aC jB;revert aC;refine cb λj AC n'=>?_;subst n';dsimp only at AC;have ax:=yi AC aA;have fa:=aZ.len;have fin:∀(f:Array Value->Array Value),f items.toArray=(items.set j eJ).toArray->Q () {s with heap:=s.heap.update q.1 (Obj.mapSeq f)}:=λf hf=>by
  refine cq (B4 (f:=f) (items':=items.set j eJ) (l':=l.set j x) I bL ie aG hf (aZ.set mZ j) (by simpa using aA)) λbm bh=>?_;exact h _ bm bh
 rcases Dm AC with ⟨cz,dB,lj⟩ | ⟨cz,dB,lj⟩
 .refine YM (items:=items.toArray) (n:=n) (by simpa using aG) cz (by simp only [List.size_toArray];lia) (by simp only [List.size_toArray];lia) (fin _ ?_);simp only [List.size_toArray];rw [<- fa,<- lj];simp
 .refine ki_setAt (items:=items.toArray) (n:=n) aG cz ax.2.2 (by simp only [List.size_toArray];lia) (fin _ ?_);rw [<- lj];simp
noncomputable def jC (d' gI fv:bK):aU:=λag D=>(fv ag D).bind λp=>(d' ag p.2).bind λq=>(gI ag q.2).bind λr=>(pq r.2 q.1 r.1 p.1).map λal=>(.nx,ag,al)
theorem et.pq {o i value:Expr} {h6 pos:Pos} {d' gI fv} (aj:Ev B c value fv) (ao:Ev B c o d') (aL:Ev B c i gI) (hs:∀env,swapsWith value (some (.Subscript o i h6)) pos.line env=pure false:=by intro _;rfl):
  et B c (.Assign [.Subscript o i h6] value pos) (jC d' gI fv):=λA ae D ag s r bX al ok I L e Q E h=>by
 revert e;refine cg λa ai av e=>?_;revert e;refine cg λb aY aC e=>?_;revert e;refine cg λk a6 bN e=>?_;revert e;refine cb λbQ du e=>?_;refine gx e h λh=>?_;clear e;exact wpAny_Assign_Subscript (aj _ _ _ _ _ _ _ ok I L av _ E λd5 s1 b3 I1 dT d8=>ao _ _ _ _ _ _ _ ok I1 (L.bx dT) aC _ E λtp s2 cJ gB c8 bV=>
  aL _ _ _ _ _ _ _ ok gB (L.bx (dT.trans c8)) bN _ E λlD s3 rI d0 c9 el=>YL d0 (bV.bx c9) el ((d8.bx c8).bx c9) du λs4 hO gD=>
   h _ _ _ hO (((dT.trans c8).trans c9).trans gD).fW (L.bx (((dT.trans c8).trans c9).trans gD)) .nx) (hs _)
theorem Sw {A:Around} {v:V} {cv:Value} {T:String} {b:Bool} {Q:Value->Shared->Prop} {E:Value->Shared->Prop} (I:Inv B ae D s) (r:aO ae s.heap v cv) (ig:T="int"\/T="str"\/T="bool") (e:Hw T v=some b) (h:∀s',ce s s'->Q (.bool b) s'):
  wpAny (model br B.w) A (PySem.call (.builtin "isinstance") [cv,.type T]) Q E s:=by
 refine dM (λe=>?_) (dM (λe=>?_) (dM (λe=>?_) (λe=>?_))) e
 .refine iv (λi t e=>?_) e r;replace h:=λs' X=>c1 (κ:=λb=>Q (.bool b) s') e (h s' X) λh=>h;rcases ig with rfl | rfl | rfl
  .exact call_isinstance_yes (Tx:="int") rfl PySem.F.isi_meta_int (by rw [isSubtype_type];rfl') (h _ (.refl _))
  .exact call_isinstance (isinstance_false_int (by decide) PySem.F.isi_meta_str (by rw [isSubtype_type];rfl')) (h _ .toks)
  .exact call_isinstance (isinstance_false_int (by decide) PySem.F.isi_meta_bool (by rw [isSubtype_type];rfl')) (h _ .toks)
 .refine pz (λi e=>?_) e r;replace h:=λs' X=>c1 (κ:=λb=>Q (.bool b) s') e (h s' X) λh=>h;rcases ig with rfl | rfl | rfl
  .exact call_isinstance_yes (Tx:="bool") rfl PySem.F.isi_meta_int (by rw [isSubtype_type];rfl') (h _ (.refl _))
  .exact call_isinstance (isinstance_false_bool (by decide) PySem.F.isi_meta_str (by rw [isSubtype_type];rfl')) (h _ .toks)
  .exact call_isinstance_yes (Tx:="bool") rfl PySem.F.isi_meta_bool (by rw [isSubtype_type];rfl') (h _ (.refl _))
 .refine iw (λl x t e _ _=>?_) e r;replace h:=λs' X=>c1 (κ:=λb=>Q (.bool b) s') e (h s' X) λh=>h;rcases ig with rfl | rfl | rfl
  .exact call_isinstance (isinstance_false_str (by decide) PySem.F.isi_meta_int (by rw [isSubtype_type];rfl')) (h _ .toks)
  .exact call_isinstance_yes (Tx:="str") rfl PySem.F.isi_meta_str (by rw [isSubtype_type];rfl') (h _ (.refl _))
  .exact call_isinstance (isinstance_false_str (by decide) PySem.F.isi_meta_bool (by rw [isSubtype_type];rfl')) (h _ .toks)
 .refine vq (λe=>?_) e r;replace h:=λs' X=>c1 (κ:=λb=>Q (.bool b) s') e (h s' X) λh=>h;rcases ig with rfl | rfl | rfl
  .exact call_isinstance (isinstance_false_none (by decide) PySem.F.isi_meta_int (by rw [isSubtype_type];rfl')) (h _ .toks)
  .exact call_isinstance (isinstance_false_none (by decide) PySem.F.isi_meta_str (by rw [isSubtype_type];rfl')) (h _ .toks)
  .exact call_isinstance (isinstance_false_none (by decide) PySem.F.isi_meta_bool (by rw [isSubtype_type];rfl')) (h _ .toks)
noncomputable def Aj (K:Frag) (C:Addr):Bool:=isNotIn K "int" C && isNotIn K "str" C && isNotIn K "bool" C && isNotIn K "NoneType" C && plainGet K C "__class__" && hasDictIn K C &&
 findIn K (.ref C) "__class__" == some (some (.builtin "object.__class__")) && mroIn K C (.type "object") == some true
theorem an {a b:Bool} (h:(a && b)=true):a=true/\b=true:=Bool.and_eq_true_iff.mp h
theorem FA {K:Frag} {C:Addr} (h:Aj K C=true):isNotIn K "int" C=true/\isNotIn K "str" C=true/\isNotIn K "bool" C=true/\isNotIn K "NoneType" C=true/\plainGet K C "__class__"=true/\hasDictIn K C=true/\
  findIn K (.ref C) "__class__"=some (some (.builtin "object.__class__"))/\mroIn K C (.type "object")=some true:=
 have a:=an h;have b:=an a.1;have c:=an b.1;have d:=an c.1;have e:=an d.1;have f:=an e.1;have g:=an f.1
 ⟨g.1,g.2,f.2,e.2,d.2,c.2,beq_iff_eq.mp b.2,beq_iff_eq.mp a.2⟩
noncomputable def CC (K:Frag) (dj C:Addr):Bool:=dj == C || kin_not K dj C
noncomputable def pY:List Nat:=[181,203,316,224]
noncomputable def Lw (K:Frag):Bool:=pY.all λC=>Aj K C && [181,316].all λdj=>CC K dj C
theorem QJ (K:Frag):specialIn K (.builtin "object.__class__") "__get__"=some (some (.builtin "getset_descriptor.__get__")):=by rfl'
theorem Zn (K:Frag):takesIn K (.builtin "object.__class__")=some true:=by rfl'
theorem LB (P:Params):Lw (KT P)=true:=by rfl'
theorem Fz {P:Params} {C:Addr} (h:C∈pY):Aj (KT P) C=true/\∀dj,dj=181\/dj=316->CC (KT P) dj C=true:=by
 have:=an (List.all_eq_true.mp (LB P) C h);have z:=an this.2;exact ⟨this.1,λdj r5=>r5.elim (λq=>q▸z.1) λq=>q▸(an z.2).1⟩
theorem Sv {A:Around} {v:V} {cv:Value} {C:Addr} {b:Bool} {Q:Value->Shared->Prop} {E:Value->Shared->Prop} (I:Inv B ae D s) (r:aO ae s.heap v cv) (dC:C∈pY) (e:Hv D C v=some b) (aI:∀dj fs,mG D v=some (dj,fs)->dj=C\/dj=181\/dj=316) (h:∀s',ce s s'->Q (.bool b) s'):
  wpAny (model br B.w) A (PySem.call (.builtin "isinstance") [cv,.ref C]) Q E s:=by
 refine cq (Fz (P:=B.w.params) dC) λk fC=>?_;refine vC (FA k) λcz dB lj z=>?_;have SP:=z.1;clear k;have no:∀{bA:Value},some false=some b->(wpAny (model br B.w) A (PySem.call (.builtin "isinstance") [bA,.ref C]) (λv s'=>v=.bool false/\ce s s') E s)->wpAny (model br B.w) A (PySem.call (.builtin "isinstance") [bA,.ref C]) Q E s:=
  λe w=>c1 (κ:=λb=>∀s',ce s s'->Q (.bool b) s') e h λh=>wpAny_mono w (λv s' z=>z.1▸h s' z.2) λ_ _ z=>z
 refine dM (λe=>?_) (dM (λe=>?_) (dM (λe=>?_) (dM (λe=>?_) (dM (λe=>?_) λe=>?_)))) e
 .refine iv (λi t e=>no e ?_) e r;exact isn_call (P:=λ_=>True) I.K (λ_=>Looks.of_pure rfl) cz (λq=>by cases q) trivial int_cls ⟨rfl,.toks⟩
 .refine pz (λi e=>no e ?_) e r;exact isn_call (P:=λ_=>True) I.K (λ_=>Looks.of_pure rfl) lj (λq=>by cases q) trivial bool_cls ⟨rfl,.toks⟩
 .refine iw (λl x t e _ _=>no e ?_) e r;exact isn_call (P:=λ_=>True) I.K (λ_=>Looks.of_pure rfl) dB (λq=>by cases q) trivial str_cls ⟨rfl,.toks⟩
 .refine vq (λe=>no e ?_) e r;exact isn_call (P:=λ_=>True) I.K (λ_=>Looks.of_pure rfl) SP (λq=>by cases q) trivial none_cls ⟨rfl,.toks⟩
 .refine ZS (λa o e cT aG bj bn=>?_) e r;refine ds (λq e=>?_) e;have q:=beq_iff_eq.mp q;subst q;refine isi_call (t:=.ref tO) I.K (λM=>?_) ?_ (λq=>by cases q) (c1 (κ:=λb=>∀s',ce s s'->Q (.bool b) s') e h λh=>h _ (.refl _))
  .rw [<- bj];exact (Looks.ld (part:=none) aG).andThen .now
  .unfold isIn;simp
 .revert e;refine nX λdj fs av aC=>?_;refine yN (BN I r av) λHj q es n _ aJ bL rc h0 aj ao aL=>?_;subst rc;have Em:=uy aj ao
  by_cases wD:dj=C
  .subst wD;have:b=true:=by rw [<- aC];simp
   subst this;exact isi_call (t:=.ref dj) I.K (λM=>Em.type) (by unfold isIn;simp) (λq=>by cases q) (h _ (.refl _))
  .have:b=false:=by rw [<- aC];simpa using wD
   subst this;have r5:dj=181\/dj=316:=by
    rcases aI dj fs av with q | q
    .exact absurd q wD
    .exact q
   have a3:=fC dj r5;unfold CC at a3;rw [Bool.or_eq_true] at a3;have a3:kin_not (KT B.w.params) dj C=true:=by
    rcases a3 with q | q
    .exact absurd (beq_iff_eq.mp q) wD
    .exact q
   have QQ:dj∈pY:=by rcases r5 with rfl | rfl <;> simp [pY]
   refine cq (Fz (P:=B.w.params) QQ) λSR _=>?_;refine yM (FA SR) λ_ _ _ _ tV wm wn Ow=>?_;exact kin_callC I.K Em a3 tV wm wn (QJ _) (Zn _) Ow (h _ .toks)
noncomputable def CO (D:am) (C:Nat) (v:V):Bool:=(mG D v).all λp=>p.1 == C || p.1 == 181 || p.1 == 316
noncomputable def qt (D:am) (C:Nat) (v:V):Option Bool:=if CO D C v then Hv D C v else none
noncomputable def Ko {a0:Type} (f:String->Option a0):Value->Option a0 | .type T=>f T | _=>none
noncomputable def Km {a0:Type} (f:Addr->Option a0):Value->Option a0 | .ref T=>f T | _=>none
theorem Z4 {a0:Type} {f:String->Option a0} {r:a0} {v:Value} {K:Value->Prop} (k:∀T,f T=some r->K (.type T)) (e:Ko f v=some r):K v:=by
 cases v <;> first | exact bU e | exact k _ e
theorem Z2 {a0:Type} {f:Addr->Option a0} {r:a0} {v:Value} {K:Value->Prop} (k:∀T,f T=some r->K (.ref T)) (e:Km f v=some r):K v:=by
 cases v <;> first | exact bU e | exact k _ e
noncomputable def ey:bf:=λargs D=>n1 (λv c=>tg (λc=>(Ko (λT=>if T == "int" || T == "str" || T == "bool" then (Hw T v).map λb=>(.bool b,D) else none) c).or (Km (λC=>if pY.contains C then (qt D C v).map λb=>(.bool b,D) else none) c)) c) args
theorem cw.mI:cw B d (.builtin "isinstance") ey:=λA ae D s args cI v al ok I R e Q E h=>by
 refine ph (λw c cF nl e r1 cp=>Ki (λx e=>?_) e cp) e R;refine dM (λe=>?_) (λe=>?_) e
 .refine Z4 (K:=λx=>wpAny (model br B.w) A (PySem.call _ [cF,x]) Q E s) (λT=>ds λig=>cb λb av aC=>dP aC h λh=>?_) e;exact Sw I r1 (by simpa [or_assoc] using ig) av λs' X=>h _ _ _ (I.ext X) X.step (.bool _)
 .refine Z2 (K:=λx=>wpAny (model br B.w) A (PySem.call _ [cF,x]) Q E s) (λC=>ds λdC=>cb λb av aC=>dP aC h λh=>?_) e;refine ds (λA5 av=>?_) av;refine Sv I r1 (List.contains_iff_mem.mp dC) av (λdj fs r5=>?_) λs' X=>h _ _ _ (I.ext X) X.step (.bool _);unfold CO at A5;rw [r5] at A5;simpa [or_assoc] using A5
noncomputable def isNone (v:V):Option Bool:=@V.casesOn.{1} (λ_=>Option Bool) v (some true) (λ_=>some false) (λ_=>some false) (λ_=>some false) (λ_=>some false) (λ_=>some false) (λ_ _ _=>some false) (λ_=>some false) (some false) (λ_=>none) none
noncomputable def Sr (v:V):Option Bool:=(m2 some v).or ((mg (some false) v).or ((fV (λ_=>some false) v).or (gA (λ_=>some false) v)))
noncomputable def LS (o:az):Bool:=@az.casesOn.{1} (λ_=>Bool) o (λ_=>true) (λ_=>true) (λ_ _=>true) false
noncomputable def mL (D:am) (i:Nat):Bool:=(D[i]?).any LS
noncomputable def pg (D:am) (a b:V):Option Bool:=(mg (isNone a) b).or ((m2 (λk=>if k then Sr a else none) b).or (th (λj=>th (λi=>if mL D i && mL D j then some (i == j) else none) a) b))
noncomputable def iU (D:am) (a b:V):Option V:=(pg D a b).map .bool
noncomputable def mT (D:am) (a b:V):Option V:=(pg D a b).map λk=>.bool (!k)
theorem HT (I:Inv B ae D s) {i:Nat} {cv:Value} (h:mL D i=true) (r:aO ae s.heap (.ref i) cv):∃q o,ae[i]? =some (some q)/\cv=.ref q.1/\s.heap.get? q.1=some o/\o.cls≠.type "tuple":=by
 unfold mL at h
 cases e:D[i]? with
 | none=>rw [e] at h;cases h
 | some LR=>
  rw [e] at h;refine Inv.qY I e (λz=>by rw [z] at h;cases h) (λq bL rep=>?_) r;refine ⟨q,?_⟩;refine gC.e3 ?_ rep
  cases LR with
  | list l=>intro items n aj ao aL cm;exact ⟨_,bL,rfl,ao,by simp⟩
  | dict l=>intro bT aj ao aL;exact oe ao λo es d9 aG bj _=>⟨o,bL,rfl,aG,by rw [bj.1];simp⟩
  | inst C fs=>intro es n h0 aj ao aL;exact ⟨_,bL,rfl,aj,λz=>by cases z⟩
  | bB=>trivial
theorem Sp {h:Heap} {a:V} {b3:Value} {k:Bool} (r:aO ae h a b3) (e:isNone a=some k):(b3 == Value.none)=k:=by
 refine aO.e3 (K:=λb3=>(b3 == Value.none)=k) ?_ r
 cases a <;> first | exact bU e | (cases e;first | trivial | exact λ_=>rfl | exact λ_ _ _=>rfl | exact λ_ _ _ _=>rfl | exact λ_ _ _ _ _ _=>rfl | exact λ_ _ _ _ _ _ _=>rfl)
theorem Ir {A:Around} {a b:V} {b3 cJ:Value} {k:Bool} {Q:Value->Shared->Prop} {E:Value->Shared->Prop} (I:Inv B ae D s) (b2:aO ae s.heap a b3) (b':aO ae s.heap b cJ) (e:pg D a b=some k):
  (Q (.bool k) s->wpAny (model br B.w) A (compareOp .Is b3 cJ) Q E s)/\(Q (.bool (!k)) s->wpAny (model br B.w) A (compareOp .IsNot b3 cJ) Q E s):=by
 have pl:∀{bA w:Value} {b:Bool},PySem.plainIs bA w=true->some b=some k->(bA == w)=b->(Q (.bool k) s->wpAny (model br B.w) A (compareOp .Is bA w) Q E s)/\(Q (.bool (!k)) s->wpAny (model br B.w) A (compareOp .IsNot bA w) Q E s):=λ{bA w b} dD=>s1 λy z=>by
  subst y;subst z;exact ⟨λh=>wpAny_is_plain dD h,λh=>wpAny_isNot_plain dD h⟩
 refine dM (λe=>?_) (dM (λe=>?_) (λe=>?_)) e
 .refine vq (λe=>?_) e b';have hk:=Sp b2 e;exact ⟨λh=>is_none_gen (by rw [hk];exact h),λh=>isnot_none_gen (by rw [hk];exact h)⟩
 .refine pz (λt=>ds λcd e=>?_) e b';subst cd;refine dM (λe=>?_) (dM (λe=>?_) (dM (λe=>?_) (λe=>?_))) e
  .exact pz (λx e=>pl rfl e (by cases x <;> rfl)) e b2
  .exact vq (λe=>pl rfl e rfl) e b2
  .exact iv (λx t e=>pl rfl e rfl) e b2
  .exact iw (λl x t e _ _=>pl rfl e rfl) e b2
 .revert b';refine vr (λj e b'=>?_) e;revert b2;refine vr (λi e b2=>?_) e;refine ds (λaW=>s1 λbd=>?_) e;subst bd;refine fj (HT I (an aW).1 b2) λq o bL dh aG bj=>?_;subst dh;refine fj (HT I (an aW).2 b') λdt a4 Bx dh he jT=>?_;subst dh
  by_cases gK:i=j
  .subst gK;rw [bL] at Bx;cases Bx;rw [beq_self_eq_true];exact ⟨λh=>wpAny_is_ref_self h,λh=>wpAny_isNot_ref_self h⟩
  .have dH:=I.apart i j q dt bL Bx gK;rw [beq_eq_false_iff_ne.mpr gK];exact ⟨λh=>wpAny_is_ref_other dH.1 aG he bj h,λh=>wpAny_isNot_ref_other dH.1 aG he bj h⟩
theorem UN:ew B d (compareOp .Is) iU:=λA ae D s a b b3 cJ v ok I b2 b' e Q E h=>by
 revert e;refine cb λk av n'=>?_;subst n';exact (Ir I b2 b' av).1 (h _ _ (.refl _) (.bool _))
theorem UM:ew B d (compareOp .IsNot) mT:=λA ae D s a b b3 cJ v ok I b2 b' e Q E h=>by
 revert e;refine cb λk av n'=>?_;subst n';exact (Ir I b2 b' av).2 (h _ _ (.refl _) (.bool _))
noncomputable def pe (D:am) (a b:V):Option V:=(fx D a).bind λl=>(fx D b).bind λm=>if l.length+m.length<=big then some (.ap (l++m)) else none
theorem UE:ew B d (binaryOp .Add) pe:=λA ae D s a b b3 cJ v ok I b2 b' e Q E h=>by
 refine bZ (λl av=>bZ λm aC=>ds λaA e=>c1 e h λh=>?_) e;refine fj (lJ I b2 av) λx uF aV aW aZ GO=>?_;subst aV;refine fj (lJ I b' aC) λy uG aV jb mE uk=>?_;subst aV;refine gk (id aW) λbd aG bj ci=>?_;obtain ⟨cls,gY,data,h5⟩:=bd;revert ci;refine d7 λn bn=>?_;refine gk (id jb) λbd he jT ci=>?_;obtain ⟨aaC,oy,data2,pr⟩:=bd;revert ci;refine d7 λeY r8=>?_;simp only at bj bn jT r8;subst bj bn jT r8;have P5:uF.toArray++uG.toArray=(uF++uG).toArray:=by simp
 refine concat_meets ⟨_,aG,rfl⟩ ⟨_,he,rfl⟩ noFill_list_add seq_list_add PySem.F.slot_list_add PySem.F.entry_list_add (PySem.F.args_list_add_2 _ _) (PyProof.Rows.list_addW x y uF.toArray uG.toArray n eY gY oy h5 pr (by simp only [List.size_toArray];rw [<- aZ.len,<- mE.len];exact kh aA)) ⟨aG,he,?_⟩;rw [P5];have X:ce s {s with heap:=s.heap.push {cls:=.type "list",data:=.seq (uF++uG).toArray}}:=.push _ _;have R:=(aZ.bx X.step).append (mE.bx X.step);exact h _ _ X (.ap _ (uF++uG) _ (I.lr (f7 s)) ⟨_,Heap.get?_push_size _ rfl,rfl,0,rfl⟩ (by simpa using aA) R.len R.at_)
noncomputable def Jr (l:List V) (w:V):Option (List V):=iq (λx=>fV (λk=>if decide (0<=k) && decide (k<=big) then some (List.replicate k.toNat x) else none) w) l
noncomputable def oz (f g:bK):bK:=λag D=>(f ag D).bind λp=>(g ag p.2).bind λq=>(listAt q.2 p.1).bind λr=>(Jr r.2 q.1).map λm=>(.ref q.2.length,q.2++[.list m])
theorem foldl_rep (v:Value):∀(n:Nat) (bi:Array Value),List.foldl (λx1 m5=>x1++m5) bi (List.replicate n #[v])=bi++(List.replicate n v).toArray
 | 0,bi=>by simp
 | n+1,bi=>by
  rw [List.replicate_succ,List.foldl_cons,foldl_rep v n];apply Array.toList_inj.mp;simp [List.replicate_succ]
theorem Ev.rep {l r f g pos} (aj:Ev B c l f) (ao:Ev B c r g):Ev B c (.BinOp l .Mult r pos) (oz f g):=λA ae D ag s v al ok I L e Q E h=>by
 refine cg (λa ai av=>cg λb aY aC=>cg λi Tw bN=>cb λmm du=>dt λbd bl=>?_) e;subst bd;subst bl;refine wpAny_BinOp (aj _ _ _ _ _ _ _ ok I L av _ E λd5 s1 b3 I1 dT d8=>ao _ _ _ _ _ _ _ ok I1 (L.bx dT) aC _ E λtp s2 cJ gB c8 bV=>?_);have du:iq _ Tw=_:=du;revert bN h;refine CR (λx du bN h=>?_) du;have du:fV _ b=_:=du;refine iv (λk bA du=>BK (λBg Bi=>My.s1 λy=>?_) du) du bV;subst y;have hk:0<=k/\k<=big:=⟨Bg,Bi⟩;refine rh (uN gB (d8.bx c8) bN) λq items n dh aJ bL oa ie aG aZ aA=>?_;subst dh;subst oa;refine a2 aZ.one λeJ bl mZ=>?_;subst bl;have ij:k.toNat<=big:=Int.toNat_le.mpr hk.2;have hz:([eJ].toArray:Array Value).size * k.toNat<=1000:=by simp;unfold big at ij;lia
 refine wpAny_binaryOp_repeat_ref (T:="list") (U:="int") (by decide) ⟨_,aG,rfl⟩ (λs'=>typeIs_int s' k bA) noFill_list_mul PySem.F.fills_int_mul PySem.F.slot_int_rmul repeat_list PySem.F.slot_int_index.lookup
  (call_meets PySem.F.slot_int_rmul (typeIs_int s2 k bA) PySem.F.entry_int_rmul (PySem.F.args_int_rmul_2 _ _) (int___rmul___int_list k bA q.1 [eJ].toArray n)
   ⟨aG,rfl,⟨_,aG,rfl⟩,call_meets PySem.F.slot_list_mul ⟨_,aG,rfl⟩ PySem.F.entry_list_mul (PySem.F.args_list_mul_2 _ _)
    (PySem.AutoListH.list___mul___list_int_3 q.1 [eJ].toArray n k bA (by simp [fitsIndex_both (k:=k) (by lia) (by unfold big at hk;lia)]) (by lia) (by unfold big at ij;simp only [Builtin.List.listTooLong,sizeLine,List.size_toArray,List.length_cons,List.length_nil,decide_eq_true_eq];lia))
    ⟨aG,?_⟩⟩)
 have bn:(List.foldl (λx1 m5=>x1++m5) #[] (List.replicate (if ([eJ].toArray:Array Value).isEmpty=true then 0 else k.toNat) [eJ].toArray):Array Value)=(List.replicate k.toNat eJ).toArray:=by
  have:=foldl_rep eJ k.toNat #[];simpa using this
 rw [bn];have X:ce s2 {s2 with heap:=s2.heap.push {cls:=.type "list",data:=.seq (List.replicate k.toNat eJ).toArray}}:=.push _ _;have RR:cC tp s2.heap (List.replicate k.toNat x) (List.replicate k.toNat eJ):=⟨by simp,λj v cv a b=>by
  rw [List.getElem?_replicate] at a b;split at a
  .rename_i z;rw [if_pos z] at b;cases a;cases b;exact mZ
  .exact bU a⟩
 refine iz (CA gB RR (by simpa using ij) X (f7 s2) (Heap.get?_push_size _ rfl)) λd0 c9 el=>?_;exact h _ _ _ d0 ((dT.trans c8).trans c9) el
noncomputable def n6 (a b c:Int):List V:=(List.range (Builtin.Range.rangeSize a b c).toNat).map λi=>.int (a+(i:Nat) * c)
noncomputable def lQ:bf:=λargs D=>iq (λv=>(vo (λa b c=>if Builtin.Range.small a b c && decide (Builtin.Range.rangeSize a b c<=big) && decide (0<=Builtin.Range.rangeSize a b c) then some (.ref D.length,D++[.list (n6 a b c)]) else none) v).or ((fx D v).map λl=>(.ref D.length,D++[.list l]))) args
theorem Cz {l:List V} {cl:List Value} {n:Nat} (I:Inv B ae D s) (x:ce s s') (R:cC (ae++[some (s.heap.objs.size,s.heap.objs.size)]) s'.heap l cl) (aA:l.length<=big) (cr:s'.heap.get? s.heap.objs.size=some (lobj cl n)):
  Inv B (ae++[some (s.heap.objs.size,s.heap.objs.size)]) (D++[.list l]) s'/\Step [] ae s (ae++[some (s.heap.objs.size,s.heap.objs.size)]) s'/\aO (ae++[some (s.heap.objs.size,s.heap.objs.size)]) s'.heap (.ref D.length) (.ref s.heap.objs.size):=by
 have a3:=f7 s;have S:Step [] ae s (ae++[some (s.heap.objs.size,s.heap.objs.size)]) s':=q6 x a3 a3;refine ⟨I.add x a3 a3 (.list l cl n rfl cr R aA),S,?_⟩;rw [<- I.len];exact aO.fresh (q:=(s.heap.objs.size,s.heap.objs.size))
theorem cw.list:cw B d (.type "list") lQ:=λA ae D s args cI v al ok I R e Q E h=>by
 refine kM (λv cv e r=>?_) e R;refine dM (λe=>?_) (cb λl av aC=>?_) e
 .refine ZR (λa b c r t bA w e cT aZ=>ds (λhk e=>a4 e h λh=>?_) e) e r;have aj:=an hk;have ao:=of_decide_eq_true (an aj.1).2;refine cH (Int.eq_ofNat_of_zero_le (of_decide_eq_true aj.2)) λm aP=>?_;have jX:(Builtin.Range.rangeSize a b c).toNat=m:=by rw [aP];rfl
  have G7:m<=big:=by rw [aP] at ao;exact Int.ofNat_le.mp ao
  refine call_list_range (n:=m) ok.hand aZ (an aj.1).1 aP (kh G7) λh' tk lI fN qk oI AX=>?_;have X:ce s {s with heap:=h',toks:=tk}:=⟨qk,rfl,rfl⟩;revert AX;refine gT λfa qi=>?_;have G5:(n6 a b c).length=m:=by simp only [n6,List.length_map,List.length_range,jX]
  have RR:cC (ae++[some (s.heap.objs.size,s.heap.objs.size)]) h' (n6 a b c) lI.toList:=by
   refine ⟨G5.trans (by simpa using fa.symm),λj v cv av aC=>?_⟩;rw [Array.getElem?_toList] at aC;refine cH (qi j _ aC) λt cd=>?_;subst cd;have aX:=(List.getElem?_eq_some_iff.mp av).1;unfold n6 at av aX;rw [List.length_map,List.length_range] at aX;rw [List.getElem?_map,List.getElem?_range aX] at av;revert av;refine s1 λbd=>?_;subst bd;exact .int _ _
  refine iz (Cz (s':={s with heap:=h',toks:=tk}) (n:=fN) I X RR (G5▸G7) (by simpa using oI)) λd0 c9 el=>?_;exact h _ _ _ d0 c9 el
 .refine dP aC h λh=>?_;refine fj (lJ I r av) λa items aV aW aZ aA=>?_;subst aV;revert aW;refine hN λo aG bj ci=>?_;revert ci;refine d7 λn bn=>?_;refine call_list_seq a (.inl rfl) aG bj bn (λh' fN qk oI=>?_) (by simp only [List.size_toArray];rw [<- aZ.len];exact kh aA);have X:ce s {s with heap:=h'}:=⟨qk,rfl,rfl⟩;have S:Step [] ae s (ae++[some (s.heap.objs.size,s.heap.objs.size)]) {s with heap:=h'}:=q6 X (f7 s) (f7 s);refine iz (Cz (s':={s with heap:=h'}) (n:=fN) I X (aZ.bx S) aA oI) λd0 c9 el=>?_;exact h _ _ _ d0 c9 el
theorem tb {x:Str} {l:List Nat} (h:x.cps.toList=l):x=⟨l.toArray⟩:=by subst h;cases x;rfl
noncomputable def nG (i:Int):List Nat:=(Str.ofString (toString i)).cps.toList
noncomputable def jR:bf:=λargs D=>iq (λv=>(gA (λl=>some (.str l,D)) v).or (fV (λi=>if g5 i && decide ((nG i).length<=big) then some (.str (nG i),D) else none) v)) args
theorem YZ {a:Int} (h:g5 a=true):a.natAbs.log2 < 1920:=by
 unfold g5 at h;simp only [decide_eq_true_eq] at h
 by_cases h0:a.natAbs=0
 .rw [h0];decide
 .have:=(Nat.log2_lt h0).mpr h;lia
theorem cw.str:cw B d (.type "str") jR:=λA ae D s args cI v al ok I R e Q E h=>by
 refine kM (λv cv e r=>?_) e R;refine dM (λe=>?_) (λe=>?_) e
 .exact iw (λl x t e aj ao=>a4 e h λh=>P.str_of_str (h _ _ _ I (.refl _ _ _) (.str _ _ _ aj ao))) e r
 .exact iv (λi t=>ds λhk e=>a4 e h λh=>P.str_of_int (YZ (an hk).1) (h _ _ _ (I.ext .toks) ce.toks.step (.str _ _ _ rfl (of_decide_eq_true (an hk).2)))) e r
noncomputable def kp:bf:=λargs D=>iq (λv=>(fV (λi=>some (.int i,D)) v).or ((m2 (λb=>some (.int (if b then 1 else 0),D)) v).or (gA (λl=>if l.length<=640 then (PySem.intText? ⟨l.toArray⟩).map λn=>(.int n,D) else none) v))) args
theorem cw.int:cw B d (.type "int") kp:=λA ae D s args cI v al ok I R e Q E h=>by
 refine kM (λv cv e r=>?_) e R;refine dM (λe=>?_) (dM (λe=>?_) (λe=>?_)) e
 .exact iv (λi t e=>a4 e h λh=>call_int_int (h _ _ _ I (.refl _ _ _) (.int _ _))) e r
 .exact pz (λi e=>a4 e h λh=>call_int_bool (h _ _ _ (I.ext .toks) ce.toks.step (.int _ _))) e r
 .refine iw (λl x t=>ds λaW=>cb λn av aC aj ao=>dP aC h λh=>?_) e r;have:=tb aj;subst this;exact KIN.call_text av (by simpa [Str.length] using aW) (h _ _ _ (I.ext .toks) ce.toks.step (.int _ _))
noncomputable def rU:bf:=λargs D=>iq (fV λi=>if decide (0<=i) && decide (i<=1114111) then some (.str [i.toNat],D) else none) args
theorem cw.chr:cw B d (.builtin "chr") rU:=λA ae D s args cI v al ok I R e Q E h=>
 kM (λv cv e r=>iv (λi t=>BK λaj ao e=>a4 e h λh=>chr_of_range aj ao (h _ _ _ (I.ext .toks) ce.toks.step (.str _ _ _ rfl (by unfold big;simp)))) e r) e R
noncomputable def u6 (x:Str) (D:am):Option (V×am):=if x.cps.toList.length<=big then some (.str x.cps.toList,D) else none
noncomputable def rY:bf:=λargs D=>n1 (q' λa b=>u6 (Txt.stripChars ⟨a.toArray⟩ ⟨b.toArray⟩) D) args
theorem cw.strip:cw B d (.builtin "str.strip") rY:=λA ae D s args cI v al ok I R e Q E h=>
 ph (λv w cv cF e r1 cp=>vt (λx t y bA e aj ao=>ds (λaL e=>a4 e h λh=>SC.stripChars (λmd k=>h _ _ _ (I.ext .toks) ce.toks.step (.str _ _ _ rfl aL)) (by simpa [Str.length] using kh aj)) e) e r1 cp) e R
noncomputable def AM:bf:=λargs D=>iq (gA λa=>if (Txt.lower ⟨a.toArray⟩).length<=big then u6 (Txt.lower ⟨a.toArray⟩) D else none) args
noncomputable def p':bf:=λargs D=>iq (gA λa=>if (Txt.upper ⟨a.toArray⟩).length<=big then u6 (Txt.upper ⟨a.toArray⟩) D else none) args
theorem cw.lower:cw B d (.builtin "str.lower") AM:=λA ae D s args cI v al ok I R e Q E h=>
 kM (λv cv e r=>iw (λl x t=>ds λ_=>ds λaj e cz dB=>a4 e h λh=>by
  have:=tb cz;subst this;exact SCL.lower (Nat.le_trans (by simpa [Str.length] using dB) (by decide:big<=5592405)) λ_=>h _ _ _ (I.ext .toks) ce.toks.step (.str _ _ _ rfl aj)) e r) e R
theorem cw.upper:cw B d (.builtin "str.upper") p':=λA ae D s args cI v al ok I R e Q E h=>
 kM (λv cv e r=>iw (λl x t=>ds λ_=>ds λaj e cz dB=>a4 e h λh=>by
  have:=tb cz;subst this;exact SCL.upper (Nat.le_trans (by simpa [Str.length] using dB) (by decide:big<=5592405)) λ_=>h _ _ _ (I.ext .toks) ce.toks.step (.str _ _ _ rfl aj)) e r) e R
noncomputable def ys:List V->Option (List Str)
 | []=>some []
 | v::r=>gA (λl=>(ys r).map λt=>⟨l.toArray⟩::t) v
theorem Zo {h:Heap}:∀{l:List V} {cl:List Value} {cL:List Str},cC ae h l cl->ys l=some cL->StrsAre cl cL:=by
 intro l
 induction l with
 | nil=>
  intro cl cL r;refine s1 λy=>?_;subst y;have:=List.eq_nil_of_length_eq_zero r.len.symm;subst this;exact .nil
 | cons v l bJ=>
  intro cl cL r e;refine fZ r.q8 λcv fN aV r1 cp=>?_;subst aV;refine iw (λl x bA=>cb λt av y cz dB=>?_) e r1;subst y;have:=tb cz;subst this;exact .cons _ _ (bJ cp av)
noncomputable def p8:bf:=λargs D=>n1 (λv w=>gA (λa=>(fx D w).bind λl=>(ys l).bind λcL=>if decide (a.length<=16) && decide ((cL.map (·.length)).sum+cL.length<=1048576) then u6 (Txt.join ⟨a.toArray⟩ cL) D else none) v) args
theorem cw.join:cw B d (.builtin "str.join") p8:=λA ae D s args cI v al ok I R e Q E h=>by
 refine ph (λv w cv cF e r1 cp=>?_) e R;refine iw (λa x t=>bZ λl av=>bZ λcL aC=>BK λij GZ=>ds λaj e cz dB=>a4 e h λh=>?_) e r1;refine fj (lJ I cp av) λad items aV aW aZ aA=>?_;subst aV;have:=tb cz;subst this;exact join_listW aW (Zo aZ aC) (by simpa [Str.length] using ij) GZ (λmd k=>h _ _ _ (I.ext .toks) ce.toks.step (.str _ _ _ rfl aj))
noncomputable def nr (D:am) (v:V):Option (Nat×List (V×V)):=lA (λi l=>some (i,l)) D v
theorem rP {v:V} {cv:Value} {i l} (I:Inv B ae D s) (r:aO ae s.heap v cv) (e:nr D v=some (i,l)):
  ∃q bT,v=.ref i/\D[i]? =some (.dict l)/\ae[i]? =some (some q)/\cv=.ref q.1/\q.2=q.1/\s.heap.DictOf (l0 br B.w) q.1 bT/\e9 ae s.heap l bT/\(q.1 == sysModules)=false:=by
 revert r;refine Jp (λHj l' aJ e r=>?_) e;revert e;refine s2 λbd bl=>?_;subst bd;subst bl;refine Inv.qY I aJ (λz=>by cases z) (λq bL rep=>?_) r;refine gC.e3 ?_ rep;intro bT aj ao aL;refine ⟨q,bT,rfl,aJ,bL,rfl,aj,ao,aL,beq_eq_false_iff_ne.mpr λz=>?_⟩;refine cH B.mods λo aG=>?_;have:=I.fresh q.1 ⟨_,q,bL,.inl rfl⟩;rw [z,aG] at this;cases this
theorem w2 {h:Heap} {v:V} {cv:Value} {k:er} {w:World} (r:aO ae h v cv) (e:je v=some k):(l0 br w).is k cv=true:=by
 refine dM (λe=>?_) (λe=>?_) e
 .refine iv (λi t=>s1 λy=>?_) e r;subst y;exact beq_self_eq_true i
 .refine iw (λl x t=>s1 λy aj _=>?_) e r;subst y;have:=tb aj;subst this;exact beq_self_eq_true _
noncomputable def nK (k:er) (p:V×V):Bool:=(je p.1).any λx=>decide (x=k)
theorem uI {k x:er} {p:V×V} (h:je p.1=some x):nK k p=decide (x=k):=by unfold nK;rw [h];rfl
noncomputable def uj (es:List (V×V)) (k:er):Bool:=es.any (nK k)
noncomputable def wp (es:List (V×V)) (k:er):Option V:=(es.find? (nK k)).map (·.2)
noncomputable def n8 (es:List (V×V)) (k:er) (key v:V):List (V×V):=if uj es k then es.map (λp=>if nK k p then (p.1,v) else p) else es++[(key,v)]
theorem e9.nil {h:Heap}:e9 ae h [] []:=⟨rfl,Nat.zero_le _,λk dA e h=>by simp at h⟩
theorem e9.cons {h:Heap} {p:V×V} {es:List (V×V)} {e:er×Value} {fJ:List (er×Value)} (aj:je p.1=some e.1) (ao:aO ae h p.2 e.2) (r:e9 ae h es fJ) (aA:es.length+1<=big):e9 ae h (p::es) (e::fJ):=
 ⟨congrArg _ r.len,aA,λk dA f a b=>by
  cases k with
  | zero=>cases a;cases b;exact ⟨aj,ao⟩
  | succ k=>exact r.at_ k _ _ a b⟩
theorem e9.ind {h:Heap} {P:List (V×V)->List (er×Value)->Prop} (h0:P [] []) (aj:∀p es e bT,je p.1=some e.1->aO ae h p.2 e.2->e9 ae h es bT->es.length+1<=big->P es bT->P (p::es) (e::bT)):∀{es bT},e9 ae h es bT->P es bT:=by
 intro es
 induction es with
 | nil=>intro bT r;have:=List.eq_nil_of_length_eq_zero r.len.symm;subst this;exact h0
 | cons p es bJ=>
  intro bT r
  cases bT with
  | nil=>exact absurd r.len (Nat.succ_ne_zero _)
  | cons e bT=>
   have z:=r.at_ 0 _ _ rfl rfl;have Jn:e9 ae h es bT:=⟨Nat.succ.inj r.len,Nat.le_of_succ_le r.small,λk dA f a b=>r.at_ (k+1) _ _ a b⟩;exact aj p es e bT z.1 z.2 Jn r.small (bJ Jn)
theorem GL {h:Heap} {k:er} {es:List (V×V)} {bT:List (er×Value)}:e9 ae h es bT->uj es k=bT.any (λdA=>dA.1=k):=
 e9.ind (P:=λes bT=>uj es k=bT.any λdA=>dA.1=k) rfl λp es e bT aj _ _ _ bJ=>congr (congrArg or (uI aj)) bJ
theorem OA {h:Heap} {k:er} {v:V} {es:List (V×V)} {bT:List (er×Value)}:e9 ae h es bT->wp es k=some v->∃cv,valueAt bT k=some cv/\aO ae h v cv:=
 e9.ind (P:=λes bT=>wp es k=some v->∃cv,valueAt bT k=some cv/\aO ae h v cv) bU λp es e bT aj ao _ _ bJ=>by
  unfold wp valueAt;rw [List.find?_cons,List.find?_cons,uI aj]
  cases decide (e.1=k) with
  | true=>exact s1 λy=>⟨_,rfl,y▸ao⟩
  | false=>exact bJ
theorem TS {h:Heap} {k:er} {v:V} {cv:Value} (gz:aO ae h v cv) {es:List (V×V)} {bT:List (er×Value)}:e9 ae h es bT->
  e9 ae h (es.map λp=>if nK k p then (p.1,v) else p) (bT.map λdA=>if dA.1=k then (dA.1,cv) else dA):=
 e9.ind (P:=λes bT=>e9 ae h (es.map λp=>if nK k p then (p.1,v) else p) (bT.map λdA=>if dA.1=k then (dA.1,cv) else dA)) .nil λp es e bT aj ao _ aA bJ=>by
  rw [List.map_cons,List.map_cons];have aA:(es.map λp=>if nK k p then (p.1,v) else p).length+1<=big:=by rw [List.length_map];exact aA
  by_cases q:e.1=k
  .rw [if_pos ((uI aj).trans (decide_eq_true q)),if_pos q];exact .cons aj gz bJ aA
  .rw [if_neg (by rw [uI aj,decide_eq_false q];exact Bool.false_ne_true),if_neg q];exact .cons aj ao bJ aA
theorem LV {h:Heap} {k:er} {key v:V} {cv:Value} (hk:je key=some k) (gz:aO ae h v cv) {es:List (V×V)} {bT:List (er×Value)}:e9 ae h es bT->es.length+1<=big->e9 ae h (es++[(key,v)]) (bT++[(k,cv)]):=
 e9.ind (P:=λes bT=>es.length+1<=big->e9 ae h (es++[(key,v)]) (bT++[(k,cv)])) (.cons hk gz .nil) λp es e bT aj ao _ _ bJ aA=>
  .cons aj ao (bJ (Nat.le_of_succ_le aA)) (List.length_append (as:=es)▸aA)
theorem Y6 {h:Heap} {es:List (V×V)} {bT:List (er×Value)} {k:er} {key v:V} {cv:Value} (r:e9 ae h es bT) (hk:je key=some k) (gz:aO ae h v cv) (aA:es.length+1<=big):e9 ae h (n8 es k key v) (PySem.stored bT k cv):=by
 unfold n8 PySem.stored;rw [GL r];split
 .exact TS gz r
 .exact LV hk gz r aA
noncomputable def po (D:am) (v w x:V):Option am:=(nr D v).bind λp=>(je w).bind λk=>if p.2.length+1<=big then some (D.set p.1 (.dict (n8 p.2 k w x))) else none
theorem YI {v w x:V} {cv cF eJ:Value} {al:am} {A:Around} {Q:Unit->Shared->Prop} {E:Value->Shared->Prop} (I:Inv B ae D s) (gz:aO ae s.heap v cv) (jB:aO ae s.heap w cF) (mZ:aO ae s.heap x eJ) (e:po D v w x=some al)
  (h:∀s',Inv B ae al s'->Step [] ae s ae s'->Q () s'):wpAny (model br B.w) A (setItem cv cF eJ) Q E s:=by
 refine cg (λi l av=>bZ λk aC=>ds λaA=>My.s1 λbd=>?_) e;subst bd;refine rg (rP I gz av) λq bT aV aJ bL mi ie bn aZ hs=>?_;subst aV;subst mi;refine wpAny_setItem_pairs (w2 (w:=B.w) jB aC) bn (λh' r7 c7=>?_) (hsz:=aZ.len▸kh aZ.small);have l5:∀b,b≠q.1->b≠q.2->∀o,s.heap.get? b=some o->h'.get? b=some o:=λb e5 _ o e=>(c7.2 b e5).trans e;have mono:∀b,h'.get? b=none->s.heap.get? b=none:=λb e=>by
  by_cases z:b=q.1
  .refine kW r7 λo es d9 aG _=>?_;rw [z,aG] at e;cases e
  .rw [<- c7.2 b z];exact e
 have S:Step [] ae s ae {s with heap:=h',toks:=s.toks+1}:=yn bL l5 mono;exact h _ (I.upd bL l5 mono (.dict _ _ ie r7 ((Y6 aZ aC mZ aA).step S (.nil _))) rfl rfl) S
noncomputable def kP (d' gI fv:bK):aU:=λag D=>(fv ag D).bind λp=>(d' ag p.2).bind λq=>(gI ag q.2).bind λr=>(po r.2 q.1 r.1 p.1).map λal=>(.nx,ag,al)
theorem et.po {o i value:Expr} {h6 pos:Pos} {d' gI fv} (aj:Ev B c value fv) (ao:Ev B c o d') (aL:Ev B c i gI) (hs:∀env,swapsWith value (some (.Subscript o i h6)) pos.line env=pure false:=by intro _;rfl):
  et B c (.Assign [.Subscript o i h6] value pos) (kP d' gI fv):=λA ae D ag s r bX al ok I L e Q E h=>by
 revert e;refine cg λa ai av e=>?_;revert e;refine cg λb aY aC e=>?_;revert e;refine cg λk a6 bN e=>?_;revert e;refine cb λbQ du e=>?_;refine gx e h λh=>?_;clear e;exact wpAny_Assign_Subscript (aj _ _ _ _ _ _ _ ok I L av _ E λd5 s1 b3 I1 dT d8=>ao _ _ _ _ _ _ _ ok I1 (L.bx dT) aC _ E λtp s2 cJ gB c8 bV=>
  aL _ _ _ _ _ _ _ ok gB (L.bx (dT.trans c8)) bN _ E λlD s3 rI d0 c9 el=>YI d0 (bV.bx c9) el ((d8.bx c8).bx c9) du λs4 hO gD=>
   h _ _ _ hO (((dT.trans c8).trans c9).trans gD).fW (L.bx (((dT.trans c8).trans c9).trans gD)) .nx) (hs _)
noncomputable def uE (D:am) (v w:V):Option V:=(nr D v).bind λp=>(je w).bind λk=>wp p.2 k
theorem SF {A:Around} {v w bA:V} {cv cF:Value} {value iY:Expr} {Q:Value->Shared->Prop} {E:Value->Shared->Prop} (I:Inv B ae D s) (gz:aO ae s.heap v cv) (jB:aO ae s.heap w cF) (e:uE D v w=some bA)
  (hs:∀o i,subscripted iY false o i=operate [o,i] (getItem o i)) (h:∀s' iF,ce s s'->aO ae s'.heap bA iF->Q iF s'):wpAny (model br B.w) A (subscriptTail value iY cv cF) Q E s:=by
 revert e;refine cg λi l av p4=>?_;revert p4;refine bZ λk aC p3=>?_;refine rg (rP I gz av) λq bT aV aJ bL mi ie bn aZ oL=>?_;subst aV;subst mi;refine a2 (OA aZ p3) λiF aj ao=>?_;exact vg (M:=model br B.w) bn.typeIs PySem.F.slot_dict_getitem.lookup (wpAny_getItem_of (w2 (w:=B.w) jB aC) bn.mapOf aj (h _ _ .toks ao)) (hs _ _)
noncomputable def nu (f g:bK):bK:=λag D=>(f ag D).bind λp=>(g ag p.2).bind λq=>(uE q.2 p.1 q.1).map λv=>(v,q.2)
theorem Ev.uE {value iY:Expr} {pos:Pos} {f g} (aj:Ev B c value f) (ao:Ev B c iY g) (hs:∀o i,subscripted iY false o i=operate [o,i] (getItem o i):=by intro _ _;rfl):Ev B c (.Subscript value iY pos) (nu f g):=λA ae D ag s v al ok I L e Q E h=>by
 revert e;refine cg λa ai av e=>?_;revert e;refine cg λb aY aC e=>?_;revert e;refine cb λw bN e=>?_;refine dP e h λh=>?_;clear e;exact Subscript_ (aj _ _ _ _ _ _ _ ok I L av _ E λbt s' b3 bm bh bo=>ao _ _ _ _ _ _ _ ok bm (L.bx bh) aC _ E λgj d4 cJ cB cD eH=>
  SF cB (bo.bx cD) eH bN hs λs3 iF X el=>h _ _ _ (cB.ext X) ((bh.trans cD).trans X.step) el)
noncomputable def u3 (D:am) (a b:V):Option V:=(nr D b).bind λp=>(je a).map λk=>.bool (!uj p.2 k)
theorem Z0 {bT:List (er×Value)} {k:er}:(valueAt bT k).isSome=bT.any (λdA=>dA.1=k):=by
 unfold valueAt;rw [Option.isSome_map,List.isSome_find?]
theorem UY:ew B d (compareOp .NotIn) u3:=λA ae D s a b b3 cJ v ok I b2 b' e Q E h=>by
 revert e;refine cg λi l av e=>?_;revert e;refine cb λk aC bN=>?_;subst bN;refine rg (rP I b' av) λq bT aV aJ bL mi ie bn aZ oL=>?_;subst aV;subst mi;refine wpAny_notIn_of (w2 (w:=B.w) b2 aC) oL bn.mapOf ?_;rw [Z0,<- GL aZ];exact h _ _ .toks (.bool _)
noncomputable def t1:bf:=λargs D=>iq (λw=>(nr D w).map λp=>(.ref D.length,D++[.dict p.2])) args
theorem cw.dict:cw B d (.type "dict") t1:=λA ae D s args cI v al ok I R e Q E h=>by
 refine kM (λv cv e r=>?_) e R
 .revert e;refine nX λi l av aC=>dP aC h λh=>?_;refine rg (rP I r av) λq bT aV aJ bL mi ie bn aZ oL=>?_;subst aV;subst mi;refine kt_call_dict oL bn (aZ.len▸kh aZ.small) λh' r7 c7=>?_;have X:ce s {s with heap:=h'}:=⟨λb o e=>(c7.2 b (Nat.ne_of_lt (Heap.lt_size e))).trans (Heap.get?_push_of_some _ e),rfl,rfl⟩;have S:Step [] ae s (ae++[some (s.heap.objs.size,s.heap.objs.size)]) {s with heap:=h'}:=q6 X (f7 s) (f7 s);have d0:=I.add X (q:=(s.heap.objs.size,s.heap.objs.size)) (o:=.dict l) (f7 s) (f7 s) (.dict l bT rfl r7 (aZ.step S (.nil _)));refine h _ _ _ d0 S ?_;rw [<- I.len];exact aO.fresh (q:=(s.heap.objs.size,s.heap.objs.size))
noncomputable def ib (f:bK):bK:=λag D=>(f ag D).bind λp=>(kN (λi l=>some (.ap l,p.2.set i .bB)) p.2 p.1).or (m3 (λl=>some (.ap l,p.2)) p.1)
theorem Ev.freeze {e f} (aj:Ev B c e f):Ev B c e (ib f):=λA ae D ag s v al ok I L e Q E h=>by
 refine cg (λa ai av e=>?_) e;refine aj _ _ _ _ _ _ _ ok I L av _ E λbt s' b3 bm bh bo=>?_;refine dM (λe=>?_) (λe=>?_) e
 .have e:kN _ ai a=_:=e;revert bo;refine s6 (λi l aW e bo=>?_) e;exact a4 e h λh=>h _ _ _ (bm.freeze i) (bh.trans q5) (bm.AR aW bo)
 .have e:m3 _ a=_:=e;revert bo;refine vn (λl e bo=>?_) e;exact a4 e h λh=>h _ _ _ bm bh bo
noncomputable def Ay (fv:Value) (F:bf) (g:bK) (f:gS):bK:=λag D=>(g ag D).bind λp=>tg (λv=>if v=fv then (f ag p.2).bind λq=>F q.1 q.2 else none) p.1
theorem Ev.M7 {func:Expr} {es pos fv F g f} (h0:Ev B c func g) (bj:j9 B fv) (hf:cw B d fv F) (bn:d<=c.d) (aj:i1 B c pos es f)
  (cW:eval (.Call func es [] pos) c.env=(do callWith pos (<- eval func c.env) [] (backTo pos (starEach es c.env)) (backToKw pos (keywordEach [] c.env))):=by rfl) (aw:qT es:=by intro _ _;rfl):
  Ev B c (.Call func es [] pos) (Ay fv F g f):=λA ae D ag s bA al ok I L e Q E h=>by
 refine cg (λa fX hb p3=>?_) e;refine Call_ (h0 _ _ _ _ _ _ _ ok I L hb _ E λbt s' b3 bm bh bo=>?_) cW;have p3:tg _ a=_:=p3;refine Ki (λv p3=>?_) p3 bo;refine ds (λaI=>cg λl ai av aC=>?_) p3;subst aI;exact wl bj hf bn aw aj ok bm (L.bx bh) .nil av aC λgj d4 cv cB cD eH=>h _ _ _ cB (bh.trans cD) eH
theorem FC {A:Around} {R:Result->Shared->Prop} {elt gi hD:Expr} {ifs:List Expr} {scope:Scope} {pos:Pos} {it bi:Value} {env:Env} (I:Nat->Shared->Prop)
  (turn:∀n s,I n s->∀E:Value->Shared->Prop,wpAny (model br B.w) A (pyNext it) (λr g6=>match r with
   | none=>R (.ok .next) g6
   | some v=>wpAny (model br B.w) A (letOwnedTupleGo gi it v) (λ_ J2=>wpAny (model br B.w) A (assign gi env v) (λ_ yp=>
     wpAny (model br B.w) A (forIn ifs true λc r=>if r=true then do let ok <- isTrue c env (eval c env);pure (ForInStep.yield ok) else pure (ForInStep.yield r)) (λok pu=>
      if ok=true then wpAny (model br B.w) A (eval elt env) (λx J3=>
       wpAny (model br B.w) A (call (.builtin "list.append") [bi,x]) (λ_ J4=>∃m,m < n/\I m J4) E J3) E pu
      else ∃m,m < n/\I m pu) E yp) E J2) E g6) E s)
  (n:Nat) (h:I n s):
  codeAny (model br B.w) A (.compLoop (.ListComp elt [⟨gi,hD,ifs,0⟩] scope pos) 0 it bi env) R s:=by
 refine codeAny_loop rfl I (λn s kt=>?_) n h;show wpAny _ _ ((compTurn (.ListComp elt [⟨gi,hD,ifs,0⟩] scope pos) 0 it bi env).onRaise (λx=>do noteFrame x env;theTreesLotGoes x)) _ _ s;refine wpAny_noted ?_;rw [compTurn_list];refine wpAny_bind (wpAny_standAt (wpAny_bind (wpAny_mono (turn n s kt _) (λr g6 wT=>?_) λ_ _ h'=>h')))
 cases r with
 | none=>exact wpAny_pure wT
 | some v=>
  refine wpAny_bind (wpAny_mono wT (λ_ J2 R1=>?_) λ_ _ h'=>h');refine wpAny_bind (wpAny_mono R1 (λ_ yp R2=>wpAny_bind (wpAny_mono R2 (λok pu wU=>?_) λ_ _ h'=>h')) λ_ _ h'=>h')
  cases ok with
  | false=>exact wpAny_pure ⟨rfl,wU⟩
  | true=>
   exact wpAny_bind (wpAny_bind (wpAny_mono wU (λx J3 R3=>wpAny_bind (wpAny_mono R3 (λ_ J4 R4=>wpAny_pure (wpAny_pure ⟨rfl,R4⟩)) λ_ _ h'=>h')) λ_ _ h'=>h'))
theorem WB (scope:Scope) (env:Env):(relabel scope env).names.map (·.1)=scope.names.map (·.1):=by
 unfold relabel;dsimp only;rw [List.map_map];refine List.map_congr_left λp _=>?_;obtain ⟨n,k⟩:=p;show (if _ then (n,NameKind.cell) else (n,k)).1=n;split <;> rfl
theorem QO {l m:List (Str×NameKind)} (h:l.map (·.1)=m.map (·.1)) (g:iJ m=true):iJ l=true:=by
 have key:∀l:List (Str×NameKind),(l.all λp=>!(p.1 == ("__debug__" :Str)) && !(p.1 == ("__classdict__" :Str)))=(l.map (·.1)).all λx=>!(x == ("__debug__" :Str)) && !(x == ("__classdict__" :Str)):=λl=>by rw [List.all_map];rfl
 unfold iJ at g ⊢;rw [key] at g ⊢;rw [h];exact g
noncomputable def pW (c:eC) (cap:Bool):List (Str×Addr):=match cap with | true=>c.env.cells | false=>[]
noncomputable def gF (c:eC) (scope:Scope) (cap:Bool) (C:Addr) (hk:scope.kind=.function):eC where
 env:=compEnvC scope (pW c cap) C c.env
 d:=c.d
 X:=[C]
 own:=false
 cr:=c.cr
 aA:=c.aA
 hk:=hk
 aJ:=by unfold interactive;show (scope.kind == .module && _)=false;rw [hk];rfl
 qA:=List.mem_singleton_self _
noncomputable def qS (names Vh:List (Str×NameKind)):List (Option Nat):=names.map λp=>if p.2 == .cell then Vh.findIdx? (λq=>q.1 == p.1 && q.2 == .cell) else none
noncomputable def iE (v:V) (g:f5) (t:dp) (f:bK) (j:Nat):Nat->Nat->List V->am->Option am
 | 0,_=>λ_ _=>none
 | n+1,k=>λag D=>(g3 D v k).bind λr=>match r with
  | none=>some D
  | some x=>(g ag x).bind λcc=>(t cc D).bind λq=>if q.1 then (f cc q.2).bind λp=>(c0 [.ref j,p.1] p.2).bind λa=>iE v g t f j n (k+1) cc a.2
   else iE v g t f j n (k+1) cc q.2
theorem Oj {v:V} {g:f5} {t:dp} {f:bK} {j n k:Nat} {z:am} {C:Prop} (BW:g3 D v k=some none->D=z->C)
  (cz:∀x cc b ai,g3 D v k=some (some x)->g ag x=some cc->t cc D=some (b,ai)->(match b with | false=>iE v g t f j n (k+1) cc ai=some z | true=>∃y aY bA a6,f cc ai=some (y,aY)/\c0 [.ref j,y] aY=some (bA,a6)/\iE v g t f j n (k+1) cc a6=some z)->C)
  (e:iE v g t f j (n+1) k ag D=some z):C:=by
 refine bZ (λDh hy aC=>?_) e
 cases Dh with
 | none=>exact BW hy (Option.some.inj aC)
 | some x=>
  refine bZ (λhL p7=>cg λb a6 t0 du=>cz x hL b a6 hy p7 t0 ?_) aC
  cases b with
  | false=>exact du
  | true=>exact cg (λy e8 AI=>cg λz jI mA hx=>⟨y,e8,z,jI,AI,mA,hx⟩) du
noncomputable def fin (fz:Bool) (j:Nat) (D:am):Option (V×am):=match fz with
 | true=>kN (λj l=>some (.ap l,D.set j .bB)) D (.ref j)
 | false=>some (.ref j,D)
theorem Go {fz:Bool} {j:Nat} {v:V} {al:am} {cv:Value} (e:fin fz j D=some (v,al)) (I:Inv B ae D s) (R:aO ae s.heap (.ref j) cv):∃bt,Inv B bt al s/\Step [] ae s bt s/\aO bt s.heap v cv:=by
 cases fz with
 | true=>
  have e:kN _ D (.ref j)=_:=e;revert R;refine s6 (λi l aW e R=>?_) e;revert e;refine s2 λbd bl=>?_;subst bd;subst bl;exact ⟨_,I.freeze i,q5,I.AR aW R⟩
 | false=>revert e;refine s2 λbd bl=>?_;subst bd;subst bl;exact ⟨_,I,.refl _ _ _,R⟩
noncomputable def e' (fz:Bool) (i:bK) (pl:List (Option Nat)) (g:f5) (t:dp) (f:bK) (N:Nat):bK:=λag D=>(i ag D).bind λp=>if jd p.2 p.1 then (iE p.1 g t f p.2.length N 0 (gR pl ag) (p.2++[.list []])).bind λal=>fin fz p.2.length al else none
noncomputable def tM (B:db) (c:eC) (ifs:List Expr) (t:dp):Prop:=
 ∀A ae D ag s v al,eU c.d A->Inv B ae D s->Loc B c ae ag s.heap->t ag D=some (v,al)->
  ∀(Q:Bool->Shared->Prop) (E:Value->Shared->Prop),KB B ae s Q al v->
   wpAny (model br B.w) A (forIn ifs true λe r=>if r=true then do let ok <- isTrue e c.env (eval e c.env);pure (ForInStep.yield ok) else pure (ForInStep.yield r)) Q E s
theorem tM.nil:tM B c [] bW:=λA ae D ag s v al ok I L e Q E h=>by refine a4 e h λh=>?_;clear e;exact wpAny_tests_nil (h _ _ I (.refl _ _ _))
theorem tM.one {e t} (aj:fM B c e t):tM B c [e] t:=λA ae D ag s v al ok I L e Q E h=>wpAny_tests_one (aj _ _ _ _ _ _ _ ok I L e Q E h)
theorem Loc.comp {scope:Scope} {cap:Bool} {C:Addr} {hk:scope.kind=.function} {pl:List (Option Nat)} (L:Loc B c ae ag s.heap) (cr:iJ scope.names=true) (dC:s.heap.get? C=none) (ij:∀b o,s.heap.get? b=some o->s'.heap.get? b=some o)
  (jt:s'.heap.Ns C (λ_=>none)) (Bp:¬foot ae C) (h0:B.h0.get? C=none) (kx:qS (gF c scope cap C hk).names c.names=pl) (Ri:(gF c scope cap C hk).names.all (λp=>!(p.2 == .free))=true)
  (jV:(gF c scope cap C hk).names.all (λp=>if p.2 == .cell then cap && c.names.contains p else true)=true):Loc B (gF c scope cap C hk) ae (gR pl ag) s'.heap:=by
 have mono:∀b,s'.heap.get? b=none->s.heap.get? b=none:=λb e=>by
  cases q:s.heap.get? b with
  | none=>rfl
  | some o=>rw [ij b o q] at e;cases e
 have X:Step [] ae s ae s':=⟨λb o e _ _=>ij b o e,mono,Nat.le_refl _,λ_ _ _ e=>e,λi q aJ e=>by have:=(List.getElem?_eq_some_iff.mp e).1;lia⟩;have jU:∀x,(x,NameKind.cell)∈(gF c scope cap C hk).names->(pW c cap).lookup x=c.env.cells.lookup x:=λx ax=>by
  have:=List.all_eq_true.mp jV _ ax;simp only [beq_self_eq_true,if_true,Bool.and_eq_true] at this;rw [this.1];rfl
 have cellOf:∀{k:Nat} {x:Str},(gF c scope cap C hk).names[k]? =some (x,.cell)->∃i,c.names[i]? =some (x,.cell)/\pl[k]? =some (some i):=by
  intro k x ax;have aP:=List.mem_of_getElem? ax;have bj:=List.all_eq_true.mp jV _ aP;simp only [beq_self_eq_true,if_true,List.contains_eq_mem,Bool.and_eq_true,decide_eq_true_eq] at bj;have bj:=bj.2;have:∃i,c.names.findIdx? (λq=>q.1 == x && q.2 == .cell)=some i:=by
   cases q:c.names.findIdx? (λq=>q.1 == x && q.2 == .cell) with
   | none=>
    rw [List.findIdx?_eq_none_iff] at q;have:=q _ bj;simp at this
   | some i=>exact ⟨i,rfl⟩
  revert this;refine d7 λi aJ=>?_;have Bd:=aJ;rw [List.findIdx?_eq_some_iff_getElem] at Bd;obtain ⟨cY,aw,_⟩:=Bd;refine ⟨i,?_,?_⟩
  .rw [List.getElem?_eq_getElem cY];simp only [Bool.and_eq_true,beq_iff_eq] at aw;rw [<- aw.1,<- aw.2]
  .rw [<- kx];unfold qS;rw [List.getElem?_map,ax];simp [aJ]
 refine ⟨QO (WB _ _) cr,⟨_,jt⟩,λk x bO v ax aW aI dD=>?_,λk x ax=>?_,λx y a aj ao=>?_,λa bw=>?_,λa bw=>?_,λa bw=>?_⟩
 .have aP:=List.mem_of_getElem? ax
  cases bO with
  | cell=>
   refine a2 (cellOf ax) λi aJ aw=>?_;unfold gR at aI;rw [List.getElem?_map,aw] at aI;simp only [Option.map_some,Option.some.injEq] at aI;have RT:ag[i]? =some v:=by
    rw [List.getD_eq_getElem?_getD] at aI
    cases q:ag[i]? with
    | none=>rw [q] at aI;exact absurd aI.symm dD
    | some w=>rw [q] at aI;simpa using aI
   cases L.held i x .cell v aJ rfl RT dD with
   | cell a cv _ ii av aC bN du=>
    revert aC;refine eQ λo aG bn=>?_;exact .cell a cv _ (.inl rfl) ((jU x aP).trans av) ⟨o,ij _ _ aG,bn⟩ bN (du.bx X)
  | «local» =>
   unfold gR at aI;rw [<- kx,List.getElem?_map] at aI;unfold qS at aI;rw [List.getElem?_map,ax] at aI;simp at aI;exact absurd aI.symm dD
  | free=>
   have:=List.all_eq_true.mp Ri _ aP
   cases this
  | _=>cases aW
 .refine a2 (cellOf ax) λi aJ aw=>?_;refine fj (L.cell i x aJ) λa w aj ao aL ci=>?_;revert ci;refine eQ λo cm eg=>?_;exact ⟨a,w,(jU x (List.mem_of_getElem? ax)).trans aj,(λq=>by cases q),aL,o,ij _ _ cm,eg⟩
 .cases cap with
  | true=>exact L.inj x y a aj ao
  | false=>exact bU aj
 .rw [List.mem_singleton.mp bw];exact Bp
 .rw [List.mem_singleton.mp bw];exact h0
 .rw [List.mem_singleton.mp bw];revert jt;refine oh λo es d9 aG bn _=>?_;exact ⟨o,aG,by unfold fS;rw [bn];rfl⟩
theorem Step.Au {Y Z:List Addr} {s2 s1:Shared} (x:ce s s2) (fr:∀a∈Y,s.heap.get? a=none) (S:Step (Y++Z) ae s2 bt s1) (k:∀b o,s1.heap.get? b=some o->b∉Y->s'.heap.get? b=some o):Step Z ae s bt s':=by
 refine ⟨λb o e n m=>?_,λb e=>?_,S.len,S.old,λi q aJ e=>⟨x.none (S.new i q aJ e).1,x.none (S.new i q aJ e).2⟩⟩
 .have aA:b∉Y:=λq=>by rw [fr b q] at e;exact bU e
  exact k b o (S.keep b o (x.keep b o e) n (by simp [aA,m])) aA
 .by_cases aA:b∈Y
  .exact fr b aA
  .cases q:s1.heap.get? b with
   | none=>exact x.none (S.mono b q)
   | some o=>rw [k b o q aA] at e;cases e
theorem SI {A:Around} {v:V} {k:Nat} {it:Addr} {Q:Value->Shared->Prop} {E:Value->Shared->Prop} (R:i6 ae s.heap v k it) (h:Q (.ref it) s):wpAny (model br B.w) A (pyIter (.ref it)) Q E s:=by
 cases R with
 | lst _ _ _ a _ _ ao=>exact wpAny_pyIter_listiter ao h
 | de a b c _ _ aj=>exact wpAny_pyIter_rangeiter aj h
 | str l x t _ _ _ aj=>exact wpAny_pyIter_striter_ascii aj h
theorem xE {h:Heap} {C:Addr} {m:Str->Option Value} (n:h.Ns C m):∃o,h.get? C=some o/\fS o=true/\∀v,o.data≠.cell v:=by
 revert n;refine oh λo es d9 aG bn _=>?_;exact ⟨o,aG,by unfold fS;rw [bn];rfl,λv q=>by rw [bn] at q;cases q⟩
theorem FG {A:Around} {E:Value->Shared->Prop} {R:Value->Env->Shared->Prop} {scope:Scope} {cap:Bool} {pl:List (Option Nat)} (kind:scope.kind=.function) (uZ:scope.names.all (λp=>!(p.2 == .cell))=true) (good:iJ scope.names=true)
  (sS:qS (relabel scope c.env).names c.names=pl) (u0:(relabel scope c.env).names.all (λp=>!(p.2 == .free))=true) (cells:(relabel scope c.env).names.all (λp=>if p.2 == .cell then cap && c.names.contains p else true)=true)
  (I:Inv B ae D s) (L:Loc B c ae ag s.heap)
  (k:∀s4 C dj od,Inv B od (D++[.list []]) s4->Step [] ae s od s4->ce s s4->Loc B (gF c scope cap C kind) od (gR pl ag) s4.heap->aO od s4.heap (.ref D.length) (.ref dj)->s.heap.get? C=none->R (.ref dj) (newEnv scope C c.env.globals (pW c cap) c.env.qual none .none (some c.env) builtinsNs) s4):
  wpAny (model br B.w) A (newList []) (λbi s3=>wpAny (model br B.w) A (newFunctionEnv scope c.env.globals (pW c cap) [] c.env.qual none .none (some c.env)) (λwh s4=>R bi wh s4) E s3) E s:=by
 refine wpAny_newList (items:=[]) ?_;have zk:ce s {s with heap:=s.heap.push {cls:=.type "list",data:=.seq ([]:List Value).toArray}}:=.push _ _;refine iz (CA (l:=[]) (cl:=[]) I .nil (Nat.zero_le _) zk (f7 s) (Heap.get?_push_size _ rfl)) λd0 c9 el=>?_;refine wpAny_newFunctionEnv (λx ax q=>?_) (λx ax=>by cases ax) (λh' jt RL=>?_) kind
 .have:=List.all_eq_true.mp uZ _ ax;rw [q] at this;cases this
 have wC:=f7 ({s with heap:=s.heap.push {cls:=.type "list",data:=.seq ([]:List Value).toArray}}:Shared);have gW:ce {s with heap:=s.heap.push {cls:=.type "list",data:=.seq ([]:List Value).toArray}} {s with heap:=h',toks:=s.toks}:=⟨λb o e=>(RL.2 b (Nat.ne_of_lt (Heap.lt_size e))).trans (Heap.get?_push_of_some _ e),rfl,rfl⟩;exact k _ _ _ _ (d0.ext gW) (c9.trans gW.step) (zk.trans gW) (Loc.comp (hk:=kind) (L.bx c9) good wC gW.keep (by simpa using jt) (d0.lr wC) (d0.b0 wC) sS u0 cells) (el.bx gW.step) (zk.none wC)
theorem Ak {C it:Addr} {Z:List Addr} {s0:Shared} {h':Heap} {v:V} {cv:Value} {m:Str->Option Value} (b0:B.h0.get? C=none) (I:Inv B bt D s') (aP:s'.heap.Ns C m) (uW:¬foot bt C) (c7:Heap.SameBut C s'.heap h') (S:Step ([it,C]++Z) ae s0 bt s') (fr:s0.heap.get? it=none) (dC:s0.heap.get? C=none):
  Inv B bt D {s' with heap:=h'}/\Step Z ae s0 bt {s' with heap:=h'}/\(aO bt s'.heap v cv->aO bt h' v cv):=by
 refine gk (xE aP) λxI sa Hb _=>?_;have hk:∀b o,s'.heap.get? b=some o->b≠C->h'.get? b=some o:=λb o e n=>(c7.2 b n).trans e;exact ⟨I.it (kg ⟨xI,sa,Hb⟩) uW b0 hk rfl rfl,Step.Au (Y:=[it,C]) (.refl _) (zm fr dC) S λb o e n=>hk b o e (pa n).2,λR=>R.keep (X:=[C]) (λb o e n=>hk b o e (uX n)) (kg ⟨xI,sa,Hb⟩)⟩
structure yJ (B:db) (c:eC) (scope:Scope) (cap:Bool) (pl:List (Option Nat)) (gi:Expr) (ifs:List Expr) (elt:Expr) (g:f5) (t:dp) (f:bK):Prop where
 kind:scope.kind=.function
 good:iJ scope.names=true
 uZ:scope.names.all (λp=>!(p.2 == .cell))=true
 sS:qS (relabel scope c.env).names c.names=pl
 u0:(relabel scope c.env).names.all (λp=>!(p.2 == .free))=true
 cells:(relabel scope c.env).names.all (λp=>if p.2 == .cell then cap && c.names.contains p else true)=true
 wk:closureFor scope c.env=pure (pW c cap)
 Zp:∀C (hk:scope.kind=.function),lE B (gF c scope cap C hk) gi g
 tests:∀C (hk:scope.kind=.function),tM B (gF c scope cap C hk) ifs t
 elt:∀C (hk:scope.kind=.function),Ev B (gF c scope cap C hk) elt f
theorem FE {A:Around} {E:Value->Shared->Prop} {scope:Scope} {cap:Bool} {pl:List (Option Nat)} {gi elt hD:Expr} {ifs:List Expr} {pos:Pos} {g:f5} {t:dp} {f:bK} {N:Nat} {v:V} {it:Addr} {al:am} {RR:Value->Addr->Result->Shared->Prop} {s2:Shared}
  (K:yJ B c scope cap pl gi ifs elt g t f) (ok:eU c.d A) (I:Inv B ae D s) (L:Loc B c ae ag s.heap) (fk:ce s s2) (fr:s.heap.get? it=none) (nb:i6 ae s2.heap v 0 it)
  (e:iE v g t f D.length N 0 (gR pl ag) (D++[.list []])=some al)
  (QW:∀bt s' C dj,Inv B bt al s'->Step [it,C] ae s bt s'->Step [] ae s bt s'->aO bt s'.heap (.ref D.length) (.ref dj)->s.heap.get? C=none->¬foot bt C->(∃m,s'.heap.Ns C m)->RR (.ref dj) C (.ok .next) s'):
  wpAny (model br B.w) A (newList []) (λbi s3=>wpAny (model br B.w) A (newFunctionEnv scope c.env.globals (pW c cap) [] c.env.qual none .none (some c.env)) (λwh s4=>
   codeAny (model br B.w) A (.compStart (.ListComp elt [⟨gi,hD,ifs,0⟩] scope pos) 0 (.ref it) bi {wh with scope:=relabel scope c.env}) (RR bi wh.locals) s4) E s3) E s2:=by
 refine FG K.kind K.uZ K.good K.sS K.u0 K.cells (I.ext fk) (L.bx (fk.step (X:=[]) (ae:=ae))) λs4 C dj od hO nh zj y9 pR ue=>?_;have dC:=fk.none ue;have ub:=I.b0 fr;refine fZ nb.obj λo vs aG _ _=>?_;have Bf:it≠C:=λq=>by rw [q,ue] at aG;exact bU aG
 have main:codeAny (model br B.w) A (.compLoop (.ListComp elt [⟨gi,hD,ifs,0⟩] scope pos) 0 (.ref it) (.ref dj) (gF c scope cap C K.kind).env) (RR (.ref dj) C) s4:=by
  refine FC (λn s1=>∃d5 ai cc k,Inv B d5 ai s1/\Step [it,C] ae s2 d5 s1/\Loc B (gF c scope cap C K.kind) d5 cc s1.heap/\i6 d5 s1.heap v k it/\¬foot d5 it/\aO d5 s1.heap (.ref D.length) (.ref dj)/\iE v g t f D.length n k cc ai=some al) ?_ N
   ⟨_,_,_,0,hO,nh.fW,y9,nb.step nh (.nil _) (I.lr fr) List.not_mem_nil,nh.out aG (I.lr fr),pR,e⟩
  intro n s1;refine Lb λd5 ai cc k I1 dT hQ nc l1 oj av=>?_;intro cP;have lv:eU (gF c scope cap C K.kind).d A:=ok;have jw:it∉(gF c scope cap C K.kind).X:=λm=>Bf (List.mem_singleton.mp m)
  cases n with
  | zero=>exact bU av
  | succ n=>
   refine Oj (λhy y=>?_) (λx hL b a6 hy p7 t0 du=>?_) av
   .subst y;refine xC ok.hand I1 nc l1 ub hy (λaZ s' bm cr aG hk=>?_) λx aZ=>bU aZ;have fE:=hQ.ta hk nc.obj jw;have vW:Step [] ae s d5 s':=Step.Au (Y:=[it,C]) fk (zm fr dC) dT λb o e n=>hk b o e (pa n).1;exact QW d5 s' C dj bm vW.fW vW oj.ji dC (fE.out _ (List.mem_singleton_self _)) fE.ns
   .refine xC ok.hand I1 nc l1 ub hy (λaZ=>bU aZ.symm) λlC aZ s' eJ bm bh hk bo tD=>?_;have aZ:=Option.some.inj aZ;subst aZ;have fE:=hQ.ta hk nc.obj jw;refine HO tD (K.Zp _ K.kind _ _ _ _ _ _ _ _ lv bm fE bo p7 _ _ λs5 jM gV kZ=>K.tests _ K.kind _ _ _ _ _ _ _ lv jM kZ t0 _ _ λyF j0 rt k2=>?_);have EC:=((dT.trans (bh.wide (kg (.head _)))).trans (gV.wide (kg (.tail _ (.head _))))).trans k2.fW;have El:=tD.step gV fE.gy l1 jw;have y1:=El.step k2 (.nil _) l1 List.not_mem_nil;have CB:¬foot yF it:=fZ El.obj λo vs aG _ _=>k2.out aG l1;have zb:aO yF j0.heap (.ref D.length) (.ref dj):=(oj.ji.step gV fE.gy).bx k2;have y8:=kZ.bx k2
    cases b with
    | false=>exact ⟨n,Nat.lt_succ_self n,yF,a6,hL,k+1,rt,EC,y8,y1,CB,zb,du⟩
    | true=>
     refine KP du λy e8 z jI AI mA hx=>?_;refine K.elt _ K.kind _ _ _ _ _ _ _ lv rt y8 AI _ _ λaas kO aaD y0 tI za=>?_;refine cw.app (d:=c.d) _ _ _ _ _ _ _ _ ok y0 (.cons (zb.bx tI) (.cons za .nil)) mA _ _ λDI iX FJ vN vV Ey=>?_;have tJ:=tI.trans vV;exact ⟨n,Nat.lt_succ_self n,DI,jI,hL,k+1,vN,EC.trans tJ.fW,y8.bx tJ,y1.step tJ (.nil _) CB List.not_mem_nil,fZ y1.obj λo vs aG _ _=>tJ.out aG CB,zb.bx tJ,hx⟩
 exact codeAny_compStart_list main (SI (nb.step nh (.nil _) (I.lr fr) List.not_mem_nil) main)
theorem Cv {scope:Scope} (h:iJ scope.names=true):∀x∈scope.names,x.2=.local->scope.names.lookup x.1=some .local:=λx ax aW=>by
 refine cH (List.getElem?_of_mem ax) λk hk=>?_;simp only [iJ,Bool.and_eq_true,decide_eq_true_eq] at h;obtain ⟨n,bO⟩:=x;dsimp only at aW;subst aW;exact B7 h.1 hk
theorem Ev.comp {scope:Scope} {cap:Bool} {pl:List (Option Nat)} {gi elt hD:Expr} {ifs:List Expr} {pos:Pos} {g:f5} {t:dp} {f gI:bK} {N:Nat} {fz:Bool} (K:yJ B c scope cap pl gi ifs elt g t f) (aj:Ev B c hD gI) (hs:∀x,foldedSetIterable hD c.env x=pure x:=by intro _;rfl):
  Ev B c (.ListComp elt [⟨gi,hD,ifs,0⟩] scope pos) (e' fz gI pl g t f N):=λA ae D ag s v al ok I L e Q E h=>by
 refine cg (λw fX av=>ds λaJ=>bZ λaY aC bN=>?_) e;rw [eval_ListComp];refine wpAny_comprehension_free (use:=none) rfl hs K.wk K.kind (Cv K.good) (aj _ _ _ _ _ _ _ ok I L av _ E λm6 s0 cv gU g9 cy=>BV gU cy aJ λs2 it fk fr nb=>
  FE (RR:=λbi C=>compPost (model br B.w) A E none Q bi C) K ok gU (L.bx g9) fk fr nb aC λbt s' C dj bm dT c8 bo dC uW jt=>?_)
 refine gk (Go bN bm bo) λlD d0 c9 el=>?_;revert jt;refine d7 λm aP=>?_;refine ⟨m,aP,λh' c7=>?_⟩;have xB:¬foot lD C:=gk (xE aP) λxI sa _ _=>c9.out sa uW;refine iz (Ak (v:=v) (cv:=.ref dj) (Z:=[]) (gU.b0 dC) d0 aP xB c7 (dT.trans c9.fW) fr dC) λhO gD y5=>?_;exact h _ _ _ hO (g9.trans gD) (y5 el)
theorem et.yj {scope:Scope} {cap:Bool} {pl:List (Option Nat)} {gi elt hD:Expr} {ifs:List Expr} {pos JV sX:Pos} {y:Str} {k:Nat} {g:f5} {t:dp} {f gI:bK} {N:Nat} {fz:Bool} (dr:c.names[k]? =some (y,.local)) (K:yJ B c scope cap pl gi ifs elt g t f) (aj:Ev B c hD gI)
  (RQ:swapsWith (.ListComp elt [⟨gi,hD,ifs,0⟩] scope pos) (some (.Name y sX)) JV.line c.env=pure true) (hs:∀x,foldedSetIterable hD c.env x=pure x:=by intro _;rfl):
  et B c (.Assign [.Name y sX] (.ListComp elt [⟨gi,hD,ifs,0⟩] scope pos) JV) (a1 k (e' fz gI pl g t f N)):=λA ae D ag s r bX al ok I L e Q E h=>by
 refine nX (λv ai hb p4=>?_) e;refine gx p4 h λh=>?_;clear p4;refine cg (λw fX av=>ds λaJ=>bZ λaY aC bN=>?_) hb;rw [exec_Assign_Name_used _ _ _ _ RQ];refine wpAny_bind (wpAny_standAt (wpAny_bind ?_));show wpAny _ A (do let _ <- comprehension (.ListComp elt [⟨gi,hD,ifs,0⟩] scope pos) scope c.env _ (newList []) false (eval hD c.env) (some (assign (.Name y sX) c.env))) _ _ s;refine wpAny_bind (wpAny_mono (wpAny_comprehension_free (use:=some (assign (.Name y sX) c.env)) (Q:=λ_ s'=>Q .next s') rfl hs K.wk K.kind (Cv K.good) (aj _ _ _ _ _ _ _ ok I L av _ E λm6 s0 cv gU g9 cy=>BV gU cy aJ λs2 it fk fr nb=>
  FE (RR:=λbi C=>compPost (model br B.w) A E (some (assign (.Name y sX) c.env)) (λ_ s'=>Q .next s') bi C) K ok gU (L.bx g9) fk fr nb aC λbt s' C dj bm dT c8 bo dC uW jt=>?_)) (λ_ s' bL=>wpAny_pure (wpAny_pure bL)) λ_ _ e=>e)
 refine gk (Go bN bm bo) λlD d0 c9 el=>?_;revert jt;refine d7 λm aP=>?_;have xB:¬foot lD C:=gk (xE aP) λxI sa _ _=>c9.out sa uW;have kY:Loc B c lD ag s'.heap:=(L.bx g9).bx (c8.trans c9);have jw:C∉c.X:=λmm=>a2 ((L.bx g9).gy C mm) λo aG _=>bU (dC.symm.trans aG);show wpAny _ A (assign (.Name y sX) c.env (.ref dj)) _ _ _;refine PyProof.Rows.assign_Name (vf dr (.inl rfl) d0 kY el λs5 jM gV kZ _=>?_);have Bn:s5.heap.Ns C m:=sN aP λo e=>gV.keep _ _ e xB jw;refine ⟨m,Bn,λh' c7=>?_⟩;refine iz (Ak (v:=.none) (cv:=.none) (gU.b0 dC) jM Bn xB c7 (((dT.trans c9.fW).wide λa bw=>List.mem_append_left c.X bw).trans (gV.wide λa bw=>List.mem_append_right [it,C] bw)) fr dC) λrt k2 _=>?_;exact h _ _ _ rt (g9.fW.trans k2) (Loc.off (s':={s5 with heap:=h'}) kZ (λb o e n=>(c7.2 b n).trans e) (xE Bn) jw) .nx
end
section
open PySem PySem.W PySem.W.X PyProof.Rows PySem.Calls PySem.SeqAt
open PySem.AutoSeq1 (wpAny_loadPart')
open PySem.MeetsSeq PySem.MeetsSeq2 PySem.MeetsSeq3
open Mine (br KT)
variable {B:db} {c:eC} {ae bt:eu} {D:am} {s s':Shared} {X:List Addr} {ag:List V} {d:Nat}
noncomputable def ru (A:Around) (s:Shared) (y x:Value) (b:Bool):Prop:=
 ∀(prog:Program) (w:World) (E:Value->Shared->Prop) (Q:Value->Shared->Prop),Q (.bool b) s->wpAny (model prog w) A (richCompare .Lt y x) Q E s
noncomputable def ll (e r:Nat->Bool) (n m:Nat):Nat->Nat->Bool
 | 0,_=>decide (n < m)
 | k+1,i=>if e i then ll e r n m k (i+1) else r i
theorem HZ {e r:Nat->Bool} {n m k i:Nat} (h:e i=true):ll e r n m (k+1) i=ll e r n m k (i+1):=if_pos h
theorem HY {e r:Nat->Bool} {n m k i:Nat} (h:e i=false):ll e r n m (k+1) i=r i:=if_neg (by rw [h];exact Bool.false_ne_true)
theorem TK (e r:Nat->Bool) (n m i:Nat):ll e r n m 0 i=decide (n < m):=rfl
theorem TN (l b:Addr) (items dk:Array Value) (n eY:Nat) (gY oy:Option Addr) (h5 pr:Array (Option Value)) (e r:Nat->Bool) (k:Nat):
  ∀i:Nat,min items.size dk.size - i=k->i<=min items.size dk.size->Meets (Builtin.«list.__eq__.loop» ⟨[.ref l,.ref b,rawInt i,rawInt 0],[]⟩)
   (λA R s=>s.heap.get? l=some {cls:=.type "list",dict:=gY,data:=.seq items n,slots:=h5}/\s.heap.get? b=some {cls:=.type "list",dict:=oy,data:=.seq dk eY,slots:=pr}/\
    (∀j (aj:j < items.size) (ao:j < dk.size),EqAt A.in1 s items[j] dk[j] (e j))/\(∀j (aj:j < items.size) (ao:j < dk.size),e j=false->ru A.in1 s items[j] dk[j] (r j))/\
    R (.ok (.ret (.bool (ll e r items.size dk.size k i)))) s):=by
 induction k with
 | zero=>
  intro i hk aJ prog w A R s h;obtain ⟨aw,g,d,tk,os⟩:=s;revert h;refine pK λaW aA cW aZ h=>?_
  wp_walk using wpAny_loadPart' aW,wpAny_loadPart' aA
  by_cases aj:i < items.size
  .have r9:items[((i:Nat):Int).toNat]? =some items[i]:=by simp [aj]
   have wJ:dk[((i:Nat):Int).toNat]? =none:=by simp;lia
   rw [r9,wJ]
   wp_walk using wpAny_loadPart' aW,wpAny_loadPart' aA
   have h':R (.ok (.ret (.bool (decide (items.size < dk.size))))) ⟨aw,g,d,tk,os⟩:=h;exact h'
  .have r9:items[((i:Nat):Int).toNat]? =none:=by simp;lia
   rw [r9]
   wp_walk using wpAny_loadPart' aW,wpAny_loadPart' aA
   have h':R (.ok (.ret (.bool (decide (items.size < dk.size))))) ⟨aw,g,d,tk,os⟩:=h;exact h'
 | succ k bJ=>
  intro i hk aJ prog w A R s h;obtain ⟨aw,g,d,tk,os⟩:=s;revert h;refine pK λaW aA cW aZ h=>?_
  wp_walk using wpAny_loadPart' aW,wpAny_loadPart' aA
  have cY:i < items.size:=by lia
  have Bm:i < dk.size:=by lia
  have r9:items[((i:Nat):Int).toNat]? =some items[i]:=by simp [cY]
  have wJ:dk[((i:Nat):Int).toNat]? =some dk[i]:=by simp [Bm]
  have bj:((i:Int)+1)=((i+1:Nat):Int):=by push_cast;rfl
  rw [r9,wJ];refine wpAny_bind (cW i cY Bm prog w _ _ ?_)
  cases gs:e i with
  | true=>
   have h':R (.ok (.ret (.bool (ll e r items.size dk.size k (i+1))))) ⟨aw,g,d,tk,os⟩:=by rw [HZ gs] at h;exact h
   wp_walk
   rw [bj];exact ⟨plainId_quiet plain_eq_loop _,codeAny_builtin entry_eq_loop (by
    rw [Around.under_plainId plain_eq_loop _];exact bJ (i+1) (by lia) (by lia) prog w A R _ ⟨aW,aA,cW,aZ,h'⟩)⟩
  | false=>
   have h':R (.ok (.ret (.bool (r i)))) ⟨aw,g,d,tk,os⟩:=by rw [HY gs] at h;exact h
   wp_walk using wpAny_loadPart' aW,wpAny_loadPart' aA
   rw [r9,wJ];dsimp only;refine wpAny_bind (aZ i cY Bm gs prog w _ _ ?_);exact wpAny_pure h'
theorem Ts (l b:Addr) (items dk:Array Value) (n eY:Nat) (gY oy:Option Addr) (h5 pr:Array (Option Value)) (e r:Nat->Bool):
  Meets (Builtin.«list.__lt__» ⟨[.ref l,.ref b],[]⟩)
   (λA R s=>s.heap.get? l=some {cls:=.type "list",dict:=gY,data:=.seq items n,slots:=h5}/\s.heap.get? b=some {cls:=.type "list",dict:=oy,data:=.seq dk eY,slots:=pr}/\
    (∀j (aj:j < items.size) (ao:j < dk.size),EqAt A.in1 s items[j] dk[j] (e j))/\(∀j (aj:j < items.size) (ao:j < dk.size),e j=false->ru A.in1 s items[j] dk[j] (r j))/\
    R (.ok (.ret (.bool (ll e r items.size dk.size (min items.size dk.size) 0)))) s):=by
 intro prog w A R s h;obtain ⟨aw,g,d,tk,os⟩:=s;revert h;refine pK λaW aA cW aZ h=>?_;have wy:=AutoSeq1.sub_list_list
 wp_walk using wpAny_loadPart' aW,wpAny_loadPart' aA
 exact ⟨plainId_quiet plain_eq_loop _,codeAny_builtin entry_eq_loop (by
  rw [Around.under_plainId plain_eq_loop _];exact TN l b items dk n eY gY oy h5 pr e r _ 0 rfl (Nat.zero_le _) prog w A R _ ⟨aW,aA,cW,aZ,by simpa using h⟩)⟩
theorem ZF (l b:Addr) (items dk:Array Value) (n eY:Nat) (gY oy:Option Addr) (h5 pr:Array (Option Value)) (e r:Nat->Bool):
  Meets (Builtin.«tuple.__lt__» ⟨[.ref l,.ref b],[]⟩)
   (λA R s=>s.heap.get? l=some {cls:=.type "tuple",dict:=gY,data:=.seq items n,slots:=h5}/\s.heap.get? b=some {cls:=.type "tuple",dict:=oy,data:=.seq dk eY,slots:=pr}/\
    (∀j (aj:j < items.size) (ao:j < dk.size),EqAt A.in1 s items[j] dk[j] (e j))/\(∀j (aj:j < items.size) (ao:j < dk.size),e j=false->ru A.in1 s items[j] dk[j] (r j))/\
    R (.ok (.ret (.bool (ll e r items.size dk.size (min items.size dk.size) 0)))) s):=
 .of_wp λprog w A R s h=>by
  obtain ⟨aw,g,d,tk,os⟩:=s;revert h;refine pK λaW aA cW aZ h=>?_;have f2:=AutoSeq1.sub_tuple_tuple;have GI:(items.toList.zip dk.toList).length=min items.size dk.size:=by simp
  wp_walk using wpAny_loadPart' aW,wpAny_loadPart' aA,wpAny_forIn_list _ (λfJ b s'=>b.1=none/\s'=⟨aw,g,d,tk,os⟩/\∃i,fJ=(items.toList.zip dk.toList).drop i/\i<=min items.size dk.size/\
   R (.ok (.ret (.bool (ll e r items.size dk.size (min items.size dk.size - i) i)))) ⟨aw,g,d,tk,os⟩) _
  case turn=>
   rintro ⟨y,x⟩ fJ b s' ⟨gs,rfl,i,hz,wN,js⟩
   have cY:i < (items.toList.zip dk.toList).length:=by
    rcases Nat.lt_or_ge i (items.toList.zip dk.toList).length with h' | h'
    .exact h'
    .rw [List.drop_of_length_le h'] at hz;cases hz
   have aP:i < min items.size dk.size:=GI▸cY;have aj:i < items.size:=Nat.lt_of_lt_of_le aP (Nat.min_le_left _ _);have ao:i < dk.size:=Nat.lt_of_lt_of_le aP (Nat.min_le_right _ _);rw [List.drop_eq_getElem_cons cY] at hz;injection hz with nF RK;have dr:y=items[i]:=by have:=congrArg Prod.fst nF;simpa using this
   have ax:x=dk[i]:=by have:=congrArg Prod.snd nF;simpa using this
   subst dr ax;obtain ⟨k,hk⟩:∃k,min items.size dk.size - i=k+1:=⟨min items.size dk.size - i - 1,by lia⟩;rw [hk] at js;refine wpAny_bind (cW i aj ao prog w _ _ ?_)
   cases dr:e i with
   | true=>
    wp_walk
    refine ⟨rfl,rfl,i+1,RK,by lia,?_⟩;have:min items.size dk.size - (i+1)=k:=by lia
    rw [this];rw [HZ dr] at js;exact js
   | false=>
    have QU:R (.ok (.ret (.bool (r i)))) ⟨aw,g,d,tk,os⟩:=by rw [HY dr] at js;exact js
    rw [if_pos (by rfl:(!false)=true)];refine wpAny_bind (wpAny_rule (wpAny_bind (aZ i aj ao dr prog w _ _ ?_)));refine wpAny_bind (wpAny_pure ?_)
    wp_walk
    exact ⟨_,rfl,QU⟩
  case fin=>
   rintro ⟨k5,jP⟩ s' ⟨gs,rfl,i,hz,wN,js⟩
   simp only at gs;subst gs;have GW:min items.size dk.size<=i:=by
    rcases Nat.lt_or_ge i (items.toList.zip dk.toList).length with h' | h'
    .rw [List.drop_eq_getElem_cons h'] at hz;cases hz
    .exact GI▸h'
   have:min items.size dk.size - i=0:=by lia
   rw [this] at js
   wp_walk
   exact ⟨_,rfl,by simpa [Builtin.Tuple.tupleCompareSizes,TK] using js⟩
  case h=>
   exact ⟨rfl,rfl,0,rfl,by lia,by simpa using h⟩
end
section
open PySem PySem.W PySem.W.X PyProof.Rows PySem.Calls PySem.SeqAt
open PySem.MeetsSeq PySem.MeetsSeq2 PySem.MeetsSeq3
open Mine (br KT)
variable {B:db} {c:eC} {ae bt:eu} {D:am} {s s':Shared} {X:List Addr} {ag:List V} {d:Nat}
noncomputable def hX (v:V):Bool:=(fV (λ_=>some ()) v).isSome
noncomputable def eX (v:V):Int:=(fV some v).getD 0
noncomputable def p0 (a b:V):Bool:=((hT [] a).bind λx=>(hT [] b).map λy=>PyData.eqv x y).getD false
noncomputable def B8 (l m:List V):Bool:=ll (λj=>p0 (l[j]?.getD .none) (m[j]?.getD .none)) (λj=>decide (eX (l[j]?.getD .none) < eX (m[j]?.getD .none))) l.length m.length (min l.length m.length) 0
noncomputable def oM (v:V):Bool:=(m4 (λl=>if l.all hX then some () else none) v).isSome
noncomputable def q7 (v:V):List V:=(m4 some v).getD []
noncomputable def tk (i:Nat) (v:V):V:=(q7 v)[i]?.getD .none
noncomputable def HX (l m:List V):Bool:=ll (λj=>p0 (l[j]?.getD .none) (m[j]?.getD .none)) (λj=>B8 (q7 (l[j]?.getD .none)) (q7 (m[j]?.getD .none))) l.length m.length (min l.length m.length) 0
noncomputable def kK (D:am) (a b:V):Option V:=(m3 (λl=>m3 (λm=>if l.all oM && m.all oM then some (.bool (HX l m)) else none) b) a).or (oLt D a b)
@[elab_as_elim] theorem wW {v:V} {K:V->Prop} (k:∀i,K (.int i)) (h:hX v=true):K v:=cH (Option.isSome_iff_exists.mp h) λ_ e=>vp (λi _=>k i) e
@[elab_as_elim] theorem BQ {v:V} {K:V->Prop} (k:∀l,l.all hX=true->K (.tup l)) (h:oM v=true):K v:=cH (Option.isSome_iff_exists.mp h) λ_ e=>DB (λl=>ds λq _=>k l q) e
theorem Ap {v:V} (h:hX v=true):∃x,hT [] v=some x/\x.depth<=50:=wW (λi=>⟨_,rfl,by simp [PyData.depth]⟩) h
theorem OK {l:List V}:l.all hX=true->∃x,kl [] l=some x/\PyData.depthAll x<=50:=by
 induction l with
 | nil=>exact λ_=>⟨[],rfl,by simp [PyData.depthAll]⟩
 | cons v l bJ=>
  intro h;refine a2 (Ap (an h).1) λx av eK=>?_;refine a2 (bJ (an h).2) λy aC fO=>?_;exact ⟨x::y,by show (hT [] v).bind _=_;rw [av,aC];rfl,by rw [PyData.depthAll];exact Nat.max_le.mpr ⟨eK,fO⟩⟩
theorem FT {v:V} (h:oM v=true):∃x,hT [] v=some x/\x.depth<=100:=
 BQ (λl bw=>a2 (OK bw) λx e gY=>⟨.tuple x,congrArg (Option.map _) e,by rw [PyData.depth];lia⟩) h
theorem Gb {A:Around} {a b:V} {b3 cJ:Value} {x y:PyData} (iK:A.units+100 < cLine) (b2:aO ae s.heap a b3) (b':aO ae s.heap b cJ) (av:hT [] a=some x) (aC:hT [] b=some y) (aaG:x.depth<=100):EqAt A s b3 cJ (p0 a b):=by
 refine cq (rN b2 av) λbd cz=>?_;revert bd;refine d7 λas aj=>?_;refine cq (rN b' aC) λbd dB=>?_;revert bd;refine d7 λbZ ao=>?_;have:p0 a b=PyData.eqv x y:=by unfold p0;rw [av,aC];rfl
 rw [this];exact eqAt_reads _ _ _ _ _ _ _ _ aj ao cz dB (by have:=Nat.min_le_left x.depth y.depth;lia)
theorem TM {A:Around} {a b:V} {b3 cJ:Value} (b2:aO ae s.heap a b3) (b':aO ae s.heap b cJ) (cf:hX a=true) (kz:hX b=true):ru A s b3 cJ (decide (eX a < eX b)):=by
 intro prog w E Q;revert b2;refine wW (λi b2=>?_) cf;revert b';refine wW (λj b' h=>?_) kz;refine aO.e3 ?_ b2;clear b2;intro _;refine aO.e3 ?_ b';clear b';intro _;show wpAny _ _ (compareOp .Lt _ _) _ _ _;exact PyProof.Rows.lt_int h
theorem oD {l:List V} {items:List Value} (len:l.length=items.length) (aZ:∀(k:Nat) (v:V) (cv:Value),l[k]? =some v->items[k]? =some cv->aO ae s.heap v cv) (j:Nat) (aX:j < items.toArray.size):l[j]? =some (l[j]?.getD .none)/\aO ae s.heap (l[j]?.getD .none) (items.toArray[j]):=by
 have aj:j < items.length:=by simpa using aX
 have ao:j < l.length:=by lia
 have e:l[j]? =some l[j]:=List.getElem?_eq_getElem ao;rw [e];refine ⟨rfl,aZ j _ _ e ?_⟩;simp [aj]
theorem TO {A:Around} {a b:V} {b3 cJ:Value} (iK:A.units+101 < cLine) (b2:aO ae s.heap a b3) (b':aO ae s.heap b cJ) (cf:oM a=true) (kz:oM b=true):ru A s b3 cJ (B8 (q7 a) (q7 b)):=by
 intro prog w E Q;revert b2;refine BQ (λl cf b2=>?_) cf;revert b';refine BQ (λm kz b' h=>?_) kz;rw [List.all_eq_true] at cf kz;refine aO.e3 ?_ b2;clear b2;intro items ad cT cd aA aW aZ;refine aO.e3 ?_ b';clear b';intro dk wc Ia sd uk jb mE;revert cd;refine hN λo aG bj ci=>?_;revert ci;refine d7 λn bn=>?_;revert sd;refine hN λa4 he jT ci=>?_;revert ci;refine d7 λeY r8=>?_;refine richCompare_meets_room (op:=.Lt) ⟨o,aG,bj⟩ ⟨a4,he,jT⟩ F.slot_tuple_lt F.entry_tuple_lt (F.args_tuple_lt_2 _ _)
  (ZF ad wc items.toArray dk.toArray n eY o.dict a4.dict o.slots a4.slots (λj=>p0 (l[j]?.getD .none) (m[j]?.getD .none)) (λj=>decide (eX (l[j]?.getD .none) < eX (m[j]?.getD .none)))) ?_ (by lia)
 refine ⟨by rw [aG,<- bj,<- bn],by rw [he,<- jT,<- r8],λj aj ao=>?_,λj aj ao _=>?_,?_⟩
 .refine cq (oD aW aZ j aj) λav r1=>?_;refine cq (oD jb mE j ao) λaC cp=>?_;have eE:hX (l[j]?.getD .none)=true:=cf _ (List.mem_of_getElem? av);have ky:hX (m[j]?.getD .none)=true:=kz _ (List.mem_of_getElem? aC);refine a2 (Ap eE) λx c6 eK=>?_;refine a2 (Ap ky) λy dt fO=>?_;exact Gb (by simp only [Around.in1];lia) r1 cp c6 dt (by lia)
 .refine cq (oD aW aZ j aj) λav r1=>?_;refine cq (oD jb mE j ao) λaC cp=>?_;exact TM r1 cp (cf _ (List.mem_of_getElem? av)) (kz _ (List.mem_of_getElem? aC))
 .simp only [List.size_toArray,<- aW,<- jb];exact ⟨by simp,h⟩
theorem TL {A:Around} {l m:List V} {b3 cJ:Value} (iK:A.units+102 < cLine) (b2:aO ae s.heap (.ap l) b3) (b':aO ae s.heap (.ap m) cJ) (cf:l.all oM=true) (kz:m.all oM=true):ru A s b3 cJ (HX l m):=by
 intro prog w E Q h;rw [List.all_eq_true] at cf kz;refine aO.e3 ?_ b2;clear b2;intro items ad cT cd aA aW aZ;refine aO.e3 ?_ b';clear b';intro dk wc Ia sd uk jb mE;revert cd;refine hN λo aG bj ci=>?_;revert ci;refine d7 λn bn=>?_;revert sd;refine hN λa4 he jT ci=>?_;revert ci;refine d7 λeY r8=>?_;refine richCompare_meets_room (op:=.Lt) ⟨o,aG,bj⟩ ⟨a4,he,jT⟩ F.slot_list_lt F.entry_list_lt (F.args_list_lt_2 _ _)
  (Ts ad wc items.toArray dk.toArray n eY o.dict a4.dict o.slots a4.slots (λj=>p0 (l[j]?.getD .none) (m[j]?.getD .none)) (λj=>B8 (q7 (l[j]?.getD .none)) (q7 (m[j]?.getD .none)))) ?_ (by lia)
 refine ⟨by rw [aG,<- bj,<- bn],by rw [he,<- jT,<- r8],λj aj ao=>?_,λj aj ao _=>?_,?_⟩
 .refine cq (oD aW aZ j aj) λav r1=>?_;refine cq (oD jb mE j ao) λaC cp=>?_;refine a2 (FT (cf _ (List.mem_of_getElem? av))) λx c6 eK=>?_;refine a2 (FT (kz _ (List.mem_of_getElem? aC))) λy dt fO=>?_;exact Gb (by simp only [Around.in1];lia) r1 cp c6 dt eK
 .refine cq (oD aW aZ j aj) λav r1=>?_;refine cq (oD jb mE j ao) λaC cp=>?_;exact TO (by simp only [Around.in1];lia) r1 cp (cf _ (List.mem_of_getElem? av)) (kz _ (List.mem_of_getElem? aC))
 .simp only [List.size_toArray,<- aW,<- jb];exact ⟨by simp,h⟩
theorem UQ:ew B d (compareOp .Lt) kK:=λA ae D s a b b3 cJ v ok I b2 b' e Q E h=>by
 refine dM (λe=>?_) (λe=>Iu b2 b' e h) e;revert b2;refine vn (λl e b2=>?_) e;revert b';refine vn (λm e b'=>?_) e;refine ds (λq e=>c1 e h λh=>?_) e;exact TL (by have:=ok.vk;unfold cLine;lia) b2 b' (an q).1 (an q).2 br B.w E Q (h _ _ (.refl _) (.bool _))
noncomputable def hG (_:am):V->V->Option V:=hJ λa b=>some (.int (a+b))
theorem R7:ew B d (inplaceOp .Add) hG:=λA ae D s a b b3 cJ v ok I b2 b' e Q E h=>
 h7 (λi t j bA e=>c1 e h λh=>PyProof.Rows.iadd_int (h _ _ .toks (.int _ _))) e b2 b'
theorem R8:ew B d (inplaceOp .Sub) eA:=λA ae D s a b b3 cJ v ok I b2 b' e Q E h=>
 h7 (λi t j bA e=>c1 e h λh=>PyProof.Rows.isub_int (h _ _ .toks (.int _ _))) e b2 b'
end
section
open PySem PySem.W PySem.W.X PyProof.Rows PySem.Calls PySem.SeqAt
open Mine (br KT)
variable {B:db} {c:eC} {ae bt:eu} {D:am} {s s':Shared} {X:List Addr} {ag:List V} {d:Nat}
noncomputable def se (v:V):Bool:=((fV (λ_=>some ()) v).or (gA (λl=>if l.length<=big then some () else none) v)).isSome
noncomputable def aH (dA:V×V):V:=.tup [dA.1,dA.2]
noncomputable def tW (kb:Nat):bK:=λag D=>(ag[kb]?).bind λv=>(nr D v).bind λp=>if p.2.all (λdA=>se dA.1) then some (.ap (p.2.map aH),D.set p.1 .bB++[.bB]) else none
theorem S6 {h:Heap} {v:V} {cv:Value} {k:er} {w:World} (e:je v=some k) (hk:(l0 br w).is k cv=true) (ok:se v=true):aO ae h v cv:=by
 refine cH (Option.isSome_iff_exists.mp ok) λ_ ok=>?_;revert e;refine dM (λok=>?_) (λok=>?_) ok
 .refine vp (λi _=>My.s1 λy=>?_) ok;subst y;refine cH (Value.isInt_shape (show Value.isInt _ cv=true from hk)) λt bl=>?_;subst bl;exact .int _ _
 .refine vu (λl ok=>ds (λaA _=>My.s1 λy=>?_) ok) ok;subst y;refine cH (Value.isStrOf_shape (show Value.isStrOf _ cv=true from hk)) λt bl=>?_;subst bl;exact .str _ _ _ rfl aA
theorem Ij (I:Inv B ae D s) {i:Nat} {q:Addr×Addr} (bL:ae[i]? =some (some q)):¬foot (ae.set i none) q.1:=λf=>by
 revert f;refine lF λj p bH h=>?_
 by_cases gK:i=j
 .subst gK;rw [List.getElem?_set] at bH;simp at bH
 .rw [List.getElem?_set_ne gK] at bH;have dH:=I.apart i j q p bL bH gK;rcases h with h | h
  .exact dH.1 h
  .exact dH.2.1 h
theorem Loc.YN {k:Nat} {x:Str} {bO:NameKind} {v tf:V} (L:Loc B c ae ag s.heap) (ax:c.names[k]? =some (x,bO)) (aW:nH bO=true) (aI:ag[k]? =some v) (dD:v≠.u)
  (aZ:∀cv,aO ae s.heap v cv->aO ae s.heap tf cv):Loc B c ae (ag.set k tf) s.heap:=by
 refine ⟨L.good,L.ns,λj y lW bA aj ao aL cm=>?_,L.cell,L.inj,L.out,L.fresh,L.gy⟩
 by_cases aX:k=j
 .subst aX;rw [ax] at aj;revert aj;refine s2 λbd bl=>?_;subst bd;subst bl;have:=(List.getElem?_eq_some_iff.mp aI).1;rw [List.getElem?_set_self this] at aL;revert aL;refine s1 λbd=>?_;subst bd
  cases L.held k x bO v ax aW aI dD with
  | loc cv av aC=>exact .loc cv av (aZ _ aC)
  | cell a cv bO hk av aC bN du=>exact .cell a cv bO hk av aC bN (aZ _ du)
 .rw [List.getElem?_set_ne aX] at aL;exact L.held j y lW bA aj ao aL cm
theorem ZZ {bT:List (er×Value)} (a3:(bT.map (·.1)).Nodup) {k:Nat} {x:er} {v:Value} (h:bT[k]? =some (x,v)):valueAt bT x=some v:=by
 unfold valueAt;have:bT.find? (λdA=>decide (dA.1=x))=some (x,v):=by
  rw [List.find?_eq_some_iff_getElem];obtain ⟨cY,cW⟩:=List.getElem?_eq_some_iff.mp h;refine ⟨by simp,k,cY,cW,λj aX=>?_⟩;have Rs:j < bT.length:=by lia
  simp only [decide_eq_true_eq,Bool.not_eq_true',decide_eq_false_iff_not];intro q;have aj:(bT.map (·.1))[j]'(by simpa using Rs)=(bT.map (·.1))[k]'(by simpa using cY):=by
   simp only [List.getElem_map,cW];exact q
  have:=(List.getElem_inj a3).mp aj;lia
 simpa using congrArg (Option.map (·.2)) this
structure rf (B:db) (q it dj:Addr) (bT:List (er×Value)) (d9 k:Nat) (l:List (V×V)) (j:Nat) (ae:eu) (h:Heap):Prop where
 da:h.DictAt (l0 br B.w) q bT d9
 at_:h.IsKeyIter it q k bT.length d9
 cT:¬foot ae it
 CD:¬foot ae q
 xX:aO ae h (.ref j) (.ref dj)
 iH:e9 ae h l bT
theorem rf.step {q it dj:Addr} {bT:List (er×Value)} {d9 k j:Nat} {l:List (V×V)} (T:rf B q it dj bT d9 k l j ae s.heap) (S:Step X ae s bt s') (p:hq X s.heap) (e5:it∉X) (eY:q∉X):rf B q it dj bT d9 k l j bt s'.heap:=
 hn T.da λo es aG r=>a2 T.at_ λa4 he cp=>⟨⟨o,es,S.keep _ _ aG T.CD eY,r⟩,⟨a4,S.keep _ _ he T.cT e5,cp⟩,S.out he T.cT,S.out aG T.CD,T.xX.step S p,T.iH.step S p⟩
theorem Ox {h:Heap} {w:World} {q:Addr} {bT:List (er×Value)} (d:h.DictOf (l0 br w) q bT):∃d9,h.DictAt (l0 br w) q bT d9:=
 kW d λo es d9 aG r=>⟨d9,o,es,aG,r⟩
theorem Ev.Oi {scope:Scope} {pl:List (Option Nat)} {key oo:Str} {Jk I2 I5 xQ I6 qR C6 pos:Pos} {HI:Nat} {kk kb qx:Nat}
  (kind:scope.kind=.function) (good:iJ scope.names=true) (uZ:scope.names.all (λp=>!(p.2 == .cell))=true) (sS:qS (relabel scope c.env).names c.names=pl)
  (u0:(relabel scope c.env).names.all (λp=>!(p.2 == .free))=true) (cells:(relabel scope c.env).names.all (λp=>if p.2 == .cell then true && c.names.contains p else true)=true)
  (wk:closureFor scope c.env=pure (pW c true)) (lU:(relabel scope c.env).names[kk]? =some (key,.local)) (Bi:(relabel scope c.env).names[kb]? =some (oo,.cell))
  (GP:c.names[qx]? =some (oo,.cell)) (RC:pl[kb]? =some (some qx)) (fB:kk≠kb)
  (hs:∀x,foldedSetIterable (.Name oo C6) c.env x=pure x:=by intro _;rfl):
  Ev B c (.ListComp (.Tuple [.Name key I2,.Subscript (.Name oo I5) (.Name key xQ) I6] HI qR) [⟨.Name key Jk,.Name oo C6,[],0⟩] scope pos) (tW qx):=λA ae D ag s v al ok I L e Q E h=>by
 refine bZ (λbA dD=>cg λi l av=>ds λRx e=>a4 e h λh=>?_) e;have Hg:bA≠.u:=λz=>by rw [z] at av;exact bU av
 rw [eval_ListComp];refine wpAny_comprehension_free (use:=none) rfl hs wk kind (Cv good) (Ev.var GP rfl _ _ _ _ _ _ _ ok I L (wv dD Hg) _ E λm6 s0 cv gU g9 cy=>?_);refine rg (rP gU cy av) λq bT aV aJ bL mi ie bn aZ oL=>?_;subst aV;subst mi;refine cH (Ox bn) λd9 qf=>?_;have zf:Step [] m6 s0 (m6.set i none) s0:=q5;have vR:=L.bx g9;have hQ:Loc B c (m6.set i none) (ag.set qx (.con (.ref q.1))) s0.heap:=(Loc.YN vR GP rfl dD Hg (λcv r=>by
  refine aO.e3 ?_ r;clear r;intro a _ RH;rw [RH q bL];exact .con _)).bx zf
 have wH:(ag.set qx (.con (.ref q.1)))[qx]? =some (.con (.ref q.1)):=List.getElem?_set_self (List.getElem?_eq_some_iff.mp dD).1;have If:=gU.freeze i;have He:e9 (m6.set i none) s0.heap l bT:=aZ.step zf (.nil _);have Ib:=Ij gU bL;have EB:=g9.trans zf;generalize m6.set i none=yG at hQ If He Ib EB;generalize D.set i .bB=g8 at If h;generalize ag.set qx (.con (.ref q.1))=Kw at hQ wH;refine wpAny_pyIter_dict oL qf ?_;have fk:ce s0 {s0 with heap:=s0.heap.push {cls:=.type "dict_keyiterator",data:=.fields #[.ref q.1,.int 0 0,.int bT.length 0,.int d9 0]}}:=.push _ _;have wK:({s0 with heap:=s0.heap.push {cls:=.type "dict_keyiterator",data:=.fields #[.ref q.1,.int 0 0,.int bT.length 0,.int d9 0]}}:Shared).heap.IsKeyIter s0.heap.objs.size q.1 0 bT.length d9:=⟨_,Heap.get?_push_size _ rfl,rfl,rfl⟩;have fr:=f7 s0;generalize ({s0 with heap:=s0.heap.push {cls:=.type "dict_keyiterator",data:=.fields #[.ref q.1,.int 0 0,.int bT.length 0,.int d9 0]}}:Shared)=s2 at fk wK ⊢;generalize s0.heap.objs.size=it at wK fr ⊢;refine FG (cap:=true) kind uZ good sS u0 cells (If.ext fk) (hQ.bx (fk.step (X:=[]) (ae:=yG))) λs4 C dj od hO nh zj y9 pR ue=>?_;have dC:=fk.none ue;have ub:=gU.b0 fr;have EG:rf B q.1 it dj bT d9 0 l g8.length od s4.heap:=
  hn qf λo es aG r=>a2 wK λa4 he cp=>⟨⟨o,es,zj.keep _ _ (fk.keep _ _ aG),r⟩,⟨a4,zj.keep _ _ he,cp⟩,nh.out he (If.lr fr),nh.out (fk.keep _ _ aG) Ib,pR,(He.step (fk.step (X:=[]) (ae:=yG)) (.nil _)).step nh (.nil _)⟩
 have Bf:it≠C:=λq=>a2 wK λo aG _=>by rw [q,ue] at aG;exact bU aG
 have OO:q.1≠it:=λz=>hn qf λo es aG _=>by rw [z,fr] at aG;exact bU aG
 have ov:q.1≠C:=λz=>hn qf λo es aG _=>by rw [z,dC] at aG;exact bU aG
 have Q6:(gR pl Kw)[kb]? =some (.con (.ref q.1)):=by
  unfold gR;rw [List.getElem?_map,RC];simp only [Option.map_some];rw [List.getD_eq_getElem?_getD,wH];rfl
 have kv:kk < (gR pl Kw).length:=by
  unfold gR;rw [List.length_map,<- sS];unfold qS;rw [List.length_map];exact (List.getElem?_eq_some_iff.mp lU).1
 have Bj:(gF c scope true C kind).names[kk]? =some (key,.local):=lU;have Ru:(gF c scope true C kind).names[kb]? =some (oo,.cell):=Bi;have lv:eU (gF c scope true C kind).d A:=ok;have jw:it∉(gF c scope true C kind).X:=λm=>Bf (List.mem_singleton.mp m);have OI:q.1∉(gF c scope true C kind).X:=λm=>ov (List.mem_singleton.mp m);have main:codeAny (model br B.w) A (.compLoop (.ListComp (.Tuple [.Name key I2,.Subscript (.Name oo I5) (.Name key xQ) I6] HI qR) [⟨.Name key Jk,.Name oo C6,[],0⟩] scope pos) 0 (.ref it) (.ref dj) (gF c scope true C kind).env)
   (compPost (model br B.w) A E none Q (.ref dj) C) s4:=by
  refine FC (λn s1=>∃d5 hL k,n=l.length - k/\k<=l.length/\Inv B d5 (g8++[.list ((l.take k).map aH)]) s1/\Step [it,C] yG s2 d5 s1/\Loc B (gF c scope true C kind) d5 hL s1.heap/\
    hL[kb]? =some (.con (.ref q.1))/\kk < hL.length/\rf B q.1 it dj bT d9 k l g8.length d5 s1.heap) ?_ l.length
   ⟨_,_,0,rfl,Nat.zero_le _,hO,nh.fW,y9,Q6,kv,EG⟩
  intro n s1;refine yU λd5 hL k n' G1 I1 dT Er GO ij i8=>?_;subst n';intro cP;have Bw:∃o vs,s1.heap.get? it=some o/\o.data=.fields vs/\fS o=true:=
   gk i8.at_ λo aG bj bn=>⟨o,_,aG,bn,by unfold fS;rw [bn,bj];rfl⟩
  have aB:hq [it] s1.heap:=fZ Bw λo vs aG _ aw=>kg ⟨o,aG,aw⟩
  cases ax:bT[k]? with
  | none=>
   have Rt:k=l.length:=Nat.le_antisymm G1 (i8.iH.len▸List.getElem?_eq_none_iff.mp ax);refine wpAny_pyNext_dict_end ok.hand i8.at_ i8.da ax λh' c7=>?_;have hk:∀b o,s1.heap.get? b=some o->b≠it->h'.get? b=some o:=λb o e n=>c7 b o n e;have bm:Inv B d5 (g8++[.list ((l.take k).map aH)]) {s1 with heap:=h'}:=I1.it aB i8.cT ub hk rfl rfl;have fE:Loc B (gF c scope true C kind) d5 hL h':=Er.ta (s':={s1 with heap:=h'}) hk Bw jw;have vW:Step [] yG s0 d5 {s1 with heap:=h'}:=Step.Au (Y:=[it,C]) fk (zm fr dC) dT λb o e n=>hk b o e (pa n).1;rw [Rt,List.take_length] at bm;have Rk:(g8++[az.list (l.map aH)])[g8.length]? =some (.list (l.map aH)):=by simp
   have Ej:=bm.freeze g8.length;have Rg:(g8++[az.list (l.map aH)]).set g8.length .bB=g8++[.bB]:=by simp
   rw [Rg] at Ej;refine cH fE.ns λm aP=>?_;have aP:h'.Ns C m:=aP;refine ⟨m,aP,λao YB=>?_⟩;refine iz (Ak (s':={s1 with heap:=h'}) (Z:=[]) (v:=.ap (l.map aH)) (cv:=.ref dj) (gU.b0 dC) Ej aP (λf=>fE.out _ (List.mem_singleton_self _) (Gv f)) YB ((vW.trans q5).fW) fr dC) λLu LI y5=>?_;exact h _ _ _ Lu (EB.trans LI) (y5 (bm.AR Rk i8.xX.ji))
  | some aaj=>
   obtain ⟨x,yC⟩:=aaj;have wM:k < l.length:=i8.iH.len▸(List.getElem?_eq_some_iff.mp ax).1;have jW:l[k]? =some l[k]:=List.getElem?_eq_getElem wM;refine cq (i8.iH.at_ k _ _ jW ax) λuo RU=>?_;have wQ:se l[k].1=true:=List.all_eq_true.mp Rx _ (List.getElem_mem _);generalize l[k]=lk at jW uo RU wQ;refine wpAny_pyNext_dict_item i8.at_ i8.da ax λaaQ h' Rv lT c7=>?_;have hk:∀b o,s1.heap.get? b=some o->b≠it->h'.get? b=some o:=λb o e n=>(c7.2 b n).trans e;have bm:Inv B d5 (g8++[.list ((l.take k).map aH)]) {s1 with heap:=h'}:=I1.it aB i8.cT ub hk rfl rfl;have bh:Step [it] d5 s1 d5 {s1 with heap:=h'}:=JX hk (a2 lT λo aG _=>⟨o,aG⟩);have fE:Loc B (gF c scope true C kind) d5 hL h':=Er.ta (s':={s1 with heap:=h'}) hk Bw jw;have LL:rf B q.1 it dj bT d9 (k+1) l g8.length d5 ({s1 with heap:=h'}:Shared).heap:=⟨hn i8.da λo es aG r=>⟨o,es,hk _ _ aG OO,r⟩,lT,i8.cT,i8.CD,i8.xX.ji,i8.iH.step bh aB⟩;refine wpAny_pure (lE.name Bj rfl _ _ _ _ _ _ _ _ lv bm fE (S6 uo Rv wQ) rfl _ _ λs5 jM gV kZ=>?_);refine wpAny_tests_nil ?_;rw [if_pos rfl];have c8:=(dT.trans (bh.wide (Y:=[it,C]) (kg (.head _)))).trans (gV.wide (Y:=[it,C]) (kg (.tail _ (.head _))));have EH:=LL.step gV fE.gy jw OI;have AZ:(hL.set kk lk.1)[kb]? =some (.con (.ref q.1)):=by rw [List.getElem?_set_ne fB];exact GO
   have Bh:(hL.set kk lk.1)[kk]? =some lk.1:=List.getElem?_set_self ij;have G0:kk < (hL.set kk lk.1).length:=by rw [List.length_set];exact ij
   have G2:lk.1≠.u:=λz=>by rw [z] at uo;exact bU uo
   generalize hL.set kk lk.1=aa2 at kZ AZ Bh G0;refine wpAny_Tuple (args_cons (Ev.var Bj rfl _ _ _ _ _ _ _ lv jM kZ (wv Bh G2) _ _ λyF j0 rI rt k2 tH=>args_cons (Subscript_ (Ev.var Ru rfl _ _ _ _ _ _ _ lv rt (kZ.bx k2) (wv AZ (λz=>by cases z)) _ _ λaas kO cJ y0 tI za=>?_))));have y:=aO.Ol za;subst y;have ED:=k2.trans tI;refine Ev.var Bj rfl _ _ _ _ _ _ _ lv y0 (kZ.bx ED) (wv Bh G2) _ _ λDI iX aaB vN vV Ey=>?_;have EE:=ED.trans vV;have ry:=EH.step EE (.nil _) List.not_mem_nil List.not_mem_nil;have RV:=(ry.iH.at_ k _ _ jW ax).2;refine vg (M:=model br B.w) ry.da.dictOf.typeIs PySem.F.slot_dict_getitem.lookup (wpAny_getItem_of (w2 (w:=B.w) Ey uo) ry.da.dictOf.mapOf (ZZ ry.da.nodup ax) ?_) rfl;refine args_nil ⟨by unfold sizeLine;simp,?_⟩;have X:ce iX {iX with heap:=iX.heap.push {cls:=.type "tuple",data:=.seq [rI,yC].toArray},toks:=iX.toks+1}:=(ce.toks (k:=iX.toks+1)).trans (.push {iX with toks:=iX.toks+1} _);have LF:aO DI (iX.heap.push {cls:=.type "tuple",data:=.seq [rI,yC].toArray}) (aH lk) (.ref iX.heap.objs.size):=
    .tup [lk.1,lk.2] [rI,yC] _ (vN.lr (f7 iX)) ⟨_,Heap.get?_push_size _ rfl,rfl,0,rfl⟩ (by unfold big;simp) rfl
     (cC.cons ((tH.bx (tI.trans vV)).bx X.step) (.cons (RV.bx X.step) .nil)).at_
   have Q5:c0 [.ref g8.length,aH lk] (g8++[.list ((l.take k).map aH)])=some (.none,g8++[.list ((l.take (k+1)).map aH)]):=by
    have RN:=ry.iH.small;have e:kN (λi l=>some (i,l)) (g8++[.list ((l.take k).map aH)]) (.ref g8.length)=some (g8.length,(l.take k).map aH):=by
     show ((g8++[az.list ((l.take k).map aH)])[g8.length]?).bind _=_;rw [List.getElem?_append_right (Nat.le_refl _),Nat.sub_self];rfl
    show (kN (λi l=>some (i,l)) (g8++[.list ((l.take k).map aH)]) (.ref g8.length)).bind _=_;rw [e,List.take_add_one,List.map_append,jW];refine (if_pos ?_).trans ?_
    .rw [List.length_map,List.length_take,Nat.min_eq_left G1];exact Nat.le_trans wM RN
    .simp
   refine cw.app (d:=c.d) _ _ _ _ _ _ _ _ ok (vN.ext X) (.cons (ry.xX.bx X.step) (.cons LF .nil)) Q5 _ _ λaat JB FJ Lv LJ aay=>?_;have ze:=EE.trans (X.step.trans LJ);exact ⟨l.length - (k+1),Nat.sub_succ_lt_self _ _ wM,aat,_,k+1,rfl,wM,Lv,c8.trans ze.fW,kZ.bx ze,AZ,G0,EH.step ze (.nil _) List.not_mem_nil List.not_mem_nil⟩
 exact codeAny_compStart_list main (wpAny_pyIter_keyiter EG.at_ main)
end
section
open PySem PySem.W PySem.W.X PyProof.Rows PySem.Calls PySem.SeqAt
open PySem.AutoSeq1 (wpAny_loadPart')
open Mine (br KT)
variable {B:db} {c:eC} {ae bt:eu} {D:am} {s s':Shared} {X:List Addr} {ag:List V} {d:Nat}
section
variable {prog:Program} {w:World} {A:Around} {E:Value->Shared->Prop} {s:Shared} {K:Type} [DecidableEq K] {knd:KeyKind prog w K}
theorem Ro {r:Addr} {Q:Bool->Shared->Prop} (aP:(r == sysModules)=false) (aZ:s.heap.DictOf knd r [])
  (h:Q false s):wpAny (model prog w) A (Builtin.List.listLengthHint (.ref r)) Q E s:=by
 have ig:=aZ.typeIs;unfold Builtin.List.listLengthHint;refine wpAny_bind (wpAny_specialOf ig F.slot_dict_len.lookup ?_);generalize GX:("dict.__len__" :String)=R'
 wp_delta
 rw [show splitId R'=some ("dict","__len__") from by subst GX;decide+kernel];subst GX;refine wpAny_bind (wpAny_isInstance (T:="dict") (b:=true) ig (by rw [isSubtype_type];rfl') ?_);refine wpAny_ite_split (λAW=>absurd AW (by decide)) (λ_=>?_);refine wpAny_ite_split (λ_=>?_) (λAW=>absurd (by decide+kernel) AW);exact wpAny_bind (wpAny_typeOf (T:="dict") ig (wpAny_pure h))
theorem Qf {R:Result->Shared->Prop} {r:Addr} (hh:A.handled=none) (aP:(r == sysModules)=false) (aZ:s.heap.DictOf knd r []) (S:Addr) (yc:Value) (FK:Nat) (eW:s.heap.get? S=some {cls:=.type "list",data:=.seq #[] FK})
  (js:∀h' tk fN,(∀b o,b≠S->s.heap.get? b=some o->h'.get? b=some o)->h'.get? S=some {cls:=.type "list",dict:=none,data:=.seq #[] fN,slots:=#[]}->
   R (.ok (.ret yc)) {s with heap:=h',toks:=tk}):
  wpAny (model prog w) A.in1 (Builtin.List.listExtendWith (.ref S) (.ref r) yc)
   (λfin s'=>match fin with | .done f=>R (.ok f) s' | .again fN=>fN.quiet=true/\codeAny (model prog w) A fN R s') (λe s'=>R (.error e) s') s:=by
 have ig:=aZ.typeIs;refine vE (id aZ) λo es d9 aG BG um Bk qo nE=>?_;have qf:s.heap.DictAt knd r [] d9:=⟨o,es,aG,BG,um,Bk,qo,nE⟩;have uh:S≠r:=λe=>by
  rw [e,aG] at eW;revert eW;refine s1 λbd=>?_;subst bd;cases um
 have QX:S < s.heap.objs.size:=Heap.lt_size eW;have wE:S≠s.heap.objs.size:=Nat.ne_of_lt QX;have RI:r≠s.heap.objs.size:=Nat.ne_of_lt (Heap.lt_size aG);have aaK:S∉[s.heap.objs.size]:=λaP=>wE (List.mem_singleton.mp aP);have W:=(Walks.dictKeys (prog:=prog) (w:=w) (A:=A.in1) (knd:=knd) hh s.heap.objs.size r RI [] d9).toS;have key:∀(h:Heap) (Al tk:Nat),h.IsKeyIter s.heap.objs.size r 0 0 d9->(∀b o,b≠S->s.heap.get? b=some o->h.get? b=some o)->
   h.get? S=some {cls:=.type "list",data:=.seq #[] Al}->codeAny (model prog w) A (.builtin "list.extend.loop" ⟨[.ref S,.ref s.heap.objs.size,yc],[]⟩) R {s with heap:=h,toks:=tk}:=by
  intro h Al tk ih hk ui;refine codeAny_extend_loopS W (by unfold sizeLine;simp) S (λax=>?_) yc 0 0 _ #[] Al rfl (Nat.zero_le _) ⟨ih,qf.at' (hk r · (Ne.symm uh))⟩ ui (ItemsOf.nil _) λs' lI fN aP ug AX=>?_
  .simp only [List.mem_cons,List.not_mem_nil,or_false] at ax;rcases ax with ax | ax
   .exact wE ax
   .exact uh ax
  .rw [Moved.eq_with aP];have hz:lI=#[]:=by
    have:=AX.1;simpa using this
   subst hz;refine js s'.heap s'.toks fN (λb o aA e=>aP.heap b o (λoJ=>?_) (hk b o aA e)) ug;rcases List.mem_cons.mp oJ with bH | oJ
   .exact aA bH
   .exact absurd (Heap.lt_size e) (by rw [List.mem_singleton.mp oJ];exact Nat.lt_irrefl _)
 unfold Builtin.List.listExtendWith;refine wpAny_bind (wpAny_typeOf (T:="dict") ig ?_);have aj:Builtin.List.listSameRef (.ref S) (.ref r)=false:=by simp [Builtin.List.listSameRef,uh]
 have ao:(Value.type "dict" == Value.type "list")=false:=by decide
 have aL:(Value.type "dict" == Value.type "tuple")=false:=by decide
 simp only [aj,ao,aL,Bool.or_false,Bool.false_eq_true,if_false];refine wpAny_bind (wpAny_pyIter_dict aP qf ?_);refine wpAny_bind (wpAny_holding (Ro aP (aZ.push _) ?_));have GY:(s.heap.push {cls:=.type "dict_keyiterator",data:=.fields #[.ref r,.int 0 0,.int (([]:List (K×Value)).length) 0,.int d9 0]}).IsKeyIter s.heap.objs.size r 0 0 d9:=⟨_,Heap.get?_push_size _ rfl,rfl,rfl⟩;have ui:=Heap.get?_push_of_some {cls:=.type "dict_keyiterator",data:=.fields #[.ref r,.int 0 0,.int (([]:List (K×Value)).length) 0,.int d9 0]} eW;refine wpAny_ite_split (λ_=>?_) (λ_=>wpAny_pure ⟨plainId_quiet F.plain_extend_loop _,key _ FK _ GY (λb o _ e=>Heap.get?_push_of_some _ e) ui⟩);refine wpAny_bind (wpAny_rule ?_);refine wpAny_bind ?_;show wpAny _ _ (updateSeq S (·.push .none) >>=λ_=>updateSeq S (·.pop)) _ _ _;refine wpAny_bind (wpAny_updateSeq ui rfl ?_);have wF:=Heap.get?_update_self (Obj.mapSeq (·.push Value.none)) ui rfl;refine wpAny_updateSeq (hz:=by seq_fits) wF rfl ?_;have QY:=Heap.get?_update_self (Obj.mapSeq (·.pop)) wF rfl;refine wpAny_pure ⟨plainId_quiet F.plain_extend_loop _,key _ _ _ ?_ (λb o aA e=>?_) QY⟩
 .revert GY;refine eQ λo aG r=>?_;exact ⟨o,(Heap.get?_update_other _ _ wE).trans ((Heap.get?_update_other _ _ wE).trans aG),r⟩
 .exact (Heap.get?_update_other _ _ (Ne.symm aA)).trans ((Heap.get?_update_other _ _ (Ne.symm aA)).trans (Heap.get?_push_of_some _ e))
theorem Si {R:Result->Shared->Prop} {r:Addr} (hh:A.handled=none) (aP:(r == sysModules)=false) (aZ:s.heap.DictOf knd r []) (S:Addr) (eW:s.heap.get? S=some {cls:=.type "list",data:=.seq #[]})
  (js:∀h' tk fN,(∀b o,b≠S->s.heap.get? b=some o->h'.get? b=some o)->h'.get? S=some {cls:=.type "list",dict:=none,data:=.seq #[] fN,slots:=#[]}->
   R (.ok (.ret .none)) {s with heap:=h',toks:=tk}):
  wpAny (model prog w) A.in1 (Builtin.«list.__init__» ⟨[.ref S,.ref r],[]⟩)
   (λfin s'=>match fin with | .done f=>R (.ok f) s' | .again fN=>fN.quiet=true/\codeAny (model prog w) A fN R s') (λe s'=>R (.error e) s') s:=by
 refine vE (id aZ) λo es d9 aG BG um Bk qo nE=>?_;have uh:S≠r:=λe=>by
  rw [e,aG] at eW;revert eW;refine s1 λbd=>?_;subst bd;cases um
 show wpAny _ _ (do let old <- Builtin.List.listItems (.ref S);Builtin.List.listUpdate (.ref S) (λ_=>#[]);letGo old.toList.reverse;Builtin.List.listExtendWith (.ref S) (.ref r) .none) _ _ s;refine wpAny_bind ?_;unfold Builtin.List.listItems;refine wpAny_bind (wpAny_seqItems eW rfl (wpAny_pure ?_));show wpAny _ _ (updateSeq S (λ_=>#[]) >>=λ_=>letGo (#[]:Array Value).toList.reverse >>=λ_=>Builtin.List.listExtendWith (.ref S) (.ref r) .none) _ _ s;refine wpAny_bind (wpAny_updateSeq eW rfl ?_);have wF:=Heap.get?_update_self (Obj.mapSeq (λ_=>(#[]:Array Value))) eW rfl;have l5:∀b o,b≠S->s.heap.get? b=some o->(s.heap.update S (Obj.mapSeq (λ_=>(#[]:Array Value)))).get? b=some o:=
  λb o aA e=>(Heap.get?_update_other _ _ (Ne.symm aA)).trans e
 refine wpAny_bind (wpAny_letGo ?_);refine Qf (knd:=knd) hh aP ⟨o,es,d9,l5 r _ (Ne.symm uh) aG,BG,um,Bk,qo,nE⟩ S .none _ wF λh' tk fN hk ug=>?_;exact js h' tk fN (λb o aA e=>hk b o aA (l5 b o aA e)) ug
theorem M8 {Q:Value->Shared->Prop} {r:Addr} (hh:A.handled=none) (aP:(r == sysModules)=false) (aZ:s.heap.DictOf knd r [])
  (qg:∀h' tk fN,(∀b o,s.heap.get? b=some o->h'.get? b=some o)->
   h'.get? s.heap.objs.size=some {cls:=.type "list",dict:=none,data:=.seq #[] fN,slots:=#[]}->Q (.ref s.heap.objs.size) {s with heap:=h',toks:=tk}):
  wpAny (model prog w) A (call (.type "list") [.ref r]) Q E s:=by
 refine callType_codes (Q₁:=λobj g6=>obj=.ref s.heap.objs.size/\g6={s with heap:=s.heap.push {cls:=.type "list",data:=.seq #[]}}) F.called_list (F.typeCall_list_1 _) F.entry_list_init
  (code_list_new _ ⟨rfl,rfl⟩) λobj g6 wT=>?_
 revert wT;refine gT λbd bl=>?_;subst bd;subst bl;have eW:(s.heap.push {cls:=.type "list",data:=.seq #[]}).get? s.heap.objs.size=some {cls:=.type "list",data:=.seq #[]}:=Heap.get?_push_size _ rfl;refine ⟨⟨_,eW,rfl⟩,F.args_list_init_2 _ _,Si (A:=A.in1) (knd:=knd) hh aP (aZ.push _) _ eW λh' tk fN hk ug=>?_⟩;exact ⟨rfl,qg h' tk fN (λb o e=>hk b o (Nat.ne_of_lt (Heap.lt_size e)) (Heap.get?_push_of_some _ e)) ug⟩
end
noncomputable def p9:bf:=λargs D=>iq (lA (λ_ l=>fI (some (.ref D.length,D++[.list []])) (λ_ _=>none) l) D) args
theorem cw.Tr:cw B d (.type "list") p9:=λA ae D s args cI v al ok I R e Q E h=>by
 refine kM (λv cv e r=>?_) e R;revert r;refine Jp (λi l aJ e r=>?_) e
 cases l with
 | cons _ _=>exact bU e
 | nil=>
  refine a4 e h λh=>?_;refine rg (rP I r (show nr D (.ref i)=some (i,[]) by show (D[i]?).bind _=_;rw [aJ];rfl)) λq bT aV _ bL mi ie bn aZ oL=>?_;subst mi;have hk:bT=[]:=List.eq_nil_of_length_eq_zero aZ.len.symm;subst hk;refine M8 (knd:=l0 br B.w) ok.hand oL bn λh' tk fN qk oI=>?_;have X:ce s {s with heap:=h',toks:=tk}:=⟨qk,rfl,rfl⟩;refine iz (Cz (s':={s with heap:=h',toks:=tk}) (l:=[]) (cl:=[]) (n:=fN) I X .nil (Nat.zero_le _) (by simpa using oI)) λd0 c9 el=>?_;exact h _ _ _ d0 c9 el
noncomputable def t3:bf:=λargs D=>iq (m3 λl=>if l.all hX && decide (0 < l.length) then some (.int (eX (l[argBest (λi j=>decide (eX (l[i]?.getD .none) > eX (l[j]?.getD .none))) (l.length - 1)]?.getD .none)),D) else none) args
theorem ints_of {h:Heap} {l:List V}:∀{items:List Value},l.all hX=true->cC ae h l items->∃xs:List (Int×Tok),items=xs.map (λp=>.int p.1 p.2)/\l=xs.map (λp=>.int p.1):=by
 induction l with
 | nil=>intro items _ r;exact ⟨[],List.eq_nil_of_length_eq_zero r.len.symm,rfl⟩
 | cons v l bJ=>
  intro items bw r;refine fZ r.q8 λcv cl aV r1 cp=>?_;subst aV;refine a2 (bJ (an bw).2 cp) λxs bl aV=>?_;subst bl;subst aV;revert r1;refine wW (λi r1=>?_) (an bw).1;refine cH (aO.Sm r1) λt y=>?_;subst y;exact ⟨(i,t)::xs,rfl,rfl⟩
theorem cw.TV:cw B d (.builtin "max") t3:=λA ae D s args cI v al ok I R e Q E h=>by
 refine kM (λv cv e r=>?_) e R;refine yw (λl items a e cT cd aA aZ=>ds (λhk e=>a4 e h λh=>?_) e) e r;refine a2 (ints_of (h:=s.heap) (an hk).1 aZ) λxs bl aV=>?_;subst bl;subst aV;have hb:(xs.map (λp:Int×Tok=>Value.int p.1 p.2)).toArray=intItems xs.toArray:=by unfold intItems;simp
 rw [hb] at cd;have a3:∀i,eX ((xs.map (λp:Int×Tok=>V.int p.1))[i]?.getD .none)=numAt xs.toArray i:=λi=>by
  unfold numAt;rw [List.getElem?_map];simp only [List.getElem?_toArray]
  cases xs[i]? <;> rfl
 refine max_intList ok.hand cd (by simpa using (an hk).2) λv h' tk aI qk=>?_;have X:ce s {s with heap:=h',toks:=tk}:=⟨qk,rfl,rfl⟩;refine h ae _ _ (I.ext X) X.step ?_;refine cH (intItems_at aI) λt bl=>?_;subst bl;simp only [a3,List.length_map];exact .int _ _
theorem Ev.bad {e:Expr}:Ev B c e (λ_ _=>none):=λA ae D ag s v al ok I L e Q E h=>by exact bU e
theorem fM.bad {e:Expr}:fM B c e (λ_ _=>none):=λA ae D ag s v al ok I L e Q E h=>by exact bU e
theorem et.bad {e:Stmt}:et B c e (λ_ _=>none):=λA ae D ag s r bX al ok I L e Q E h=>by exact bU e
theorem hM.bad {e:List Stmt}:hM B c e (λ_ _=>none):=λA ae D ag s r bX al ok I L e Q E h=>by exact bU e
noncomputable def k':bK:=λ_ _=>none
noncomputable def q0:aU:=λ_ _=>none
end
section
open PySem PySem.W PySem.W.X PyProof.Rows PySem.Calls PySem.SeqAt
open Mine (br KT)
variable {B:db} {c:eC} {ae bt:eu} {D:am} {s s':Shared} {X:List Addr} {ag:List V} {d:Nat}
theorem HM {l:List Value} (h:l.length=0):l=[]:=List.eq_nil_of_length_eq_zero h
theorem uM {l:List Value} {n:Nat} (h:l.length=n+1):∃a t,l=a::t/\t.length=n:=by
 cases l with
 | nil=>exact absurd h.symm (Nat.succ_ne_zero n)
 | cons a t=>exact ⟨a,t,rfl,Nat.succ.inj h⟩
theorem mK {l:List Value} (h:l.length=1):∃a,l=[a]:=hn (uM h) λa t y z=>⟨a,by rw [y,HM z]⟩
theorem uL {l:List Value} (h:l.length=2):∃a b,l=[a,b]:=hn (uM h) λa t y z=>cH (mK z) λb z=>⟨a,b,by rw [y,z]⟩
theorem w5 {l:List Value} (h:l.length=3):∃a b c,l=[a,b,c]:=hn (uM h) λa t y z=>DX (uL z) λb c z=>⟨a,b,c,by rw [y,z]⟩
theorem B3 {l:List Value} (h:l.length=4):∃a b c d,l=[a,b,c,d]:=hn (uM h) λa t y z=>KL (w5 z) λb c d z=>⟨a,b,c,d,by rw [y,z]⟩
theorem Tp {l:List Value} (h:l.length=5):∃a b c d e,l=[a,b,c,d,e]:=hn (uM h) λa t y z=>KO (B3 z) λb c d e z=>⟨a,b,c,d,e,by rw [y,z]⟩
theorem Oh {eD:Addr} {o:Obj} {vs:Array Value} {q:Str} {t:Tok} (h:(KT B.w.params).lookup eD=some o) (bn:o.data=.fields vs) (aj:vs[1]? =some (.str q t)):B.h0.CodeRec (.ref eD) q:=
 ⟨eD,o,vs,t,rfl,B.uw _ _ h,bn,aj⟩
theorem rG {fd:FuncData} {n:Nat} {xs:List Str} (h:∀cI:List Value,cI.length=n->bindArgs fd ⟨cI,[]⟩=pure (xs.zip (cI++[]))):jJ B fd n [] xs:=
 λs cI _ aW=>⟨[],.nil,.of_eq (h cI aW)⟩
theorem om {fd:FuncData} {n:Nat} {xs:List Str} {df:List V} {T:Addr} {o:Obj} {items:List Value} {m:Nat} (ig:(KT B.w.params).lookup T=some o) (hs:o.data=.seq items.toArray m) (bn:fd.defaults=.ref T)
  (lK:List Value) (r:cC [] B.h0 df lK)
  (h:∀cI:List Value,cI.length=n->∃k:Option (Array Value)->Sem (List (Str×Value)),bindArgs fd ⟨cI,[]⟩=seqItems? fd.defaults >>=k/\k (some items.toArray)=pure (xs.zip (cI++lK))):jJ B fd n df xs:=
 λs cI K aW=>by
  refine a2 (h cI aW) λk aj ao=>?_;exact ⟨lK,r,.of_defaults bn (K _ _ ig) hs aj ao⟩
theorem Cp {x:Str} {v:Value} (h:x≠"__name__") (e:bootBuiltins x=some v):B.nV x=some v:=(B.MK x h).trans e
theorem uU {x:Str} {v:Value} (e:nsIn (KT B.w.params) mainGlobals x=some (some v)):B.jv x=some v:=mg_of B.uw B.glob e
theorem Cq {x:Str} (e:nsIn (KT B.w.params) mainGlobals x=some none):B.jv x=none:=mg_none_of B.uw B.glob e
theorem Ev.QL {x pos v} {k:Nat} (ax:c.names[k]? =some (x,.globalImplicit)) (aI:B.jv x=none) (aA:B.nV x=some v):Ev B c (.Name x pos) (ab (.con v)):=λA ae D ag s bA al ok I L e Q E h=>by
 refine a4 e h λh=>?_;clear e;exact E7 I L ax aI aA (h ae s v I (.refl _ _ _) (.con v))
noncomputable def gw (_:am) (a b:V):Option V:=m3 (λl=>m3 (λm=>if m.isEmpty then some (.bool (!l.isEmpty)) else none) b) a
theorem UV:ew B d (compareOp .NotEq) gw:=λA ae D s a b b3 cJ v ok I b2 b' e Q E h=>by
 refine yw (λl items ad e cT cd aA aZ=>?_) e b2;refine yw (λm dk wc e Ia sd uk mE=>ds (λaP e=>c1 e h λh=>?_) e) e b';have:=List.isEmpty_iff.mp aP;subst this;have:=List.eq_nil_of_length_eq_zero mE.len.symm;subst this;have dD:A.units < cLine:=ok.line (k:=0) (Nat.zero_le _)
 cases l with
 | nil=>
  have:=List.eq_nil_of_length_eq_zero aZ.len.symm;subst this;exact SeqAt.RcNeAt.lists (e:=λ_=>true) cd sd rfl dD (λj aj=>absurd aj (Nat.not_lt_zero _)) br B.w E Q (h _ _ (.refl _) (.bool _))
 | cons x l=>
  exact SeqAt.RcNeAt.lists_lengths cd sd (bne_iff_ne.mpr λq=>absurd (aZ.len.trans q) (Nat.succ_ne_zero _)) dD br B.w E Q (h _ _ (.refl _) (.bool _))
theorem vv {T:Addr} {items:List Value} {l:List V} (h:(KT B.w.params).lookup T=some (Mine.cZ items)) (aA:decide (l.length<=big)=true) (r:cC [] B.h0 l items):aO [] B.h0 (.tup l) (.ref T):=
 .tup l items T (λf=>by revert f;refine lF λi q e _=>?_;simp at e) ⟨_,B.uw _ _ h,rfl,0,rfl⟩ (of_decide_eq_true aA) r.len r.at_
theorem eO {x:Str} {l:List Nat} {t:Tok} (h:x.cps.toList=l) (aA:decide (l.length<=big)=true):aO [] B.h0 (.str l) (.str x t):=.str x l t h (of_decide_eq_true aA)
noncomputable def la (f:bK):bK:=λag D=>(f ag D).bind λp=>sY (λi C _=>if C=203 then some (.hole,p.2.set i .bB) else none) p.2 p.1
theorem Inv.QD (I:Inv B ae D s) {i:Nat} {fs:List V} {cv:Value} (e:D[i]? =some (.inst 203 fs)) (r:aO ae s.heap (.ref i) cv):aO (ae.set i none) s.heap .hole cv:=
 Inv.qY I e (λz=>by cases z) (λq bL rep=>by
  refine gC.e3 ?_ rep;intro es n h0 aj ao aL;exact .hole q.1 _ (Ij I bL) aj rfl rfl) r
theorem Ev.hole {e f} (aj:Ev B c e f):Ev B c e (la f):=λA ae D ag s v al ok I L e Q E h=>by
 refine cg (λa ai av e=>?_) e;refine aj _ _ _ _ _ _ _ ok I L av _ E λbt s' b3 bm bh bo=>?_;have e:sY _ ai a=_:=e;revert bo;refine Dd (λi C fs aJ e bo=>?_) e;refine ds (λdC e=>?_) e;subst dC;exact a4 e h λh=>h _ _ _ (bm.freeze i) (bh.trans q5) (bm.QD aJ bo)
end
section
open PySem PySem.W PySem.W.X PyProof.Rows PySem.Calls PySem.SeqAt
open Mine (br KT)
variable {B:db} {c:eC} {d:Nat}
structure mv where
 ap:List Str:=[]
 lsl:Bool:=false
 cat:Bool:=false
 ltL:Bool:=false
 arr:Bool:=false
 arg:Bool:=false
structure ft where
 nm:List (Str×NameKind)
 own:Bool
 d:Nat
 o:mv
structure j' (k:ft) (c:eC):Prop where
 nm:c.names=k.nm
 own:c.own=k.own
 d:c.d=k.d
structure tB (B:db) where
 x:Str
 v:V
 h:∀(c:eC) (k:Nat) (p:Pos),c.names[k]? =some (x,.globalImplicit)->Ev B c (.Name x p) (ab v)
structure Cl (B:db) where
 x:Str
 n:Nat
 d:Nat
 F:bf
 h:∀(c:eC) (k:Nat) (ls pos:Pos) (es:List Expr) (f:gS),c.names[k]? =some (x,.globalImplicit)->d<=c.d->i1 B c pos es f->qT es->Ev B c (.Call (.Name x ls) es [] pos) (ak F f)
structure k0 (B:db) where
 x:Str
 n:Nat
 d:Nat
 ok:am->V->Bool
 F:bf
 v:Value
 h:ng B x ok v
 bj:j9 B v
 hf:cw B d v F
structure vK (B:db) where
 x:Str
 C:Nat
 k:Nat
 Wh:Bool
 h:ty B C k x
 s:pS B C k x
structure fw (B:db) where
 gl:List (tB B)
 cl:List (Cl B)
 mt:List (k0 B)
 fd:List (vK B)
 bad:List Str
noncomputable def look {aS:Type} (key:aS->Str) (p:aS->Bool) (x:Str):List aS->Option {a:aS // key a=x}
 | []=>none
 | a::l=>if h:(key a == x)=true then (if p a then some ⟨a,eq_of_beq h⟩ else look key p x l) else look key p x l
noncomputable def xD (x:Str):(l:List (Str×NameKind))->Option {p:Nat×NameKind // l[p.1]? =some (x,p.2)}
 | []=>none
 | (y,bO)::l=>if h:(y == x)=true then some ⟨(0,bO),by rw [eq_of_beq h];rfl⟩ else (xD x l).map λp=>⟨(p.1.1+1,p.1.2),p.2⟩
theorem j'.at_ {k:ft} (z:j' k c) {i:Nat} {q:Str×NameKind} (h:k.nm[i]? =some q):c.names[i]? =some q:=by rw [z.nm];exact h
noncomputable abbrev rd (B:db) (k:ft) (e:Expr):=Option {f:bK //∀c,j' k c->Ev B c e f}
noncomputable abbrev DQ (B:db) (k:ft) (e:Expr):=Option {f:dp //∀c,j' k c->fM B c e f}
noncomputable abbrev yK (B:db) (k:ft) (e:Stmt):=Option {f:aU //∀c,j' k c->et B c e f}
noncomputable abbrev KA (B:db) (k:ft) (e:List Stmt):=Option {f:aU //∀c,j' k c->hM B c e f}
noncomputable def g7 {aS a0:Type} {P:aS->Prop} {Q:a0->Prop} (x:Option {a // P a}) (F:aS->a0) (h:∀a,P a->Q (F a)):Option {b // Q b}:=x.map λp=>⟨F p.1,h p.1 p.2⟩
noncomputable def fU {aS a0 kT:Type} {P:aS->Prop} {Q:a0->Prop} {R:kT->Prop} (x:Option {a // P a}) (y:Option {b // Q b}) (F:aS->a0->kT) (h:∀a b,P a->Q b->R (F a b)):Option {b // R b}:=x.bind λp=>y.map λq=>⟨F p.1 q.1,h _ _ p.2 q.2⟩
noncomputable def lB {aS a0 kT Kv:Type} {P:aS->Prop} {Q:a0->Prop} {R:kT->Prop} {S:Kv->Prop} (x:Option {a // P a}) (y:Option {b // Q b}) (z:Option {b // R b}) (F:aS->a0->kT->Kv) (h:∀a b c,P a->Q b->R c->S (F a b c)):Option {b // S b}:=
 x.bind λp=>y.bind λq=>z.map λr=>⟨F p.1 q.1 r.1,h _ _ _ p.2 q.2 r.2⟩
noncomputable def io (e:Expr):Bool:=[0,2,3,5,6,15,16,19,20,21,23,24,25].contains e.ctorIdx
structure LK (e:Expr):Prop where
 star:∀(es:List Expr) (env:Env),starEach (e::es) env=(false,eval e env)::starEach es env
 swap:∀(t:Option Expr) (l:Nat) (env:Env),swapsWith e t l env=pure false
 fold:∀(env:Env) (x:Value),foldedSetIterable e env x=pure x
 mark:∀o:CmpOp,behindInMarks o e=false
 sub:∀o i:Value,subscripted e false o i=operate [o,i] (getItem o i)
theorem jD {e:Expr} (h:io e=true):LK e:=by cases e <;> first | exact Bool.noConfusion h | exact ⟨λ_ _=>rfl,λ_ _ _=>rfl,λ_ _=>rfl,λ_=>rfl,λ_ _=>rfl⟩
theorem C8 {es:List Expr} (h:es.all io=true):qT es:=λpos env=>by
 have:(starEach es env).any (·.1)=false:=by
  induction es with
  | nil=>rfl
  | cons e es bJ=>
   rw [List.all_cons,Bool.and_eq_true] at h;rw [(jD h.1).star,List.any_cons,bJ h.2];rfl
 unfold backTo
 cases hs:starEach es env with
 | nil=>rfl
 | cons a l=>
  rw [hs] at this
  first | exact this | simpa using this
noncomputable def Jd (e:Expr):Bool:=[2,6,16,19,20,21,23,24,25].contains e.ctorIdx
theorem Sq {e:Expr} (h:Jd e=true) (env:Env) (w:Sem Value):isTrue e env w=(do let v <- w;standAt e.pos;holding [v] (truthy v)):=by cases e <;> first | exact Bool.noConfusion h | rfl
noncomputable def uY (e:Expr):Bool:=e.ctorIdx != 16 || (match e with | .Call _ (_::_) _ _=>true | .Call f [] _ _=>f.ctorIdx != 23 | _=>false)
theorem E0 {e:Expr} (h:uY e=true) (a:Str) (env:Env) (w:Sem Value):attributeBase e a env w=w:=by
 cases e <;> try rfl
 rename_i f as ks p
 cases f <;> first | rfl | (cases as <;> first | rfl | exact Bool.noConfusion h)
theorem Qx {o:Expr} (h:uY o=true) (name:Str) (pos:Pos) (env:Env):eval (.Attribute o name pos) env=(do
   let h3 <- eval o env
   standAt pos.atName
   let r <- holding [h3] (getAttr h3 name true)
   letTemporaryGo o h3 r
   pure r):=by
 have:=E0 h name env (eval o env);show (do
  let h3 <- attributeBase o name env (eval o env)
  standAt pos.atName
  let r <- holding [h3] (getAttr h3 name true)
  letTemporaryGo o h3 r
  pure r)=_
 rw [this]
theorem QB {es:List Expr} (h:es.all io=true) (aW:decide (es.length < 20)=true) (pos:Pos) (env:Env):methodCallForm (es.length+0) (backTo pos (starEach es env)) (backToKw pos (keywordEach [] env))=true:=by
 have p:=C8 h pos env;have:(backTo pos (starEach es env)).all (!·.1)=true:=by
  rw [List.all_eq_true];intro x ax;rw [List.any_eq_false] at p;simpa using p x ax
 have ao:es.length+0+0 < 30:=by have:=of_decide_eq_true aW;lia
 show ((backTo pos (starEach es env)).all (!·.1) && true && decide (es.length+0+0 < 30))=true;rw [this,decide_eq_true ao];rfl
theorem T1 {o:Expr} (h:uY o=true) {es:List Expr} (hs:es.all io=true) (aW:decide (es.length < 20)=true) {ni pos:Pos} (aw:(ni.endLine == pos.line)=true) (name:Str) (env:Env):
  eval (.Call (.Attribute o name ni) es [] pos) env=(do
   let h3 <- eval o env
   standAt ni.atName
   let (f,first) <- holding [h3] (getMethod h3 name (do return (<- importBound o env).getD true))
   callWith pos f first (backTo pos (starEach es env)) []):=by
 show (do
  let h3 <- attributeBase o name env (eval o env)
  standAt ni.atName
  methodCall o name ni pos env h3 (es.length+0) (backTo pos (starEach es env)) (backToKw pos (keywordEach [] env)))=_
 rw [E0 h];unfold methodCall;rw [QB hs aW];unfold methodCallPos calleeOf;simp only [aw,Bool.not_true,Bool.false_or,if_true]
 rfl
structure kV (B:db) where
 E:∀(k:ft) (e:Expr),rd B k e
 T:∀(k:ft) (e:Expr),DQ B k e
 S:∀(k:ft) (s:Stmt),yK B k s
noncomputable def ou (r:kV B) (k:ft):(es:List Expr)->Option {f:gS //∀c pos,j' k c->i1 B c pos es f}
 | []=>some ⟨aa,λ_ _ _=>.nil⟩
 | e::es=>if h:io e=true then fU (r.E k e) (ou r k es) H λ_ _ a b c pos z=>.cons (a c z) (b c pos z) λenv=>(jD h).star es env else none
noncomputable def Ao (r:kV B) (k:ft) (op:BoolOp):(es:List Expr)->Option {f:dp //∀c,j' k c->kU B c op es f}
 | []=>match op with
  | .And=>some ⟨bW,λ_ _=>.and_nil⟩
  | .Or=>some ⟨fD,λ_ _=>.or_nil⟩
 | e::es=>match op with
  | .And=>fU (r.T k e) (Ao r k .And es) bp λ_ _ a b c z=>.and (a c z) (b c z)
  | .Or=>fU (r.T k e) (Ao r k .Or es) dI λ_ _ a b c z=>.or (a c z) (b c z)
noncomputable def ow (r:kV B) (k:ft):(l:List Stmt)->KA B k l
 | []=>some ⟨aq,λ_ _=>.nil⟩
 | s::l=>fU (r.S k s) (ow r k l) af λ_ _ a b c z=>.cons (a c z) (b c z)
noncomputable def wq (r:kV B) (k:ft):(e:Option Expr)->Option {f:rv //∀c,j' k c->Pv B c e f}
 | none=>some ⟨lw,λ_ _=>.no⟩
 | some e=>g7 (r.E k e) ed λ_ a c z=>.yes (a c z)
noncomputable def Ht:Expr->Bool | .Name .. =>true | _=>false
noncomputable def So:Expr->Bool | .List [] _=>true | _=>false
noncomputable def Hr (x:Str):Expr->Bool | .Attribute _ y _=>y == x | _=>false
noncomputable def Ss (x:Str):Expr->Bool | .Name y _=>y == x | _=>false
noncomputable def xF:Nat->Expr->Bool
 | _,.Constant (.int _) _ _=>true
 | _,.Name x _=>[("at" :Str),"to","there","first","gone","new"].contains x
 | n+1,.BinOp a _ b _=>xF n a && xF n b
 | _,.Call (.Name x _) _ _ _=>[("max" :Str),"len","min"].contains x
 | _,_=>false
noncomputable def OD (k:ft) (l r:Expr):(o:Operator)->Option {f:am->V->V->Option V //∀(B:db) d,ew B d (binaryOp o) f}
 | .Add=>if k.o.cat && !(xF 9 l && xF 9 r) then some ⟨pe,λ_ _=>UE⟩ else some ⟨cV,λ_ _=>UC⟩
 | .Sub=>some ⟨eA,λ_ _=>U4⟩
 | .Mult=>some ⟨gM,λ_ _=>Iv⟩
 | .FloorDiv=>some ⟨u2,λ_ _=>UG⟩
 | .Mod=>some ⟨fH,λ_ _=>UU⟩
 | .Pow=>some ⟨kL,λ_ _=>U1⟩
 | .BitAnd=>some ⟨CG,λ_ _=>UD⟩
 | .BitOr=>some ⟨CM,λ_ _=>U0⟩
 | .RShift=>some ⟨mU,λ_ _=>U2⟩
 | _=>none
noncomputable def ov (k:ft) (l r:Expr):(o:CmpOp)->Option {f:am->V->V->Option V //∀(B:db) d,ew B d (compareOp o) f}
 | .Lt=>if k.o.ltL && Ht l && Ht r then some ⟨kK,λ_ _=>UQ⟩ else some ⟨oLt,λ_ _=>US⟩
 | .Gt=>some ⟨eZ,λ_ _=>UK⟩
 | .LtE=>some ⟨oLe,λ_ _=>UP⟩
 | .GtE=>some ⟨hl,λ_ _=>UJ⟩
 | .Eq=>some ⟨oEq,λ_ _=>UH⟩
 | .NotEq=>if So r then some ⟨gw,λ_ _=>UV⟩ else some ⟨ec,λ_ _=>UW⟩
 | .In=>some ⟨fq,λ_ _=>UL⟩
 | .NotIn=>if Hr "tools" r then some ⟨u3,λ_ _=>UY⟩ else some ⟨xK,λ_ _=>UZ⟩
 | .Is=>some ⟨iU,λ_ _=>UN⟩
 | .IsNot=>some ⟨mT,λ_ _=>UM⟩
noncomputable def FP:(o:Operator)->Option {f:am->V->V->Option V //∀(B:db) d,ew B d (inplaceOp o) f}
 | .Add=>some ⟨hG,λ_ _=>R7⟩
 | .Sub=>some ⟨eA,λ_ _=>R8⟩
 | _=>none
noncomputable def Hs:Expr->Bool
 | .Attribute _ y _=>y == "walks" || y == "tools"
 | .Name y _=>y == "book"
 | _=>false
noncomputable def fdOf (t:fw B) (o:Expr) (x:Str):Option {a:vK B // a.x=x}:=look (·.x) (λa=>a.Wh || Ss "self" o) x t.fd
noncomputable def OC (t:fw B) (k:ft) (x:Str) (p:Pos):rd B k (.Name x p):=match xD x k.nm with
 | some ⟨(i,bO),h⟩=>if aW:nH bO=true then some ⟨G i,λc z=>.var (z.at_ h) aW⟩ else match bO,h with
  | .globalImplicit,h=>(look (·.x) (λ_=>true) x t.gl).map λa=>⟨ab a.1.v,λc z=>by obtain ⟨a,rfl⟩:=a;exact a.h c i p (z.at_ h)⟩
  | _,_=>none
 | none=>none
noncomputable def Oy (t:fw B) (r:kV B) (k:ft) (x:Str) (ls:Pos) (es:List Expr) (pos:Pos):rd B k (.Call (.Name x ls) es [] pos):=
 if t.bad.contains x then some ⟨k',λ_ _=>.bad⟩ else
 if aw:es.all io=true then
  let n:=if x == "list" && es.any (Hr "walks") then 9 else es.length
  match xD x k.nm with
  | some ⟨(i,.globalImplicit),h⟩=>(look (·.x) (λa=>a.n == n) x t.cl).bind λa=>if bn:a.1.d<=k.d then
    let q:=g7 (ou r k es) (ak a.1.F) λf g c z=>by obtain ⟨a,rfl⟩:=a;exact a.h c i ls pos es f (z.at_ h) (by rw [z.d];exact bn) (g c pos z) (C8 aw)
    if x == "Absent" then g7 q la λ_ g c z=>.hole (g c z) else q
   else none
  | _=>none
 else none
noncomputable def OB (t:fw B) (r:kV B) (k:ft) (o:Expr) (x:Str) (dH:Pos) (es:List Expr) (pos:Pos):rd B k (.Call (.Attribute o x dH) es [] pos):=
 if aw:es.all io=true then if aW:decide (es.length < 20)=true then if hs:uY o=true then if cW:(dH.endLine == pos.line)=true then
  (look (·.x) (λa=>a.n == (if k.o.arr then 9 else es.length)) x t.mt).bind λa=>if bn:a.1.d<=k.d then
    fU (r.E k o) (ou r k es) (bS a.1.ok a.1.F) λf g aj ao c z=>by obtain ⟨a,rfl⟩:=a;exact .T0 (aj c z) a.h a.bj a.hf (by rw [z.d];exact bn) (ao c pos z) (T1 hs aw aW cW _ c.env) (C8 aw)
   else none
 else none else none else none else none
noncomputable def FM (t:fw B) (r:kV B) (k:ft) (e:Expr):rd B k e:=match e with
 | .Constant .none _ _=>some ⟨ab .none,λ_ _=>.const_none⟩
 | .Constant (.bool b) _ _=>some ⟨ab (.bool b),λ_ _=>.Om⟩
 | .Constant (.int i) _ _=>some ⟨ab (.int i),λ_ _=>.const_int⟩
 | .Constant (.str x) _ _=>if h:decide (x.cps.toList.length<=big)=true then some ⟨ab (.str x.cps.toList),λ_ _=>.Oo rfl h⟩ else none
 | .Name x p=>OC t k x p
 | .BinOp l o g _=>match o with
  | .Mult=>match l with
   | .List es p=>fU (ou r k es) (r.E k g) (λa b=>oz (cM a) b) λ_ _ a b c z=>.rep (.lst (a c p z)) (b c z)
   | l=>fU (r.E k l) (r.E k g) (aM gM) λ_ _ a b c z=>.bin Iv (a c z) (b c z)
  | o=>(OD k l g o).bind λw=>fU (r.E k l) (r.E k g) (aM w.1) λ_ _ a b c z=>.bin (w.2 B _) (a c z) (b c z)
 | .UnaryOp .Not x _=>g7 (r.E k x) p5 λ_ a c z=>.not (a c z)
 | .UnaryOp .USub x _=>match x with
  | .Call (.Name y n) es kw q=>if t.bad.contains y then some ⟨k',λ_ _=>.bad⟩ else g7 (r.E k (.Call (.Name y n) es kw q)) (dU ej) λ_ a c z=>.un Iw (a c z)
  | x=>g7 (r.E k x) (dU ej) λ_ a c z=>.un Iw (a c z)
 | .IfExp q a b _=>lB (r.T k q) (r.E k a) (r.E k b) cn λ_ _ _ x y w c z=>.ite (x c z) (y c z) (w c z)
 | .BoolOp .And [x,y] _=>fU (r.E k x) (r.E k y) nt λ_ _ a b c z=>.and (a c z) (b c z)
 | .BoolOp .Or [x,y] _=>fU (r.E k x) (r.E k y) p6 λ_ _ a b c z=>.or (a c z) (b c z)
 | .Compare l [o] [g] _=>if h:io g=true then (ov k l g o).bind λw=>fU (r.E k l) (r.E k g) (aM w.1) λ_ _ a b c z=>.cmp (w.2 B _) (a c z) (b c z) ((jD h).mark o) else none
 | .Compare l [o,a4] [g,gr] _=>if h:io gr=true then (ov k l g o).bind λw=>(ov k g gr a4).bind λpC=>lB (r.E k l) (r.E k g) (r.E k gr) (iI w.1 pC.1) λ_ _ _ x y v c z=>.chain (w.2 B _) (pC.2 B _) (x c z) (y c z) (v c z) ((jD h).mark a4) else none
 | .Attribute o x p=>match fdOf t o x with
  | some ⟨a,bw⟩=>if h:uY o=true then g7 (r.E k o) (aN a.C a.k) λf g c z=>by subst bw;exact .fld a.h (g c z) (Qx h _ _ _) else none
  | none=>some ⟨k',λ_ _=>.bad⟩
 | .Subscript v (.Slice lo aJ none q) p=>match v with
  | .Name x n=>if k.o.lsl then lB (r.E k (.Name x n)) (wq r k lo) (wq r k aJ) kn λ_ _ _ a b w c z=>.TG (a c z) (b c z) (w c z)
   else lB (r.E k (.Name x n)) (wq r k lo) (wq r k aJ) lb λ_ _ _ a b w c z=>.Y8 (a c z) (b c z) (w c z)
  | _=>none
 | .Subscript v s _=>if h:io s=true then
   if Hs v then fU (r.E k v) (r.E k s) nu λ_ _ a b c z=>.uE (a c z) (b c z) (jD h).sub
   else fU (r.E k v) (r.E k s) aT λ_ _ a b c z=>.item (a c z) (b c z) (jD h).sub
  else none
 | .List es p=>g7 (ou r k es) ef λ_ a c z=>.ap (a c p z)
 | .Tuple es _ p=>g7 (ou r k es) bM λ_ a c z=>.tup (a c p z)
 | .Dict [] [] _=>some ⟨hc,λ_ _=>.OM⟩
 | .Call (.Name x ls) es [] pos=>Oy t r k x ls es pos
 | .Call (.Attribute o x dH) es [] pos=>OB t r k o x dH es pos
 | .Call (.Call _ _ _ _) _ _ _=>some ⟨k',λ_ _=>.bad⟩
 | _=>none
noncomputable def OG (t:fw B) (r:kV B) (k:ft) (e:Expr):DQ B k e:=match e with
 | .BoolOp op es _=>g7 (Ao r k op es) id λ_ a c z=>.bool (a c z)
 | .UnaryOp .Not x _=>g7 (r.T k x) ek λ_ a c z=>.not (a c z)
 | .IfExp q a b _=>lB (r.T k q) (r.T k a) (r.T k b) gP λ_ _ _ x y w c z=>.ite (x c z) (y c z) (w c z)
 | .Compare l [o] [g] _=>if h:io g=true then (ov k l g o).bind λw=>fU (r.E k l) (r.E k g) (aD w.1) λ_ _ a b c z=>.cmp (w.2 B _) (a c z) (b c z) ((jD h).mark o) else none
 | .Compare l [o,a4] [g,gr] _=>if h:io gr=true then (ov k l g o).bind λw=>(ov k g gr a4).bind λpC=>lB (r.E k l) (r.E k g) (r.E k gr) (λa b d=>a' (iI w.1 pC.1 a b d)) λ_ _ _ x y v c z=>.chain (w.2 B _) (pC.2 B _) (x c z) (y c z) (v c z) ((jD h).mark a4) else none
 | e=>if h:Jd e=true then g7 (FM t r k e) a' λ_ a c z=>.plain (a c z) (Sq h) else none
noncomputable def FO (r:kV B) (k:ft) (e:Expr):rd B k e:=match e with
 | .List es p=>g7 (ou r k es) cM λ_ a c z=>.lst (a c p z)
 | e=>r.E k e
noncomputable def rM (k:ft) (x:Str):Option {i:Nat //∀c,j' k c->∃bO,c.names[i]? =some (x,bO)/\lV c.own bO=true}:=match xD x k.nm with
 | some ⟨(i,bO),h⟩=>if aW:lV k.own bO=true then some ⟨i,λc z=>⟨bO,z.at_ h,by rw [z.own];exact aW⟩⟩ else none
 | none=>none
noncomputable def FQ (k:ft):(es:List Expr)->Option {l:List Nat //∀c,j' k c->pH B c es l/\(assignEach es c.env).length=l.length/\(assignEach es c.env).findIdx? (·.1)=none}
 | []=>some ⟨[],λc z=>⟨.nil,rfl,rfl⟩⟩
 | .Name x p::es=>(rM k x).bind λi=>(FQ k es).map λl=>⟨i.1::l.1,λc z=>a2 (i.2 c z) λbO a b=>iz (l.2 c z) λaj ao aL=>⟨.cons a b aj,by show _+1=_+1;rw [ao],by
   show List.findIdx? _ ((false,_)::assignEach es c.env)=none;rw [List.findIdx?_cons,aL];rfl⟩⟩
 | _=>none
noncomputable def wo (k:ft):(e:Expr)->Option {f:f5 //∀c,j' k c->lE B c e f}
 | .Name x p=>(rM k x).map λi=>⟨cx i.1,λc z=>a2 (i.2 c z) λbO a b=>.name a b⟩
 | .Tuple es _ _=>(FQ k es).map λl=>⟨f9 l.1,λc z=>iz (l.2 c z) λaj ao aL=>.tup aj ao aL⟩
 | _=>none
noncomputable def Ii:Expr->Bool | .Tuple .. =>false | _=>true
theorem ZJ {e:Expr} (h:Ii e=true) (dg:List Expr) (j:Nat) (p:Pos) (env:Env):swappedStores [.Tuple dg j p] e env=pure none:=by cases e <;> first | rfl | cases h
noncomputable def Ig:Expr->Option (Str×Nat)
 | .Name x p=>some (x,p.line)
 | _=>none
noncomputable def yo (nm:List (Str×NameKind)) (l:Nat):List Expr->Option (List Str)
 | []=>some []
 | e::es=>(Ig e).bind λq=>if nm.lookup q.1 == some .local && q.2 == l then (yo nm l es).map (q.1::·) else none
noncomputable def Dw (nm:List (Str×NameKind)) (dg vs:List Expr) (ns:List Str):Bool:=
 (dg.length == 2 || dg.length == 3) && vs.length == dg.length && !(vs.any λ| .Starred .. =>true | _=>false) && ns.eraseDups.length == ns.length && !(vs.all (foldedForSure 8)) && !(vs.all (constantsAlone 8))
theorem J0 {env:Env} {l:Nat} {F:Expr->Option Str} (oG:∀e,F e=(Ig e).bind λq=>if env.kindOf q.1 == some .local && q.2 == l then some q.1 else none):∀{dg:List Expr} {ns:List Str},yo env.scope.names l dg=some ns->dg.filterMap F=ns/\ns.length=dg.length
 | [],ns,h=>by cases h;exact ⟨rfl,rfl⟩
 | e::dg,ns,h=>by
  revert h;refine cg λx p aj h=>?_
  by_cases bj:(env.scope.names.lookup x == some .local && p == l)=true
  .rw [if_pos bj] at h;revert h;refine cb λl ao h=>?_;subst h;have bJ:=J0 oG ao;have mC:F e=some x:=by rw [oG,aj];exact if_pos bj
   exact ⟨by rw [List.filterMap_cons,mC,bJ.1],congrArg (· +1) bJ.2⟩
  .rw [if_neg bj] at h;exact bU h
theorem Y9 {dg vs:List Expr} {ns:List Str} {j il:Nat} {p dP:Pos} (c:eC) (d3:yo c.names ((dg.head?.map (·.pos.line)).getD 0) dg=some ns) (h:Dw c.names dg vs ns=true):swappedStores [.Tuple dg j p] (.Tuple vs il dP) c.env=pure (some ns):=by
 unfold Dw at h;simp only [Bool.and_eq_true,Bool.not_eq_true'] at h;refine cq h λh jS=>cq h λh eg=>cq h λh cm=>cq h λh aL=>cq h λaj ao=>?_;have a3:=λF oG=>J0 (env:=c.env) (F:=F) oG d3;have hk:(c.env.blockKind == .function)=true:=by unfold Env.blockKind;rw [c.hk];rfl
 have aP:(ns.length == dg.length)=true:=by rw [(a3 _ λ_=>rfl).2];exact beq_self_eq_true _
 unfold swappedStores;simp only [pure_bind];generalize iK:List.any vs _=A;generalize oG:List.filterMap _ dg=F;have O:A=false:=iK.symm.trans aL;have ah:F=ns:=oG.symm.trans (a3 _ λe=>by cases e <;> rfl).1;subst O;subst ah;simp only [aj,eg,jS,hk,aP,bne,ao,cm,Bool.not_true,Bool.or_false,if_false,Bool.false_eq_true]
noncomputable def FR (k:ft):(ns:List Str)->Option {l:List Nat //∀c,j' k c->pI B c ns l/\ns.length=l.length}
 | []=>some ⟨[],λc z=>⟨.nil,rfl⟩⟩
 | x::ns=>(rM k x).bind λi=>(FR k ns).map λl=>⟨i.1::l.1,λc z=>a2 (i.2 c z) λbO a b=>cq (l.2 c z) λaj ao=>⟨.cons a b aj,congrArg (· +1) ao⟩⟩
theorem ZI {dg vs:List Expr} (h:(!(dg.length == 2 || dg.length == 3) || vs.all (foldedForSure 8))=true) (j il:Nat) (p dP:Pos) (env:Env):swappedStores [.Tuple dg j p] (.Tuple vs il dP) env=pure none:=by
 unfold swappedStores;simp only [pure_bind];rw [Bool.or_eq_true] at h;rcases h with h | h
 .simp only [h,Bool.true_or,if_true]
 .simp only [h,if_true,ite_self]
noncomputable def OH (r:kV B) (k:ft) (dg:List Expr) (j:Nat) (p:Pos) (v:Expr) (q:Pos):yK B k (.Assign [.Tuple dg j p] v q):=match v with
 | .Tuple vs il dP=>if h:(!(dg.length == 2 || dg.length == 3) || vs.all (foldedForSure 8))=true then fU (wo (B:=B) k (.Tuple dg j p)) (r.E k (.Tuple vs il dP)) jj λ_ _ a b c z=>.Ke (b c z) (a c z) rfl (ZI h _ _ _ _ _) else match d3:yo k.nm ((dg.head?.map (·.pos.line)).getD 0) dg with
  | some ns=>if h:Dw k.nm dg vs ns=true then fU (FR (B:=B) k ns.reverse) (r.E k (.Tuple vs il dP)) eB λ_ _ a b c z=>cq (a c z) λaj ao=>.swap (b c z) aj (by rw [<- ao,List.length_reverse]) rfl (Y9 c (by rw [z.nm];exact d3) (by rw [z.nm];exact h)) else none
  | none=>none
 | v=>if h:Ii v=true then if ao:io v=true then fU (wo (B:=B) k (.Tuple dg j p)) (r.E k v) jj λ_ _ a b c z=>.Ke (b c z) (a c z) ((jD ao).swap (some (.Tuple dg j p)) q.line c.env) (ZJ h _ _ _ _) else none else none
noncomputable def OE (t:fw B) (r:kV B) (k:ft) (s:Stmt):yK B k s:=match s with
 | .Return (some e) _=>match e with
  | .Name x p=>if k.o.ap.contains x then g7 (r.E k (.Name x p)) (λf=>aR (ib f)) λ_ a c z=>.ret (.freeze (a c z)) else g7 (r.E k (.Name x p)) aR λ_ a c z=>.ret (a c z)
  | e=>g7 (r.E k e) aR λ_ a c z=>.ret (a c z)
 | .Raise .. =>some ⟨q0,λ_ _=>.bad⟩
 | .Pass _=>some ⟨aq,λ_ _=>.pass⟩
 | .Break _=>some ⟨pn,λ_ _=>.brk⟩
 | .Expr e _=>if h:io e=true then g7 (r.E k e) b9 λ_ a c z=>.expr (a c z) λenv=>(jD h).swap _ _ env else none
 | .If q a b _=>lB (r.T k q) (ow r k a) (ow r k b) a7 λ_ _ _ x y w c z=>.ite (x c z) (y c z) (w c z)
 | .While q a [] _=>fU (r.T k q) (ow r k a) (λx y=>g4 x y 100) λ_ _ x y c z=>.aag (x c z) (y c z)
 | .For g i a [] _=>if h:io i=true then lB (r.E k i) (wo (B:=B) k g) (ow r k a) (λx y w=>e7 x y w 100) λ_ _ _ x y w c z=>.QA (x c z) (y c z) (w c z) ((jD h).fold _) else none
 | .AugAssign (.Name x p) o e _=>(FP o).bind λw=>fU (rM k x) (r.E k e) (λi f=>a1 i (aM w.1 (G i) f)) λ_ _ a b c z=>a2 (a c z) λbO aj ao=>.aug aj ao (w.2 B _) (b c z)
 | .AugAssign (.Attribute o x p) q e _=>(FP q).bind λw=>(fdOf t o x).bind λa=>fU (r.E k o) (r.E k e) (l9 a.1.C a.1.k w.1) λf g aj ao c z=>by obtain ⟨a,rfl⟩:=a;exact .L4 a.s a.h (w.2 B _) (aj c z) (ao c z)
 | .Assign [.Name x p] e _=>if h:io e=true then fU (rM k x) (if k.o.arg && x == "args" then r.E k e else FO r k e) a1 λ_ _ a b c z=>a2 (a c z) λbO aj ao=>.set aj ao (b c z) λenv=>(jD h).swap _ _ env else none
 | .Assign [.Attribute o x p] e _=>if h:io e=true then (fdOf t o x).bind λa=>fU (r.E k o) (FO r k e) (bI a.1.C a.1.k) λf g aj ao c z=>by obtain ⟨a,rfl⟩:=a;exact .yk a.s (ao c z) (aj c z) λenv=>(jD h).swap _ _ env
  else none
 | .Assign [.Tuple dg j p] v q=>OH r k dg j p v q
 | .Assign [.Subscript o i p] e _=>if h:io e=true then
   if Hs o then lB (r.E k o) (r.E k i) (r.E k e) kP λ_ _ _ x y w c z=>.po (w c z) (x c z) (y c z) λenv=>(jD h).swap _ _ env
   else lB (r.E k o) (r.E k i) (r.E k e) jC λ_ _ _ x y w c z=>.pq (w c z) (x c z) (y c z) λenv=>(jD h).swap _ _ env
  else none
 | _=>none
noncomputable def dn (t:fw B):Nat->kV B
 | 0=>⟨λ_ _=>none,λ_ _=>none,λ_ _=>none⟩
 | n+1=>⟨FM t (dn t n),OG t (dn t n),OE t (dn t n)⟩
noncomputable def val {aS:Type} {P:aS->Prop} (x:Option {a // P a}):Option aS:=x.map (·.1)
theorem r4 {aS:Type} {P:aS->Prop} {x:Option {a // P a}} {a:aS} (h:val x=some a):P a:=by
 unfold val at h
 cases x with
 | none=>cases h
 | some p=>cases h;exact p.2
noncomputable abbrev rH (c:eC) (o:mv):ft:=⟨c.names,c.own,c.d,o⟩
theorem fy {t:fw B} {e:Expr} {f:bK} (o:mv) (h:val ((dn t 40).E (rH c o) e)=some f):Ev B c e f:=r4 h c ⟨rfl,rfl,rfl⟩
theorem p2 {t:fw B} {e:Expr} {f:dp} (o:mv) (h:val ((dn t 40).T (rH c o) e)=some f):fM B c e f:=r4 h c ⟨rfl,rfl,rfl⟩
theorem hv {t:fw B} {e:Stmt} {f:aU} (o:mv) (h:val ((dn t 40).S (rH c o) e)=some f):et B c e f:=r4 h c ⟨rfl,rfl,rfl⟩
theorem gp {t:fw B} {e:List Stmt} {f:aU} (o:mv) (h:val (ow (dn t 40) (rH c o) e)=some f):hM B c e f:=r4 h c ⟨rfl,rfl,rfl⟩
theorem As {t:fw B} {pos:Pos} {e:List Expr} {f:gS} (o:mv) (h:val (ou (dn t 40) (rH c o) e)=some f):i1 B c pos e f:=r4 h c pos ⟨rfl,rfl,rfl⟩
theorem k9 {e:Expr} {f:f5} (o:mv) (h:val (wo (B:=B) (rH c o) e)=some f):lE B c e f:=r4 h c ⟨rfl,rfl,rfl⟩
end
section
open PySem PySem.W PySem.W.X PyProof.Rows PySem.Calls PySem.SeqAt
open Mine (br KT)
variable {B:db} {d:Nat}
noncomputable def Gk (K:Frag) (C k:Nat) (x:Str):Bool:=plainGet K C x && ((clsIn K C).any (·.hasDict) && (decide (hB C).Nodup && (decide ((hB C)[k]? =some x) && ((findIn K (.ref C) x == some none) && (plainOver K C &&
 ((takerIn K C x).any Option.isNone && ((findIn K (.ref C) "__setattr__" == some (some (.builtin "object.__setattr__"))) && decide ((hB C).length<=1000))))))))
theorem LQ {aS:Type} {x:Option (Option aS)} (h:x.any Option.isNone=true):x=some none:=by
 cases x with
 | none=>cases h
 | some y=>cases y with
  | none=>rfl
  | some _=>cases h
theorem Gl {C k:Nat} {x:Str} (h:Gk (KT B.w.params) C k x=true):ty B C k x/\pS B C k x:=by
 refine cq (an h) λaj h=>cq (an h) λao h=>cq (an h) λaL h=>cq (an h) λcm h=>cq (an h) λeg h=>cq (an h) λjS h=>cq (an h) λuc h=>cq (an h) λud lR=>?_;exact ⟨⟨aj,ao,of_decide_eq_true aL,of_decide_eq_true cm,eq_of_beq eg⟩,⟨jS,LQ uc,eq_of_beq ud,ao,of_decide_eq_true aL,of_decide_eq_true lR,of_decide_eq_true cm⟩⟩
noncomputable def d2 (C k:Nat) (x:Str) (p:Bool) (h:Gk (KT B.w.params) C k x=true):vK B:=⟨x,C,k,p,(Gl h).1,(Gl h).2⟩
noncomputable def bY (x:Str) (n d a:Nat) (F:bf) (aj:nsIn (KT B.w.params) mainGlobals x=some (some (.ref a))) (ao:keepIn (KT B.w.params) (.ref a)=true) (s:bv B d (.ref a) F):Cl B:=⟨x,n,d,F,λ_ _ _ _ _ _ ax bn bw aw=>.call ax (uU aj) (.K ao) s.fn bn bw aw⟩
noncomputable def jl (x:Str) (n:Nat) (v:Value) (F:bf) (aj:nsIn (KT B.w.params) mainGlobals x=some none) (ao:x≠"__name__") (aL:bootBuiltins x=some v) (bj:j9 B v) (s:cw B 0 v F):Cl B:=⟨x,n,0,F,λ_ _ _ _ _ _ ax bn bw aw=>.Fa ax (Cq aj) (Cp ao aL) bj s bn bw aw⟩
noncomputable def o9 (x:Str) (n d C a:Nat) (F:bf) (aj:plainGet (KT B.w.params) C x=true) (ao:findIn (KT B.w.params) (.ref C) x=some (some (.ref a))) (aL:typeIn (KT B.w.params) (.ref a)=some (.type "function")) (cm:(hB C).contains x=false) (eg:keepIn (KT B.w.params) (.ref a)=true) (s:bv B d (.ref a) F):k0 B:=
 ⟨x,n,d,eT C,F,.ref a,ng.inst aj ao aL cm,.K eg,s.fn⟩
noncomputable def t' (x:Str) (v:Value) (h:nsIn (KT B.w.params) mainGlobals x=some (some v)):tB B:=⟨x,.con v,λ_ _ _ ax=>.glob ax (uU h)⟩
noncomputable def qe (x:Str) (bA:V) (v:Value) (h:nsIn (KT B.w.params) mainGlobals x=some (some v)) (r:aO [] B.h0 bA v):tB B:=⟨x,bA,λ_ _ _ ax=>.QM ax (uU h) r⟩
noncomputable def AS (x:Str) (v:Value) (aj:nsIn (KT B.w.params) mainGlobals x=some none) (ao:x≠"__name__") (aL:bootBuiltins x=some v):tB B:=⟨x,.con v,λ_ _ _ ax=>.QL ax (Cq aj) (Cp ao aL)⟩
section
end
section
open PySem PySem.W PySem.W.X PyProof.Rows PySem.Calls PySem.SeqAt
open Mine (br KT)
open Mine
variable {B:db} {d:Nat}
theorem SS {P:Params}:(KT P).lookup 171=some (cZ [no]):=by rfl'
theorem SU {P:Params}:(KT P).lookup 193=some (cZ [kq]):=by rfl'
theorem HD {P:Params}:(KT P).lookup 250=some (cZ [(i 8 515)]):=by rfl'
theorem SV {P:Params}:(KT P).lookup 600=some (cZ [(i 0 956)]):=by rfl'
theorem SW {P:Params}:(KT P).lookup 709=some (cZ [(i 0 1130),(i 0 1131),(i 0 1132)]):=by rfl'
theorem SX {P:Params}:(KT P).lookup 813=some (cZ [no,no,no,no]):=by rfl'
theorem SY {P:Params}:(KT P).lookup 835=some (cZ [(i 12 1308),no]):=by rfl'
theorem S0 {P:Params}:(KT P).lookup 927=some (cZ [(s "" 1436),(s "" 1437),(s "" 1438),(s "" 1439),(s "" 1440),(s "" 1441),(s "usort" 1442),(s "uasort" 1443),(s "uksort" 1444)]):=by rfl'
theorem S1 {P:Params}:(KT P).lookup 928=some (cZ [(i 0 1446),(i 1 1447),(i 2 1448),(i 10 1449),(i 6 1450),(i 14 1451),(i 8 1452),(i 9 1453)]):=by rfl'
theorem S2 {P:Params}:(KT P).lookup 929=some (cZ [(s "plain" 1455),(s "number" 1456),(s "text" 1457),(s "small" 1458),(s "natural" 1459),(s "natural small" 1460),(s "plain" 1461),(s "number" 1462)]):=by rfl'
theorem S3 {P:Params}:(KT P).lookup 930=some (cZ [(i 0 1464),(i 1 1465),(i 2 1466),(i 3 1467),(i 9 1468),(i (-3) 1470),(s "a10" 1471),(s "a9" 1472),(s "B" 1473),(s "b" 1474),(s "x y" 1475),(s "" 1476)]):=by rfl'
theorem S4 {P:Params}:(KT P).lookup 931=some (cZ [(i 3 1478),(i (-2) 1480),(i 10 1481),(i 9 1482),(s "10" 1483),(s "9" 1484),(s "010" 1485),(s " 7" 1486),(s "a1" 1487),(s "a10" 1488),(s "A2" 1489),(s "b" 1490),(s "a 3" 1491),(s "" 1492),no,dR]):=by rfl'
end
noncomputable def ti:V:=.tup [.int 0,.int 1,.int 2,.int 10,.int 6,.int 14,.int 8,.int 9]
theorem Z8:aO [] B.h0 ti (.ref 928):=vv S1 rfl (.cons (.int _ _) (.cons (.int _ _) (.cons (.int _ _) (.cons (.int _ _) (.cons (.int _ _) (.cons (.int _ _) (.cons (.int _ _) (.cons (.int _ _) .nil))))))))
noncomputable def ra:V:=.tup [.int 0,.int 1,.int 2,.int 3,.int 9,.int (-3),.str [97,49,48],.str [97,57],.str [66],.str [98],.str [120,32,121],.str []]
theorem Z9:aO [] B.h0 ra (.ref 930):=vv S3 rfl (.cons (.int _ _) (.cons (.int _ _) (.cons (.int _ _) (.cons (.int _ _) (.cons (.int _ _) (.cons (.int _ _) (.cons (eO (by rfl') rfl) (.cons (eO (by rfl') rfl) (.cons (eO (by rfl') rfl) (.cons (eO (by rfl') rfl) (.cons (eO (by rfl') rfl) (.cons (eO (by rfl') rfl) .nil))))))))))))
noncomputable def yz:V:=.str [114,101,116,117,114,110,32,97,110,32,105,110,116,101,103,101,114,32,108,101,115,115,32,116,104,97,110,44,32,101,113,117,97,108,32,116,111,44,32,111,114,32,103,114,101,97,116,101,114,32,116,104,97,110,32,122,101,114,111,32,105,110,115,116,101,97,100]
theorem Z':aO [] B.h0 yz (Mine.s "return an integer less than, equal to, or greater than zero instead" 1496):=eO (by rfl') rfl
noncomputable def yA:V:=.tup [.str [],.str [],.str [],.str [],.str [],.str [],.str [117,115,111,114,116],.str [117,97,115,111,114,116],.str [117,107,115,111,114,116]]
theorem aab:aO [] B.h0 yA (.ref 927):=vv S0 rfl (.cons (eO (by rfl') rfl) (.cons (eO (by rfl') rfl) (.cons (eO (by rfl') rfl) (.cons (eO (by rfl') rfl) (.cons (eO (by rfl') rfl) (.cons (eO (by rfl') rfl) (.cons (eO (by rfl') rfl) (.cons (eO (by rfl') rfl) (.cons (eO (by rfl') rfl) .nil)))))))))
noncomputable def DC:V:=.tup [.str [112,108,97,105,110],.str [110,117,109,98,101,114],.str [116,101,120,116],.str [115,109,97,108,108],.str [110,97,116,117,114,97,108],.str [110,97,116,117,114,97,108,32,115,109,97,108,108],.str [112,108,97,105,110],.str [110,117,109,98,101,114]]
theorem aac:aO [] B.h0 DC (.ref 929):=vv S2 rfl (.cons (eO (by rfl') rfl) (.cons (eO (by rfl') rfl) (.cons (eO (by rfl') rfl) (.cons (eO (by rfl') rfl) (.cons (eO (by rfl') rfl) (.cons (eO (by rfl') rfl) (.cons (eO (by rfl') rfl) (.cons (eO (by rfl') rfl) .nil))))))))
noncomputable def rb:V:=.tup [.int 3,.int (-2),.int 10,.int 9,.str [49,48],.str [57],.str [48,49,48],.str [32,55],.str [97,49],.str [97,49,48],.str [65,50],.str [98],.str [97,32,51],.str [],.none,.bool true]
theorem aad:aO [] B.h0 rb (.ref 931):=vv S4 rfl (.cons (.int _ _) (.cons (.int _ _) (.cons (.int _ _) (.cons (.int _ _) (.cons (eO (by rfl') rfl) (.cons (eO (by rfl') rfl) (.cons (eO (by rfl') rfl) (.cons (eO (by rfl') rfl) (.cons (eO (by rfl') rfl) (.cons (eO (by rfl') rfl) (.cons (eO (by rfl') rfl) (.cons (eO (by rfl') rfl) (.cons (eO (by rfl') rfl) (.cons (eO (by rfl') rfl) (.cons (.none) (.cons (.bool _) .nil))))))))))))))))
noncomputable def yB:V:=.str [82,101,116,117,114,110,105,110,103,32,98,111,111,108,32,102,114,111,109,32,99,111,109,112,97,114,105,115,111,110,32,102,117,110,99,116,105,111,110,32,105,115,32,100,101,112,114,101,99,97,116,101,100,44,32]
theorem aae:aO [] B.h0 yB (Mine.s "Returning bool from comparison function is deprecated, " 1494):=eO (by rfl') rfl
theorem QH:B.jv "len"=none:=Cq (by rfl')
theorem QI:B.jv "list_of"=some (.ref 438):=uU (by rfl')
theorem Q3:B.nV "len"=some (.builtin "len"):=Cp (by decide) (by rfl')
theorem Yz:pS B 316 1 "keys":=⟨by rfl',by rfl',by rfl',by rfl',by decide,by decide,rfl⟩
theorem JI:pS B 316 2 "vals":=⟨by rfl',by rfl',by rfl',by rfl',by decide,by decide,rfl⟩
noncomputable def QN:List (tB B):=[t' "Absent" (.ref 203) (by rfl'),t' "Arr" (.ref 316) (by rfl'),t' "Obj" (.ref 224) (by rfl'),t' "Ref" (.ref 181) (by rfl'),t' "_law_call" (.ref 1030) (by rfl'),qe "_law_flags" ti (.ref 928) (by rfl') Z8,qe "_law_keys" ra (.ref 930) (by rfl') Z9,qe "_law_more" yz (Mine.s "return an integer less than, equal to, or greater than zero instead" 1496) (by rfl') Z',qe "_law_names" yA (.ref 927) (by rfl') aab,qe "_law_rules" DC (.ref 929) (by rfl') aac,qe "_law_values" rb (.ref 931) (by rfl') aad,qe "_law_word" yB (Mine.s "Returning bool from comparison function is deprecated, " 1494) (by rfl') aae,AS "bool" (.type "bool") (by rfl') (by decide) (by rfl'),AS "int" (.type "int") (by rfl') (by decide) (by rfl'),AS "str" (.type "str") (by rfl') (by decide) (by rfl')]
noncomputable def M9:List (Cl B):=[jl "chr" 1 (.builtin "chr") rU (by rfl') (by decide) (by rfl') .builtin cw.chr,jl "dict" 1 (.type "dict") t1 (by rfl') (by decide) (by rfl') .type cw.dict,jl "int" 1 (.type "int") kp (by rfl') (by decide) (by rfl') .type cw.int,jl "isinstance" 2 (.builtin "isinstance") ey (by rfl') (by decide) (by rfl') .builtin cw.mI,jl "len" 1 (.builtin "len") bG (by rfl') (by decide) (by rfl') .builtin cw.len,jl "list" 1 (.type "list") lQ (by rfl') (by decide) (by rfl') .type cw.list,jl "list" 9 (.type "list") p9 (by rfl') (by decide) (by rfl') .type cw.Tr,jl "max" 2 (.builtin "max") rX (by rfl') (by decide) (by rfl') .builtin cw.max2,jl "max" 1 (.builtin "max") t3 (by rfl') (by decide) (by rfl') .builtin cw.TV,jl "min" 2 (.builtin "min") oB (by rfl') (by decide) (by rfl') .builtin cw.min2,jl "ord" 1 (.builtin "ord") hd (by rfl') (by decide) (by rfl') .builtin cw.ord,jl "range" 1 (.type "range") dX (by rfl') (by decide) (by rfl') .type cw.range,jl "range" 2 (.type "range") dX (by rfl') (by decide) (by rfl') .type cw.range,jl "range" 3 (.type "range") dX (by rfl') (by decide) (by rfl') .type cw.range,jl "str" 1 (.type "str") jR (by rfl') (by decide) (by rfl') .type cw.str]
noncomputable def Ue:List (k0 B):=[⟨"append",1,0,c2,c0,.builtin "list.append",.list PySem.F.slot_list_append (by rfl'),.builtin,cw.app⟩,⟨"insert",2,0,c2,rV,.builtin "list.insert",.list PySem.F.slot_list_insert (by rfl'),.builtin,cw.ins⟩,⟨"join",1,0,ik,p8,.builtin "str.join",.str PySem.F.slot_str_join (by rfl'),.builtin,cw.join⟩,⟨"lower",0,0,ik,AM,.builtin "str.lower",.str PySem.F.slot_str_lower (by rfl'),.builtin,cw.lower⟩,⟨"strip",0,0,ik,rY,.builtin "str.strip",.str PySem.F.slot_str_strip (by rfl'),.builtin,cw.strip⟩,⟨"strip",1,0,ik,rY,.builtin "str.strip",.str PySem.F.slot_str_strip (by rfl'),.builtin,cw.strip⟩,⟨"upper",0,0,ik,p',.builtin "str.upper",.str PySem.F.slot_str_upper (by rfl'),.builtin,cw.upper⟩]
noncomputable def Qp:List (vK B):=[d2 181 0 "value" true (by rfl'),d2 181 1 "holders" true (by rfl'),d2 181 2 "types" true (by rfl'),d2 203 0 "was_unset" false (by rfl'),d2 316 0 "is_packed" true (by rfl'),d2 316 1 "keys" true (by rfl'),d2 316 2 "vals" true (by rfl'),d2 316 3 "heads" true (by rfl'),d2 316 4 "nexts" true (by rfl'),d2 316 5 "size" true (by rfl'),d2 316 6 "count" true (by rfl'),d2 316 7 "next" true (by rfl'),d2 316 8 "at" true (by rfl'),d2 316 9 "is_shared" true (by rfl'),d2 316 10 "walks" true (by rfl'),d2 823 0 "func" false (by rfl'),d2 823 1 "this" false (by rfl'),d2 823 2 "cls" false (by rfl'),d2 823 3 "static" false (by rfl'),d2 823 4 "vars" false (by rfl'),d2 823 5 "args" false (by rfl'),d2 922 0 "tools" true (by rfl'),d2 922 1 "evals" false (by rfl'),d2 922 2 "execs" false (by rfl'),d2 922 3 "top" false (by rfl'),d2 922 4 "frame" false (by rfl'),d2 922 5 "notes" true (by rfl'),d2 922 6 "silent" true (by rfl'),d2 922 7 "parts" false (by rfl'),d2 922 8 "buffers" false (by rfl'),d2 922 9 "depth" false (by rfl'),d2 922 10 "limit" false (by rfl'),d2 922 11 "spent" false (by rfl'),d2 922 12 "fuel" false (by rfl'),d2 922 13 "handles" false (by rfl'),d2 922 14 "classes" false (by rfl'),d2 922 15 "functions" false (by rfl'),d2 922 16 "constants" false (by rfl'),d2 922 17 "autoload_order" false (by rfl'),d2 922 18 "made" false (by rfl'),d2 922 19 "is_strict" false (by rfl')]
noncomputable def ME:List Str:=["error","object_as_one","compare_objects","object_against","compare_arrays","has_text","check_plain","given","_wall","rows_order","LeftOut","Misused","Thrown","instance_of","is_subclass"]
noncomputable def mx (st:Stmt):List Str:=(Mine.fArgs st).args.map (·.arg)
noncomputable def FN {a0:Type} (f:Array Value->Option a0):Data->Option a0 | .fields v=>f v | _=>none
noncomputable def Kn {a0:Type} (f:Str->Option a0):Value->Option a0 | .str x _=>f x | _=>none
theorem Oz {a0:Type} {f:Array Value->Option a0} {r:a0} {v:Data} {K:Data->Prop} (k:∀x,f x=some r->K (.fields x)) (e:FN f v=some r):K v:=by
 cases v <;> first | exact bU e | exact k _ e
theorem Z3 {a0:Type} {f:Str->Option a0} {r:a0} {v:Value} {K:Value->Prop} (k:∀x t,f x=some r->K (.str x t)) (e:Kn f v=some r):K v:=by
 cases v <;> first | exact bU e | exact k _ _ e
noncomputable def pX (K:Frag) (eD:Nat) (q:Str):Bool:=((K.lookup eD).bind λo=>FN (λvs=>(vs[1]?).bind (Kn λx=>if (x == q)=true then some () else none)) o.data).isSome
theorem Fg {eD:Nat} {q:Str} (h:pX (KT B.w.params) eD q=true):B.h0.CodeRec (.ref eD) q:=by
 refine cH (Option.isSome_iff_exists.mp h) λ_ e=>bZ (λo av e=>?_) e;refine Oz (K:=λd=>o.data=d->B.h0.CodeRec (.ref eD) q) (λvs e aC=>bZ (λv bN e=>?_) e) e rfl;refine Z3 (K:=λv=>vs[1]? =some v->B.h0.CodeRec (.ref eD) q) (λx t=>ds λz _ bN=>?_) e bN;exact Oh av aC (eq_of_beq z▸bN)
noncomputable def mV (cl:Bool) (st:Stmt) (n:Nat) (pl:List (Option Nat)):Bool:=
 let sc:=Mine.fScope st
 decide (sc.kind=.function) && (!sc.isCoroutine && (!sc.isGenerator && (iJ sc.names && ((if cl then Fi sc.names && decide (((cellsFrom 0 sc.names []).map (·.1)).Nodup) else sc.names.all λp=>match p.2 with | .cell=>false | .free=>false | _=>true) &&
  ((decide (mx st).Nodup && (mx st).all λx=>sc.names.lookup x == some .local || (cl && sc.names.lookup x == some .cell)) && (decide (u9 sc.names (mx st)=pl) && decide ((mx st).length=n)))))))
theorem sO {cl:Bool} {st:Stmt} {n:Nat} {pl:List (Option Nat)} (h:mV cl st n pl=true):(Mine.fScope st).kind=.function:=by
 unfold mV at h;rw [Bool.and_eq_true] at h;exact of_decide_eq_true h.1
noncomputable abbrev jo (st:Stmt) (q:Str) (lN c3:Value) (eD:Nat):FuncData:=Mine.AQ 3 st q lN c3 (.ref eD)
theorem kX (st:Stmt) (q:Str) (lN c3:Value) {a n m:Nat} {df:List V} {pl:List (Option Nat)} {g:aU} (e4:(KT B.w.params).lookup a=some (Mine.qc (jo st q lN c3 (a - 1)))) (dC:pX (KT B.w.params) (a - 1) q=true) (eW:mV false st m pl=true) (aP:m=n+df.length)
  (aA:jJ B (jo st q lN c3 (a - 1)) n df (mx st)) (lS:∀L,hM B (t6 (jo st q lN c3 (a - 1)) L a d rfl rfl (sO eW)) (Mine.fBody st) g):bv B (d+1) (.ref a) (bC n df pl g):=by
 have h:=eW;unfold mV at h;simp only [Bool.and_eq_true,decide_eq_true_eq,Bool.not_eq_true',Bool.false_and,Bool.or_false,if_false,Bool.false_eq_true] at h;refine yM h λaj ao aL cm eg jS uc ud=>?_;exact bv.def_ e4 rfl rfl rfl rfl rfl (sO eW) (Fg dC) ao aL cm eg (by rw [Bool.and_eq_true,decide_eq_true_eq];exact jS) uc (ud.trans aP) aA lS
theorem tx (k:Nat) (c3:Value) {a n:Nat} {pl:List (Option Nat)} {g:aU} (e4:(KT B.w.params).lookup a=some (Mine.qc (jo (Mine.Q k) (Mine.hA (Mine.Q k)) .none c3 (a - 1)))) (dC:pX (KT B.w.params) (a - 1) (Mine.hA (Mine.Q k))=true) (eW:mV false (Mine.Q k) n pl=true)
  (aA:jJ B (jo (Mine.Q k) (Mine.hA (Mine.Q k)) .none c3 (a - 1)) n [] (mx (Mine.Q k))) (lS:∀L,hM B (t6 (jo (Mine.Q k) (Mine.hA (Mine.Q k)) .none c3 (a - 1)) L a d rfl rfl (sO eW)) (Mine.fBody (Mine.Q k)) g):bv B (d+1) (.ref a) (bC n [] pl g):=
 kX _ _ _ c3 e4 dC eW rfl aA lS
theorem Lq (k j:Nat) (c3:Value) {a n:Nat} {pl:List (Option Nat)} {g:aU} (e4:(KT B.w.params).lookup a=some (Mine.qc (jo (Mine.R k j) (Mine.jx k j) .none c3 (a - 1)))) (dC:pX (KT B.w.params) (a - 1) (Mine.jx k j)=true) (eW:mV false (Mine.R k j) n pl=true)
  (aA:jJ B (jo (Mine.R k j) (Mine.jx k j) .none c3 (a - 1)) n [] (mx (Mine.R k j))) (lS:∀L,hM B (t6 (jo (Mine.R k j) (Mine.jx k j) .none c3 (a - 1)) L a d rfl rfl (sO eW)) (Mine.fBody (Mine.R k j)) g):bv B (d+1) (.ref a) (bC n [] pl g):=
 kX _ _ _ c3 e4 dC eW rfl aA lS
theorem cj (k:Nat) (c3:Value) (t:fw B) (o:mv) {a n:Nat} {pl:List (Option Nat)} {g:aU} (e4:(KT B.w.params).lookup a=some (Mine.qc (jo (Mine.Q k) (Mine.hA (Mine.Q k)) .none c3 (a - 1)))) (dC:pX (KT B.w.params) (a - 1) (Mine.hA (Mine.Q k))=true) (eW:mV false (Mine.Q k) n pl=true)
  (aA:jJ B (jo (Mine.Q k) (Mine.hA (Mine.Q k)) .none c3 (a - 1)) n [] (mx (Mine.Q k))) (h:val (ow (dn t 40) ⟨(Mine.fScope (Mine.Q k)).names,true,d,o⟩ (Mine.fBody (Mine.Q k)))=some g):bv B (d+1) (.ref a) (bC n [] pl g):=
 kX _ _ _ c3 e4 dC eW rfl aA λL=>gp o h
theorem pN (k j:Nat) (c3:Value) (t:fw B) (o:mv) {a n:Nat} {pl:List (Option Nat)} {g:aU} (e4:(KT B.w.params).lookup a=some (Mine.qc (jo (Mine.R k j) (Mine.jx k j) .none c3 (a - 1)))) (dC:pX (KT B.w.params) (a - 1) (Mine.jx k j)=true) (eW:mV false (Mine.R k j) n pl=true)
  (aA:jJ B (jo (Mine.R k j) (Mine.jx k j) .none c3 (a - 1)) n [] (mx (Mine.R k j))) (h:val (ow (dn t 40) ⟨(Mine.fScope (Mine.R k j)).names,true,d,o⟩ (Mine.fBody (Mine.R k j)))=some g):bv B (d+1) (.ref a) (bC n [] pl g):=
 kX _ _ _ c3 e4 dC eW rfl aA λL=>gp o h
theorem rq (k:Nat) (c3:Value) {a n:Nat} {pl:List (Option Nat)} {g:aU} (e4:(KT B.w.params).lookup a=some (Mine.qc (jo (Mine.Q k) (Mine.hA (Mine.Q k)) .none c3 (a - 1)))) (dC:pX (KT B.w.params) (a - 1) (Mine.hA (Mine.Q k))=true) (eW:mV true (Mine.Q k) n pl=true)
  (aA:∀cI:List Value,cI.length=n->bindArgs (jo (Mine.Q k) (Mine.hA (Mine.Q k)) .none c3 (a - 1)) ⟨cI,[]⟩=pure ((mx (Mine.Q k)).zip cI)) (lS:∀L,hM B (wg (Mine.hA (Mine.Q k)) (Mine.fScope (Mine.Q k)) L a (.ref (a - 1)) d (sO eW)) (Mine.fBody (Mine.Q k)) g):bv B (d+1) (.ref a) (bC n [] pl g):=by
 have h:=eW;unfold mV at h;simp only [Bool.and_eq_true,decide_eq_true_eq,Bool.not_eq_true',Bool.true_and,if_true] at h;refine yM h λaj ao aL cm eg jS uc ud=>?_;exact bv.cells e4 rfl (sO eW) (Fg dC) ao aL cm eg.1 (by rw [Bool.and_eq_true,decide_eq_true_eq];exact jS) eg.2 uc ud aA lS
theorem E1 {fd:FuncData} {xs:List Str} (h:bindArgs fd ⟨[],[]⟩=pure (xs.zip ([]++[]))):jJ B fd 0 [] xs:=rG λl aW=>by obtain rfl:=HM aW;exact h
theorem fF {fd:FuncData} {xs:List Str} (h:∀J,bindArgs fd ⟨[J],[]⟩=pure (xs.zip ([J]++[]))):jJ B fd 1 [] xs:=rG λl aW=>by obtain ⟨J,rfl⟩:=mK aW;exact h _
theorem en {fd:FuncData} {xs:List Str} (h:∀J O,bindArgs fd ⟨[J,O],[]⟩=pure (xs.zip ([J,O]++[]))):jJ B fd 2 [] xs:=rG λl aW=>by obtain ⟨J,O,rfl⟩:=uL aW;exact h _ _
theorem jQ {fd:FuncData} {xs:List Str} (h:∀J O ah,bindArgs fd ⟨[J,O,ah],[]⟩=pure (xs.zip ([J,O,ah]++[]))):jJ B fd 3 [] xs:=rG λl aW=>by obtain ⟨J,O,ah,rfl⟩:=w5 aW;exact h _ _ _
theorem rF {fd:FuncData} {xs:List Str} (h:∀J O ah au,bindArgs fd ⟨[J,O,ah,au],[]⟩=pure (xs.zip ([J,O,ah,au]++[]))):jJ B fd 4 [] xs:=rG λl aW=>by obtain ⟨J,O,ah,au,rfl⟩:=B3 aW;exact h _ _ _ _
theorem wd {fd:FuncData} {xs:List Str} (h:∀J O ah au ay,bindArgs fd ⟨[J,O,ah,au,ay],[]⟩=pure (xs.zip ([J,O,ah,au,ay]++[]))):jJ B fd 5 [] xs:=rG λl aW=>by obtain ⟨J,O,ah,au,ay,rfl⟩:=Tp aW;exact h _ _ _ _ _
noncomputable abbrev bP (c:List (Cl B)) (m:List (k0 B)):fw B:=⟨QN,c++M9,m++Ue,Qp,ME⟩
end
section
open PySem PySem.W PySem.W.X PyProof.Rows PySem.Calls PySem.SeqAt
open Mine (br KT)
variable {B:db} {d:Nat}
noncomputable def v7:aU:=(af (aR (nt (iI oLe oLt (ab (.int 0)) (G 1) (ak bG (H (aN 316 2 (G 0)) aa))) (p5 (ak ey (H (aT (aN 316 2 (G 0)) (G 1)) (H (ab (.con (.ref 203))) aa)))))) aq)
noncomputable def hE:bf:=bC 2 [] [some 0,some 1,none,none,none] v7
theorem XM:bv B 1 (.ref 327) hE:=
 cj 26 Mine.dm (bP [] []) {} (by rfl') (by rfl') (by rfl') (en λ_ _=>rfl) (by rfl')
noncomputable def rJ:Cl B:=bY "is_living" 2 1 327 hE (by rfl') (by rfl') XM
noncomputable def zs:aU:=(af (aR (cn (a' (aN 316 0 (G 0))) (G 1) (aT (aN 316 1 (G 0)) (G 1)))) aq)
noncomputable def sk:bf:=bC 2 [] [some 0,some 1] zs
theorem WY:bv B 1 (.ref 313) sk:=
 pN 25 8 Mine.dm (bP [] []) {} (by rfl') (by rfl') (by rfl') (en λ_ _=>rfl) (by rfl')
noncomputable def Ua:k0 B:=o9 "key_at" 1 1 316 313 sk (by rfl') (by rfl') (by rfl') (by rfl') (by rfl') WY
noncomputable def z8:aU:=(af (aR (e' true (ak dX (H (ak bG (H (aN 316 2 (G 0)) aa)) aa)) [none,none,none,some 0] (cx 1) (a' (ak hE (H (G 3) (H (G 1) aa)))) (bM (H (bS (eT 316) sk (G 3) (H (G 1) aa)) (H (aT (aN 316 2 (G 3)) (G 1)) aa))) 100)) aq)
noncomputable def lq:bf:=bC 1 [] [some 0,none,none] z8
noncomputable def v0:fw B:=bP [rJ] [Ua]
theorem Yi:bv B 2 (.ref 412) lq:=
 rq 39 Mine.dm (by rfl') (by rfl') (by rfl') (λl h=>by obtain ⟨J,rfl⟩:=mK h;rfl) λL=>(.cons (.ret (.comp (cap:=true) ⟨rfl,by rfl',by rfl',by rfl',by rfl',by rfl',rfl,λC hk=>k9 {} (by rfl'),λC hk=>.one (p2 (t:=v0) {} (by rfl')),λC hk=>(fy (t:=v0) {} (by rfl'))⟩ (fy (t:=v0) {} (by rfl')))) (gp (t:=v0) {} (by rfl')))
noncomputable def Ai:Cl B:=bY "slots_of" 1 2 412 lq (by rfl') (by rfl') Yi
noncomputable def zR:aU:=(af (a7 (a' (ak ey (H (G 0) (H (ab (.con (.ref 181))) aa)))) (af (a1 0 (aN 181 0 (G 0))) aq) aq) (af (a7 (a' (ak ey (H (G 0) (H (ab (.con (.ref 203))) aa)))) (af (aR (ab .none)) aq) aq) (af (aR (G 0)) aq)))
noncomputable def hj:bf:=bC 1 [] [some 0,none,none,none] zR
theorem XA:bv B 1 (.ref 235) hj:=
 cj 22 Mine.gx (bP [] []) {} (by rfl') (by rfl') (by rfl') (fF λ_=>rfl) (by rfl')
noncomputable def Fs:Cl B:=bY "deref" 1 1 235 hj (by rfl') (by rfl') XA
noncomputable def Mo:aU:=(af (a7 (aD iU (G 0) (ab .none)) (af (aR (ab (.str [110,117,108,108]))) aq) aq) (af (a7 (a' (ak ey (H (G 0) (H (ab (.con (.type "bool"))) aa)))) (af (aR (ab (.str [98,111,111,108]))) aq) aq) (af (a7 (a' (ak ey (H (G 0) (H (ab (.con (.type "int"))) aa)))) (af (aR (ab (.str [105,110,116]))) aq) aq) (af (a7 (a' (ak ey (H (G 0) (H (ab (.con (.type "str"))) aa)))) (af (aR (ab (.str [115,116,114,105,110,103]))) aq) aq) (af (a7 (a' (ak ey (H (G 0) (H (ab (.con (.ref 316))) aa)))) (af (aR (ab (.str [97,114,114,97,121]))) aq) aq) (af (a7 (a' (ak ey (H (G 0) (H (ab (.con (.ref 224))) aa)))) (af (aR (ab (.str [111,98,106,101,99,116]))) aq) aq) (af q0 aq)))))))
noncomputable def gc:bf:=bC 1 [] [some 0,none,none,none,none,none,none,none] Mo
theorem XN:bv B 1 (.ref 452) gc:=
 cj 46 Mine.l6 (bP [] []) {} (by rfl') (by rfl') (by rfl') (fF λ_=>rfl) (by rfl')
noncomputable def oq:Cl B:=bY "kind" 1 1 452 gc (by rfl') (by rfl') XN
noncomputable def zK:aU:=(af (a1 1 (cM aa)) (af (e7 (ak lq (H (G 0) aa)) (f9 [2,3]) (af (b9 (bS c2 c0 (G 1) (H (bM (H (ak gc (H (G 2) aa)) (H (G 2) (H (ak gc (H (ak hj (H (G 3) aa)) aa)) (H (ak hj (H (G 3) aa)) (H (ak ey (H (G 3) (H (ab (.con (.ref 181))) aa))) aa)))))) aa))) aq) 100) (af (aR (ib (G 1))) aq)))
noncomputable def lX:bf:=bC 1 [] [some 0,none,none,none,none,none,none,none,none] zK
theorem Xi:bv B 3 (.ref 999) lX:=
 cj 122 Mine.eF (bP [Fs,oq,Ai] []) {ap:=["rows"]} (by rfl') (by rfl') (by rfl') (fF λ_=>rfl) (by rfl')
noncomputable def Nt:Cl B:=bY "_law_seen" 1 3 999 lX (by rfl') (by rfl') Xi
noncomputable def zJ:aU:=(af (aR (e' true (ak lq (H (G 0) aa)) [none,none,none,none,none] (f9 [1,2]) (a' (ak ey (H (G 2) (H (ab (.con (.ref 181))) aa)))) (G 2) 100)) aq)
noncomputable def nP:bf:=bC 1 [] [some 0,none] zJ
noncomputable def vX:fw B:=bP [Ai] []
theorem Xg:bv B 3 (.ref 1016) nP:=
 tx 125 Mine.eF (by rfl') (by rfl') (by rfl') (fF λ_=>rfl) λL=>(.cons (.ret (.comp (cap:=false) ⟨rfl,by rfl',by rfl',by rfl',by rfl',by rfl',rfl,λC hk=>k9 {} (by rfl'),λC hk=>.one (p2 (t:=vX) {} (by rfl')),λC hk=>(fy (t:=vX) {} (by rfl'))⟩ (fy (t:=vX) {} (by rfl')))) (gp (t:=vX) {} (by rfl')))
noncomputable def Nq:Cl B:=bY "_law_refs" 1 3 1016 nP (by rfl') (by rfl') Xg
noncomputable def v6:aU:=(af (a7 (bp (a' (G 1)) (bp (aD gw (G 0) (ef aa)) bW)) (af (aR (ak bG (H (G 0) aa))) aq) aq) (af (a1 2 (e' true (G 0) [none,none,none,none] (f9 [1,2]) (aD oEq (ak gc (H (G 1) aa)) (ab (.str [105,110,116]))) (G 1) 100)) (af (aR (cn (aD gw (G 2) (ef aa)) (aM cV (ak t3 (H (G 2) aa)) (ab (.int 1))) (dU ej (aM kL (ab (.int 2)) (ab (.int 63)))))) aq)))
noncomputable def sr:bf:=bC 2 [] [some 0,some 1,none,none,none] v6
noncomputable def tK:fw B:=bP [oq] []
theorem Xc:bv B 2 (.ref 1011) sr:=
 tx 124 Mine.eF (by rfl') (by rfl') (by rfl') (en λ_ _=>rfl) λL=>(.cons (hv (t:=tK) {} (by rfl')) (.cons (.yj (k:=2) rfl (cap:=false) ⟨rfl,by rfl',by rfl',by rfl',by rfl',by rfl',rfl,λC hk=>k9 {} (by rfl'),λC hk=>.one (p2 (t:=tK) {} (by rfl')),λC hk=>(fy (t:=tK) {} (by rfl'))⟩ (fy (t:=tK) {} (by rfl')) (by with_unfolding_all rfl)) (gp (t:=tK) {} (by rfl'))))
noncomputable def Nn:Cl B:=bY "_law_next" 2 2 1011 sr (by rfl') (by rfl') Xc
noncomputable def zZ:aU:=(af (aR (ak bG (H (e' true (G 0) [none,none,some 1] (cx 1) (aD oLt (G 1) (G 2)) (G 1) 100) aa))) aq)
noncomputable def mP:bf:=bC 2 [] [some 0,some 1,none] zZ
noncomputable def tL:fw B:=bP [] []
theorem XX:bv B 1 (.ref 360) mP:=
 rq 31 Mine.dm (by rfl') (by rfl') (by rfl') (λl h=>by obtain ⟨J,O,rfl⟩:=uL h;rfl) λL=>(.cons (.ret (.Fa (k:=2) rfl QH Q3 .builtin (cw.len (d:=0)) (Nat.zero_le _) (.cons (.comp (cap:=true) ⟨rfl,by rfl',by rfl',by rfl',by rfl',by rfl',rfl,λC hk=>k9 {} (by rfl'),λC hk=>.one (p2 (t:=tL) {} (by rfl')),λC hk=>(fy (t:=tL) {} (by rfl'))⟩ (fy (t:=tL) {} (by rfl'))) (As (t:=tL) {} (by rfl'))))) (gp (t:=tL) {} (by rfl')))
noncomputable def Fx:Cl B:=bY "many_ahead" 2 1 360 mP (by rfl') (by rfl') XX
noncomputable def v8:aU:=(af (aR (e' true (ak dX (H (ak bG (H (aN 316 2 (G 0)) aa)) aa)) [none,none,none,some 0] (cx 1) (a' (ak hE (H (G 3) (H (G 1) aa)))) (G 1) 100)) aq)
noncomputable def nS:bf:=bC 1 [] [some 0,none,none] v8
noncomputable def vY:fw B:=bP [rJ] []
theorem XU:bv B 2 (.ref 708) nS:=
 rq 86 Mine.dV (by rfl') (by rfl') (by rfl') (λl h=>by obtain ⟨J,rfl⟩:=mK h;rfl) λL=>(.cons (.ret (.comp (cap:=true) ⟨rfl,by rfl',by rfl',by rfl',by rfl',by rfl',rfl,λC hk=>k9 {} (by rfl'),λC hk=>.one (p2 (t:=vY) {} (by rfl')),λC hk=>(fy (t:=vY) {} (by rfl'))⟩ (fy (t:=vY) {} (by rfl')))) (gp (t:=vY) {} (by rfl')))
noncomputable def NL:Cl B:=bY "living_places" 1 2 708 nS (by rfl') (by rfl') XU
noncomputable def z4:aU:=(af (a1 6 (ak nS (H (G 1) aa))) (af (a1 7 (aM pe (ak nS (H (G 2) aa)) (ef (H (ak bG (H (aN 316 2 (G 2)) aa)) aa)))) (af (e7 (ak p9 (H (aN 316 10 (G 1)) aa)) (cx 8) (af (a1 9 (ak mP (H (G 6) (H (nu (aN 316 10 (G 1)) (G 8)) aa)))) (af (a7 (aD hl (G 9) (G 3)) (af (a1 9 (aM cV (aM eA (ak rX (H (G 9) (H (aM cV (G 3) (G 4)) aa))) (G 4)) (G 5))) aq) aq) (af (kP (aN 316 10 (G 2)) (G 8) (aT (G 7) (ak oB (H (G 9) (H (aM eA (ak bG (H (G 7) aa)) (ab (.int 1))) aa))))) aq))) 100) (af (bI 181 0 (G 0) (G 2)) aq))))
noncomputable def qK:bf:=bC 3 [.int 0,.int 0,.int 0] [some 0,some 1,some 2,some 3,some 4,some 5,none,none,none,none,none,none,none,none,none,none] z4
theorem Yc:bv B 3 (.ref 716) qK:=
 kX (Mine.Q 87) (Mine.hA (Mine.Q 87)) (.ref 709) Mine.dV (df:=[.int 0,.int 0,.int 0]) (by rfl') (by rfl') (by rfl') rfl (om (T:=709) SW rfl rfl [(Mine.i 0 1130),(Mine.i 0 1131),(Mine.i 0 1132)] (.cons (.int _ _) (.cons (.int _ _) (.cons (.int _ _) .nil))) λl h=>by obtain ⟨J,O,ah,rfl⟩:=w5 h;exact ⟨_,rfl,rfl⟩) λL=>gp (t:=bP [NL,Fx] []) {cat:=true} (by rfl')
noncomputable def N0:Cl B:=bY "put_back" 3 3 716 qK (by rfl') (by rfl') Yc
noncomputable def Mp:aU:=(af (aR (dU ej (aM kL (ab (.int 2)) (ab (.int 63))))) aq)
noncomputable def o2:bf:=bC 0 [] [] Mp
theorem XS:bv B 1 (.ref 100) o2:=
 cj 7 Mine.n3 (bP [] []) {} (by rfl') (by rfl') (by rfl') (E1 rfl) (by rfl')
noncomputable def wj:Cl B:=bY "least" 0 1 100 o2 (by rfl') (by rfl') XS
noncomputable def v4:aU:=(af (bI 316 0 (G 0) (ab (.bool true))) (af (bI 316 1 (G 0) (cM aa)) (af (bI 316 2 (G 0) (cM aa)) (af (bI 316 3 (G 0) (cM aa)) (af (bI 316 4 (G 0) (cM aa)) (af (bI 316 5 (G 0) (G 1)) (af (bI 316 6 (G 0) (ab (.int 0))) (af (bI 316 7 (G 0) (ak o2 aa)) (af (bI 316 8 (G 0) (ab (.int 0))) (af (bI 316 9 (G 0) (ab (.bool false))) (af (bI 316 10 (G 0) hc) aq)))))))))))
noncomputable def oQ:bf:=bC 1 [.int 8] [some 0,some 1,none] v4
theorem WW:bv B 2 (.ref 257) oQ:=
 kX (Mine.R 25 0) (Mine.jx 25 0) (.ref 250) Mine.dm (df:=[.int 8]) (by rfl') (by rfl') (by rfl') rfl (om (T:=250) HD rfl rfl [(Mine.i 8 515)] (.cons (.int _ _) .nil) λl h=>by obtain ⟨J,rfl⟩:=mK h;exact ⟨_,rfl,rfl⟩) λL=>gp (t:=bP [wj] []) {} (by rfl')
theorem M2:bv B 3 (.ref 316) (dO 316 oQ):=bv.cls (by rfl') (by rfl') (by rfl') WW
noncomputable def Fe:Cl B:=bY "Arr" 0 3 316 (dO 316 oQ) (by rfl') (by rfl') M2
noncomputable def Mk:aU:=(af (aR (aM eA (aM kL (ab (.int 2)) (ab (.int 63))) (ab (.int 1)))) aq)
noncomputable def o1:bf:=bC 0 [] [] Mk
theorem XF:bv B 1 (.ref 107) o1:=
 cj 8 Mine.n3 (bP [] []) {} (by rfl') (by rfl') (by rfl') (E1 rfl) (by rfl')
noncomputable def Ae:Cl B:=bY "greatest" 0 1 107 o1 (by rfl') (by rfl') XF
noncomputable def zp:aU:=(af (bI 203 0 (G 0) (G 1)) aq)
noncomputable def mM:bf:=bC 1 [.bool false] [some 0,some 1] zp
theorem WS:bv B 1 (.ref 200) mM:=
 kX (Mine.R 20 0) (Mine.jx 20 0) (.ref 193) Mine.gx (df:=[.bool false]) (by rfl') (by rfl') (by rfl') rfl (om (T:=193) SU rfl rfl [.bool false] (.cons (.bool _) .nil) λl h=>by obtain ⟨J,rfl⟩:=mK h;exact ⟨_,rfl,rfl⟩) λL=>gp (t:=bP [] []) {} (by rfl')
theorem M1:bv B 2 (.ref 203) (dO 203 mM):=bv.cls (by rfl') (by rfl') (by rfl') WS
noncomputable def Fd:Cl B:=bY "Absent" 0 2 203 (dO 203 mM) (by rfl') (by rfl') M1
noncomputable def zN:aU:=(af (g4 (aD oLt (ak bG (H (aN 316 2 (G 0)) aa)) (G 1)) (af (b9 (bS c2 c0 (aN 316 2 (G 0)) (H (la (ak (dO 203 mM) aa)) aa))) aq) 100) (af (b9 (bS c2 c0 (aN 316 2 (G 0)) (H (G 2) aa))) aq))
noncomputable def oX:bf:=bC 3 [] [some 0,some 1,some 2,none,none] zN
theorem Xn:bv B 3 (.ref 386) oX:=
 cj 35 Mine.dm (bP [Fd] []) {} (by rfl') (by rfl') (by rfl') (jQ λ_ _ _=>rfl) (by rfl')
noncomputable def Nv:Cl B:=bY "add_packed" 3 3 386 oX (by rfl') (by rfl') Xn
noncomputable def zT:aU:=(af (a7 (a' (ak ey (H (G 0) (H (ab (.con (.type "int"))) aa)))) (af (aR (aM fH (G 0) (aM kL (ab (.int 2)) (ab (.int 64))))) aq) aq) (af (a1 1 (ab (.int 5381))) (af (e7 (G 0) (cx 2) (af (a1 1 (aM fH (aM cV (aM gM (G 1) (ab (.int 33))) (ak hd (H (G 2) aa))) (aM kL (ab (.int 2)) (ab (.int 64))))) aq) 100) (af (aR (aM CM (G 1) (aM kL (ab (.int 2)) (ab (.int 63))))) aq))))
noncomputable def qG:bf:=bC 1 [] [some 0,none,none,none,none,none] zT
theorem XG:bv B 1 (.ref 334) qG:=
 cj 27 Mine.dm (bP [] []) {} (by rfl') (by rfl') (by rfl') (fF λ_=>rfl) (by rfl')
noncomputable def Fu:Cl B:=bY "hash_of" 1 1 334 qG (by rfl') (by rfl') XG
noncomputable def zW:aU:=(af (a1 2 (aM fH (ak qG (H (aT (aN 316 1 (G 0)) (G 1)) aa)) (aN 316 5 (G 0)))) (af (jC (aN 316 4 (G 0)) (G 1) (aT (aN 316 3 (G 0)) (G 2))) (af (jC (aN 316 3 (G 0)) (G 2) (G 1)) aq)))
noncomputable def o3:bf:=bC 2 [] [some 0,some 1,none,none] zW
theorem XT:bv B 2 (.ref 341) o3:=
 cj 28 Mine.dm (bP [Fu] []) {} (by rfl') (by rfl') (by rfl') (en λ_ _=>rfl) (by rfl')
noncomputable def Fw:Cl B:=bY "link" 2 2 341 o3 (by rfl') (by rfl') XT
noncomputable def zO:aU:=(af (bI 316 3 (G 0) (oz (cM (H (dU ej (ab (.int 1))) aa)) (aN 316 5 (G 0)))) (af (bI 316 4 (G 0) (oz (cM (H (dU ej (ab (.int 1))) aa)) (ak bG (H (aN 316 2 (G 0)) aa)))) (af (e7 (ak dX (H (ak bG (H (aN 316 2 (G 0)) aa)) aa)) (cx 1) (af (a7 (a' (ak hE (H (G 0) (H (G 1) aa)))) (af (b9 (ak o3 (H (G 0) (H (G 1) aa)))) aq) aq) aq) 100) aq)))
noncomputable def sv:bf:=bC 1 [] [some 0,none,none,none,none,none] zO
theorem Xr:bv B 3 (.ref 348) sv:=
 cj 29 Mine.dm (bP [rJ,Fw] []) {} (by rfl') (by rfl') (by rfl') (fF λ_=>rfl) (by rfl')
noncomputable def Fq:Cl B:=bY "chains" 1 3 348 sv (by rfl') (by rfl') Xr
noncomputable def z6:aU:=(af (a1 1 (e' true (ak dX (H (ak bG (H (aN 316 2 (G 0)) aa)) aa)) [none,none,none,some 0] (cx 1) (a' (ak hE (H (G 3) (H (G 1) aa)))) (G 1) 100)) (af (bI 316 8 (G 0) (ak mP (H (G 1) (H (aN 316 8 (G 0)) aa)))) (af (e7 (ak p9 (H (aN 316 10 (G 0)) aa)) (cx 2) (af (kP (aN 316 10 (G 0)) (G 2) (ak mP (H (G 1) (H (nu (aN 316 10 (G 0)) (G 2)) aa)))) aq) 100) (af (bI 316 1 (G 0) (e' false (G 1) [none,none,some 0] (cx 1) bW (aT (aN 316 1 (G 2)) (G 1)) 100)) (af (bI 316 2 (G 0) (e' false (G 1) [none,none,some 0] (cx 1) bW (aT (aN 316 2 (G 2)) (G 1)) 100)) (af (b9 (ak sv (H (G 0) aa))) aq))))))
noncomputable def o5:bf:=bC 1 [] [some 0,none,none,none,none,none,none,none] z6
noncomputable def k4:fw B:=bP [Fq,rJ,Fx] []
theorem Ye:bv B 4 (.ref 365) o5:=
 rq 32 Mine.dm (by rfl') (by rfl') (by rfl') (λl h=>by obtain ⟨J,rfl⟩:=mK h;rfl) λL=>(.cons (.yj (k:=1) rfl (cap:=true) ⟨rfl,by rfl',by rfl',by rfl',by rfl',by rfl',rfl,λC hk=>k9 {} (by rfl'),λC hk=>.one (p2 (t:=k4) {} (by rfl')),λC hk=>(fy (t:=k4) {} (by rfl'))⟩ (fy (t:=k4) {} (by rfl')) (by with_unfolding_all rfl)) (.cons (hv (t:=k4) {} (by rfl')) (.cons (hv (t:=k4) {} (by rfl')) (.cons (.yk Yz (.comp (fz:=false) (cap:=true) ⟨rfl,by rfl',by rfl',by rfl',by rfl',by rfl',rfl,λC hk=>k9 {} (by rfl'),λC hk=>.nil,λC hk=>(fy (t:=k4) {} (by rfl'))⟩ (fy (t:=k4) {} (by rfl'))) (fy (t:=k4) {} (by rfl'))) (.cons (.yk JI (.comp (fz:=false) (cap:=true) ⟨rfl,by rfl',by rfl',by rfl',by rfl',by rfl',rfl,λC hk=>k9 {} (by rfl'),λC hk=>.nil,λC hk=>(fy (t:=k4) {} (by rfl'))⟩ (fy (t:=k4) {} (by rfl'))) (fy (t:=k4) {} (by rfl'))) (gp (t:=k4) {} (by rfl')))))))
noncomputable def Ah:Cl B:=bY "rehash" 1 4 365 o5 (by rfl') (by rfl') Ye
noncomputable def zM:aU:=(af (a1 3 (ak bG (H (aN 316 2 (G 0)) aa))) (af (a7 (aD hl (G 3) (aN 316 5 (G 0))) (af (a7 (aD eZ (G 3) (aM cV (aN 316 6 (G 0)) (aM mU (aN 316 6 (G 0)) (ab (.int 5))))) (af (b9 (ak o5 (H (G 0) aa))) aq) (af (bI 316 5 (G 0) (aM gM (aN 316 5 (G 0)) (ab (.int 2)))) (af (b9 (ak sv (H (G 0) aa))) aq))) aq) aq) (af (b9 (bS c2 c0 (aN 316 1 (G 0)) (H (G 1) aa))) (af (b9 (bS c2 c0 (aN 316 2 (G 0)) (H (G 2) aa))) (af (b9 (bS c2 c0 (aN 316 4 (G 0)) (H (dU ej (ab (.int 1))) aa))) (af (b9 (ak o3 (H (G 0) (H (aM eA (ak bG (H (aN 316 2 (G 0)) aa)) (ab (.int 1))) aa)))) aq))))))
noncomputable def oW:bf:=bC 3 [] [some 0,some 1,some 2,none,none,none,none,none] zM
theorem Xm:bv B 5 (.ref 393) oW:=
 cj 36 Mine.dm (bP [Fq,Fw,Ah] []) {} (by rfl') (by rfl') (by rfl') (jQ λ_ _ _=>rfl) (by rfl')
noncomputable def Nu:Cl B:=bY "add_hashed" 3 5 393 oW (by rfl') (by rfl') Xm
noncomputable def rE:aU:=(af (a7 (dI (ek (a' (ak ey (H (G 1) (H (ab (.con (.type "int"))) aa))))) (dI (aD oLt (G 1) (ak bG (H (aN 316 2 (G 0)) aa))) fD)) (af (aR (ab (.bool false))) aq) aq) (af (a7 (bp (aD hl (G 1) (aN 316 5 (G 0))) (bp (aD oLt (aM mU (G 1) (ab (.int 1))) (aN 316 5 (G 0))) (bp (aD oLt (aM mU (aN 316 5 (G 0)) (ab (.int 1))) (aN 316 6 (G 0))) bW))) (af (bI 316 5 (G 0) (aM gM (aN 316 5 (G 0)) (ab (.int 2)))) aq) aq) (af (aR (aM oLt (G 1) (aN 316 5 (G 0)))) aq)))
noncomputable def nT:bf:=bC 2 [] [some 0,some 1,none,none,none] rE
theorem Yp:bv B 1 (.ref 379) nT:=
 cj 34 Mine.dm (bP [] []) {} (by rfl') (by rfl') (by rfl') (en λ_ _=>rfl) (by rfl')
noncomputable def N8:Cl B:=bY "takes_packed" 2 1 379 nT (by rfl') (by rfl') Yp
noncomputable def z':aU:=(af (bI 316 1 (G 0) (ak lQ (H (ak dX (H (ak bG (H (aN 316 2 (G 0)) aa)) aa)) aa))) (af (bI 316 0 (G 0) (ab (.bool false))) (af (b9 (ak o5 (H (G 0) aa))) aq)))
noncomputable def qL:bf:=bC 1 [] [some 0,none,none,none,none] z'
theorem Yr:bv B 5 (.ref 372) qL:=
 cj 33 Mine.dm (bP [Ah] []) {} (by rfl') (by rfl') (by rfl') (fF λ_=>rfl) (by rfl')
noncomputable def N':Cl B:=bY "to_hash" 1 5 372 qL (by rfl') (by rfl') Yr
noncomputable def zL:aU:=(af (a7 (bp (a' (aN 316 0 (G 0))) (bp (ek (a' (ak nT (H (G 0) (H (G 1) aa))))) bW)) (af (a7 (aD hl (ak bG (H (aN 316 2 (G 0)) aa)) (aN 316 5 (G 0))) (af (bI 316 5 (G 0) (aM gM (aN 316 5 (G 0)) (ab (.int 2)))) aq) aq) (af (b9 (ak qL (H (G 0) aa))) aq)) aq) (af (a7 (a' (aN 316 0 (G 0))) (af (b9 (ak oX (H (G 0) (H (G 1) (H (G 2) aa))))) aq) (af (b9 (ak oW (H (G 0) (H (G 1) (H (G 2) aa))))) aq)) (af (l9 316 6 hG (G 0) (ab (.int 1))) (af (a7 (bp (a' (ak ey (H (G 1) (H (ab (.con (.type "int"))) aa)))) (bp (aD hl (G 1) (aN 316 7 (G 0))) bW)) (af (bI 316 7 (G 0) (ak oB (H (aM cV (G 1) (ab (.int 1))) (H (ak o1 aa) aa)))) aq) aq) aq))))
noncomputable def oV:bf:=bC 3 [] [some 0,some 1,some 2,none,none,none,none,none,none,none,none,none] zL
theorem Xl:bv B 6 (.ref 400) oV:=
 cj 37 Mine.dm (bP [Nu,Nv,Ae,N8,N'] []) {} (by rfl') (by rfl') (by rfl') (jQ λ_ _ _=>rfl) (by rfl')
noncomputable def Fo:Cl B:=bY "add" 3 6 400 oV (by rfl') (by rfl') Xl
noncomputable def v3:aU:=(af (a7 (a' (aN 316 0 (G 0))) (af (aR (cn (bp (a' (ak ey (H (G 1) (H (ab (.con (.type "int"))) aa)))) (bp (a' (ak hE (H (G 0) (H (G 1) aa)))) bW)) (G 1) (dU ej (ab (.int 1))))) aq) aq) (af (a1 2 (aT (aN 316 3 (G 0)) (aM fH (ak qG (H (G 1) aa)) (aN 316 5 (G 0))))) (af (g4 (bp (aD hl (G 2) (ab (.int 0))) (bp (aD ec (aT (aN 316 1 (G 0)) (G 2)) (G 1)) bW)) (af (a1 2 (aT (aN 316 4 (G 0)) (G 2))) aq) 100) (af (aR (G 2)) aq))))
noncomputable def nN:bf:=bC 2 [] [some 0,some 1,none,none,none,none,none] v3
theorem WU:bv B 2 (.ref 264) nN:=
 pN 25 1 Mine.dm (bP [Fu,rJ] []) {} (by rfl') (by rfl') (by rfl') (en λ_ _=>rfl) (by rfl')
noncomputable def H6:k0 B:=o9 "find" 1 2 316 264 nN (by rfl') (by rfl') (by rfl') (by rfl') (by rfl') WU
noncomputable def L8:aU:=(af (aR (aM hl (bS (eT 316) nN (G 0) (H (G 1) aa)) (ab (.int 0)))) aq)
noncomputable def xg:bf:=bC 2 [] [some 0,some 1] L8
theorem WV:bv B 3 (.ref 271) xg:=
 pN 25 2 Mine.dm (bP [] [H6]) {} (by rfl') (by rfl') (by rfl') (en λ_ _=>rfl) (by rfl')
noncomputable def T':k0 B:=o9 "has" 1 3 316 271 xg (by rfl') (by rfl') (by rfl') (by rfl') (by rfl') WV
noncomputable def zq:aU:=(af (a1 2 (cn (aD oEq (aN 316 7 (G 0)) (ak o2 aa)) (ab (.int 0)) (aN 316 7 (G 0)))) (af (a7 (bp (aD oEq (G 2) (ak o1 aa)) (bp (a' (bS (eT 316) xg (G 0) (H (G 2) aa))) bW)) (af q0 aq) aq) (af (b9 (ak oV (H (G 0) (H (G 2) (H (G 1) aa))))) (af (aR (G 2)) aq))))
noncomputable def qD:bf:=bC 2 [] [some 0,some 1,none,none,none,none,none] zq
theorem WT:bv B 7 (.ref 299) qD:=
 pN 25 6 Mine.dm (bP [Fo,Ae,wj] [T']) {} (by rfl') (by rfl') (by rfl') (en λ_ _=>rfl) (by rfl')
noncomputable def T9:k0 B:=o9 "append" 9 7 316 299 qD (by rfl') (by rfl') (by rfl') (by rfl') (by rfl') WT
noncomputable def zX:aU:=(af (a1 1 (ak (dO 316 oQ) aa)) (af (e7 (G 0) (cx 2) (af (b9 (bS (eT 316) qD (G 1) (H (G 2) aa))) aq) 100) (af (aR (G 1)) aq)))
noncomputable def qH:bf:=bC 1 [] [some 0,none,none,none] zX
theorem JH:bv B 8 (.ref 438) qH:=
 cj 43 Mine.dm (bP [Fe] [T9]) {arr:=true} (by rfl') (by rfl') (by rfl') (fF λ_=>rfl) (by rfl')
noncomputable def NK:Cl B:=bY "list_of" 1 8 438 qH (by rfl') (by rfl') JH
noncomputable def zt:aU:=(af (a1 3 (bS (eT 316) nN (G 0) (H (G 1) aa))) (af (a7 (aD hl (G 3) (ab (.int 0))) (af (jC (aN 316 2 (G 0)) (G 3) (G 2)) aq) (af (b9 (ak oV (H (G 0) (H (G 1) (H (G 2) aa))))) aq)) aq))
noncomputable def qE:bf:=bC 3 [] [some 0,some 1,some 2,none,none] zt
theorem WZ:bv B 7 (.ref 292) qE:=
 pN 25 5 Mine.dm (bP [Fo] [H6]) {} (by rfl') (by rfl') (by rfl') (jQ λ_ _ _=>rfl) (by rfl')
noncomputable def Ub:k0 B:=o9 "put" 2 7 316 292 qE (by rfl') (by rfl') (by rfl') (by rfl') (by rfl') WZ
noncomputable def zS:aU:=(af (a1 1 (ak (dO 316 oQ) aa)) (af (e7 (G 0) (f9 [2,3]) (af (b9 (bS (eT 316) qE (G 1) (H (G 2) (H (G 3) aa)))) aq) 100) (af (aR (G 1)) aq)))
noncomputable def mN:bf:=bC 1 [] [some 0,none,none,none,none] zS
theorem XE:bv B 8 (.ref 445) mN:=
 cj 44 Mine.dm (bP [Fe] [Ub]) {} (by rfl') (by rfl') (by rfl') (fF λ_=>rfl) (by rfl')
noncomputable def Ft:Cl B:=bY "from_pairs" 1 8 445 mN (by rfl') (by rfl') XE
noncomputable def Mm:aU:=(af (aR (ak jR (H (G 0) aa))) aq)
noncomputable def xm:bf:=bC 1 [] [some 0,none] Mm
theorem XJ:bv B 1 (.ref 508) xm:=
 cj 55 Mine.mW (bP [] []) {} (by rfl') (by rfl') (by rfl') (fF λ_=>rfl) (by rfl')
noncomputable def Fv:Cl B:=bY "int_text" 1 1 508 xm (by rfl') (by rfl') XJ
noncomputable def zP:aU:=(af (a7 (aD oEq (G 0) (G 1)) (af (aR (ab (.int 0))) aq) aq) (af (aR (cn (aD oLt (G 0) (G 1)) (dU ej (ab (.int 1))) (ab (.int 1)))) aq))
noncomputable def kE:bf:=bC 2 [] [some 0,some 1] zP
theorem Xx:bv B 1 (.ref 473) kE:=
 cj 49 Mine.l6 (bP [] []) {} (by rfl') (by rfl') (by rfl') (en λ_ _=>rfl) (by rfl')
noncomputable def tT:Cl B:=bY "compare_texts" 2 1 473 kE (by rfl') (by rfl') Xx
noncomputable def Mc:aU:=(af (g4 (bp (aD oLt (G 1) (ak bG (H (G 0) aa))) (bp (aD fq (aT (G 0) (G 1)) (bM (H (ab (.str [32])) (H (ab (.str [9])) (H (ab (.str [10])) (H (ab (.str [13])) (H (ab (.str [11])) (H (ab (.str [12])) aa)))))))) bW)) (af (a1 1 (aM hG (G 1) (ab (.int 1)))) aq) 100) (af (aR (G 1)) aq))
noncomputable def oY:bf:=bC 2 [] [some 0,some 1,none] Mc
theorem Xq:bv B 1 (.ref 149) oY:=
 cj 15 Mine.dP (bP [] []) {} (by rfl') (by rfl') (by rfl') (en λ_ _=>rfl) (by rfl')
noncomputable def Fp:Cl B:=bY "blanks_behind" 2 1 149 oY (by rfl') (by rfl') Xq
noncomputable def Mi:aU:=(af (a1 3 (ab (.int 0))) (af (e7 (ak dX (H (G 1) (H (G 2) aa))) (cx 4) (af (a1 3 (aM eA (aM cV (aM gM (G 3) (ab (.int 10))) (ak hd (H (aT (G 0) (G 4)) aa))) (ab (.int 48)))) (af (a7 (aD eZ (G 3) (aM kL (ab (.int 2)) (ab (.int 63)))) (af (aR (aM cV (aM kL (ab (.int 2)) (ab (.int 63))) (ab (.int 1)))) aq) aq) aq)) 100) (af (aR (G 3)) aq)))
noncomputable def Cj:bf:=bC 3 [] [some 0,some 1,some 2,none,none,none,none] Mi
theorem XC:bv B 1 (.ref 128) Cj:=
 cj 12 Mine.dP (bP [] []) {} (by rfl') (by rfl') (by rfl') (jQ λ_ _ _=>rfl) (by rfl')
noncomputable def NE:Cl B:=bY "digits_value" 3 1 128 Cj (by rfl') (by rfl') XC
noncomputable def Mw:aU:=(af (a1 2 (cn (a' (G 0)) (dU ej (G 1)) (G 1))) (af (a7 (dI (aD oLt (G 2) (ak o2 aa)) (dI (aD eZ (G 2) (ak o1 aa)) fD)) (af (aR (ab .none)) aq) aq) (af (aR (G 2)) aq)))
noncomputable def Cn:bf:=bC 2 [] [some 0,some 1,none,none,none] Mw
theorem Yh:bv B 2 (.ref 135) Cn:=
 cj 13 Mine.dP (bP [Ae,wj] []) {} (by rfl') (by rfl') (by rfl') (en λ_ _=>rfl) (by rfl')
noncomputable def N3:Cl B:=bY "signed" 2 2 135 Cn (by rfl') (by rfl') Yh
noncomputable def Mn:aU:=(af (aR (nt (aM oLt (G 1) (ak bG (H (G 0) aa))) (iI oLe oLe (ab (.str [48])) (aT (G 0) (G 1)) (ab (.str [57]))))) aq)
noncomputable def mO:bf:=bC 2 [] [some 0,some 1,none] Mn
theorem XK:bv B 1 (.ref 114) mO:=
 cj 10 Mine.dP (bP [] []) {} (by rfl') (by rfl') (by rfl') (en λ_ _=>rfl) (by rfl')
noncomputable def tU:Cl B:=bY "is_digit" 2 1 114 mO (by rfl') (by rfl') XK
noncomputable def Mh:aU:=(af (g4 (a' (ak mO (H (G 0) (H (G 1) aa)))) (af (a1 1 (aM hG (G 1) (ab (.int 1)))) aq) 100) (af (aR (G 1)) aq))
noncomputable def nR:bf:=bC 2 [] [some 0,some 1,none] Mh
theorem XB:bv B 2 (.ref 121) nR:=
 cj 11 Mine.dP (bP [tU] []) {} (by rfl') (by rfl') (by rfl') (en λ_ _=>rfl) (by rfl')
noncomputable def Ad:Cl B:=bY "digits_behind" 2 2 121 nR (by rfl') (by rfl') XB
noncomputable def Mj:aU:=(af (a7 (aD xK (lb (G 0) (ed (G 1)) (ed (aM cV (G 1) (ab (.int 1))))) (bM (H (ab (.str [101])) (H (ab (.str [69])) aa)))) (af (aR (G 1)) aq) aq) (af (a1 2 (aM cV (G 1) (ab (.int 1)))) (af (a7 (aD fq (lb (G 0) (ed (G 2)) (ed (aM cV (G 2) (ab (.int 1))))) (bM (H (ab (.str [43])) (H (ab (.str [45])) aa)))) (af (a1 2 (aM hG (G 2) (ab (.int 1)))) aq) aq) (af (a7 (a' (ak mO (H (G 0) (H (G 2) aa)))) (af (aR (ak nR (H (G 0) (H (G 2) aa)))) aq) aq) (af (aR (G 1)) aq)))))
noncomputable def Ck:bf:=bC 2 [] [some 0,some 1,none,none,none] Mj
theorem XD:bv B 3 (.ref 142) Ck:=
 cj 14 Mine.dP (bP [Ad,tU] []) {} (by rfl') (by rfl') (by rfl') (en λ_ _=>rfl) (by rfl')
noncomputable def NF:Cl B:=bY "exponent_behind" 2 3 142 Ck (by rfl') (by rfl') XD
noncomputable def Mt:aU:=(af (a1 1 (ak oY (H (G 0) (H (ab (.int 0)) aa)))) (af (a1 2 (aM oEq (lb (G 0) (ed (G 1)) (ed (aM cV (G 1) (ab (.int 1))))) (ab (.str [45])))) (af (a7 (aD fq (lb (G 0) (ed (G 1)) (ed (aM cV (G 1) (ab (.int 1))))) (bM (H (ab (.str [43])) (H (ab (.str [45])) aa)))) (af (a1 1 (aM hG (G 1) (ab (.int 1)))) aq) aq) (af (a1 3 (ak nR (H (G 0) (H (G 1) aa)))) (af (a1 4 (nt (aM oEq (lb (G 0) (ed (G 3)) (ed (aM cV (G 3) (ab (.int 1))))) (ab (.str [46]))) (p6 (aM eZ (G 3) (G 1)) (ak mO (H (G 0) (H (aM cV (G 3) (ab (.int 1))) aa)))))) (af (a7 (bp (aD oEq (G 3) (G 1)) (bp (ek (a' (G 4))) bW)) (af (aR (bM (H (ab (.int 0)) (H (ab (.int 0)) aa)))) aq) aq) (af (a1 5 (G 3)) (af (a7 (a' (G 4)) (af (a1 5 (ak nR (H (G 0) (H (aM cV (G 3) (ab (.int 1))) aa)))) aq) aq) (af (a1 5 (ak Ck (H (G 0) (H (G 5) aa)))) (af (a1 6 (ab .none)) (af (a7 (aD oEq (G 5) (G 3)) (af (a1 6 (ak Cn (H (G 2) (H (ak Cj (H (G 0) (H (G 1) (H (G 3) aa)))) aa)))) aq) aq) (af (a7 (aD oEq (ak oY (H (G 0) (H (G 5) aa))) (ak bG (H (G 0) aa))) (af (aR (bM (H (ab (.int 2)) (H (G 6) aa)))) aq) aq) (af (aR (bM (H (ab (.int 1)) (H (G 6) aa)))) aq)))))))))))))
noncomputable def sA:bf:=bC 1 [] [some 0,none,none,none,none,none,none,none,none,none,none,none,none,none] Mt
theorem X8:bv B 4 (.ref 156) sA:=
 cj 16 Mine.dP (bP [Fp,Ad,NE,NF,tU,N3] []) {} (by rfl') (by rfl') (by rfl') (fF λ_=>rfl) (by rfl')
noncomputable def Ag:Cl B:=bY "numeric" 1 4 156 sA (by rfl') (by rfl') X8
noncomputable def Ms:aU:=(af (a1 1 (aT (ak sA (H (G 0) aa)) (ab (.int 1)))) (af (a7 (aD iU (G 1) (ab .none)) (af q0 aq) aq) (af (aR (G 1)) aq)))
noncomputable def sz:bf:=bC 1 [] [some 0,none,none,none] Ms
theorem X7:bv B 5 (.ref 163) sz:=
 cj 17 Mine.dP (bP [Ag] []) {} (by rfl') (by rfl') (by rfl') (fF λ_=>rfl) (by rfl')
noncomputable def Af:Cl B:=bY "number_of" 1 5 163 sz (by rfl') (by rfl') X7
noncomputable def z7:aU:=(af (a7 (aD oLt (G 0) (G 1)) (af (aR (dU ej (ab (.int 1)))) aq) aq) (af (aR (cn (aD eZ (G 0) (G 1)) (ab (.int 1)) (ab (.int 0)))) aq))
noncomputable def gd:bf:=bC 2 [] [some 0,some 1] z7
theorem Yg:bv B 1 (.ref 543) gd:=
 cj 61 Mine.fi (bP [] []) {} (by rfl') (by rfl') (by rfl') (en λ_ _=>rfl) (by rfl')
noncomputable def ot:Cl B:=bY "sign_of" 2 1 543 gd (by rfl') (by rfl') Yg
noncomputable def Ml:aU:=(af (a7 (aD oEq (aT (ak sA (H (G 1) aa)) (ab (.int 0))) (ab (.int 2))) (af (aR (ak gd (H (G 0) (H (ak sz (H (G 1) aa)) aa)))) aq) aq) (af (aR (ak kE (H (ak xm (H (G 0) aa)) (H (G 1) aa)))) aq))
noncomputable def xl:bf:=bC 2 [] [some 0,some 1,none,none,none,none,none] Ml
theorem XI:bv B 6 (.ref 557) xl:=
 cj 63 Mine.fi (bP [tT,Fv,Af,Ag,ot] []) {} (by rfl') (by rfl') (by rfl') (en λ_ _=>rfl) (by rfl')
noncomputable def NH:Cl B:=bY "int_against" 2 6 557 xl (by rfl') (by rfl') XI
noncomputable def Mg:aU:=(af (a7 (aD oEq (G 2) (ab (.str [105,110,116]))) (af (aR (ak xl (H (G 0) (H (G 1) aa)))) aq) aq) (af (aR (dU ej (ak xl (H (G 1) (H (G 0) aa))))) aq))
noncomputable def Ci:bf:=bC 3 [] [some 0,some 1,some 2,none] Mg
theorem Xw:bv B 7 (.ref 599) Ci:=
 cj 69 Mine.fi (bP [NH] []) {} (by rfl') (by rfl') (by rfl') (jQ λ_ _ _=>rfl) (by rfl')
noncomputable def NB:Cl B:=bY "compare_scalars" 3 7 599 Ci (by rfl') (by rfl') Xw
noncomputable def MA:aU:=(af (a1 1 (ak gc (H (G 0) aa))) (af (a7 (aD oEq (G 1) (ab (.str [110,117,108,108]))) (af (aR (ab (.bool false))) aq) aq) (af (a7 (aD oEq (G 1) (ab (.str [115,116,114,105,110,103]))) (af (aR (aM xK (G 0) (bM (H (ab (.str [])) (H (ab (.str [48])) aa))))) aq) aq) (af (a7 (aD oEq (G 1) (ab (.str [97,114,114,97,121]))) (af (aR (aM eZ (aN 316 6 (G 0)) (ab (.int 0)))) aq) aq) (af (a7 (aD oEq (G 1) (ab (.str [111,98,106,101,99,116]))) (af (aR (ab (.bool true))) aq) aq) (af (aR (aM ec (G 0) (ab (.int 0)))) aq))))))
noncomputable def xv:bf:=bC 1 [] [some 0,none,none] MA
theorem Yq:bv B 2 (.ref 501) xv:=
 cj 54 Mine.mW (bP [oq] []) {} (by rfl') (by rfl') (by rfl') (fF λ_=>rfl) (by rfl')
noncomputable def N9:Cl B:=bY "to_bool" 1 2 501 xv (by rfl') (by rfl') Yq
noncomputable def Mx:aU:=(af (a7 (bp (aD oEq (aT (ak sA (H (G 0) aa)) (ab (.int 0))) (ab (.int 2))) (bp (aD oEq (aT (ak sA (H (G 1) aa)) (ab (.int 0))) (ab (.int 2))) bW)) (af (aR (ak gd (H (ak sz (H (G 0) aa)) (H (ak sz (H (G 1) aa)) aa)))) aq) aq) (af (aR (ak kE (H (G 0) (H (G 1) aa)))) aq))
noncomputable def Co:bf:=bC 2 [] [some 0,some 1,none,none,none,none] Mx
theorem Yj:bv B 6 (.ref 550) Co:=
 cj 62 Mine.fi (bP [tT,Af,Ag,ot] []) {} (by rfl') (by rfl') (by rfl') (en λ_ _=>rfl) (by rfl')
noncomputable def N4:Cl B:=bY "smart" 2 6 550 Co (by rfl') (by rfl') Yj
noncomputable def Md:aU:=(af (a7 (aD eZ (G 0) (ab (.int 40))) (af q0 aq) aq) aq)
noncomputable def Cg:bf:=bC 1 [] [some 0,none] Md
theorem Xs:bv B 1 (.ref 564) Cg:=
 cj 64 Mine.fi (bP [] []) {} (by rfl') (by rfl') (by rfl') (fF λ_=>rfl) (by rfl')
noncomputable def Ny:Cl B:=bY "check_depth" 1 1 564 Cg (by rfl') (by rfl') Xs
noncomputable def Me:aU:=(af (b9 (ak Cg (H (G 3) aa))) (af (eB [5,4] (bM (H (ak gc (H (G 1) aa)) (H (ak gc (H (G 2) aa)) aa)))) (af (a7 (bp (aD oEq (G 4) (ab (.str [105,110,116]))) (bp (aD oEq (G 5) (ab (.str [105,110,116]))) bW)) (af (aR (ak gd (H (G 1) (H (G 2) aa)))) aq) aq) (af (a7 (bp (aD oEq (G 4) (ab (.str [115,116,114,105,110,103]))) (bp (aD oEq (G 5) (ab (.str [115,116,114,105,110,103]))) bW)) (af (aR (ak Co (H (G 1) (H (G 2) aa)))) aq) aq) (af (a7 (bp (aD oEq (G 4) (ab (.str [110,117,108,108]))) (bp (aD oEq (G 5) (ab (.str [115,116,114,105,110,103]))) bW)) (af (aR (ak kE (H (ab (.str [])) (H (G 2) aa)))) aq) aq) (af (a7 (bp (aD oEq (G 4) (ab (.str [115,116,114,105,110,103]))) (bp (aD oEq (G 5) (ab (.str [110,117,108,108]))) bW)) (af (aR (ak kE (H (G 1) (H (ab (.str [])) aa)))) aq) aq) (af (a7 (bp (aD oEq (G 4) (ab (.str [111,98,106,101,99,116]))) (bp (aD oEq (G 5) (ab (.str [111,98,106,101,99,116]))) bW)) (af (aR k') aq) aq) (af (a7 (dI (aD fq (G 4) (bM (H (ab (.str [110,117,108,108])) (H (ab (.str [98,111,111,108])) aa)))) (dI (aD fq (G 5) (bM (H (ab (.str [110,117,108,108])) (H (ab (.str [98,111,111,108])) aa)))) fD)) (af (aR (ak gd (H (ak xv (H (G 1) aa)) (H (ak xv (H (G 2) aa)) aa)))) aq) aq) (af (a7 (aD oEq (G 4) (ab (.str [111,98,106,101,99,116]))) (af (aR k') aq) aq) (af (a7 (aD oEq (G 5) (ab (.str [111,98,106,101,99,116]))) (af (aR k') aq) aq) (af (a7 (bp (aD oEq (G 4) (ab (.str [97,114,114,97,121]))) (bp (aD oEq (G 5) (ab (.str [97,114,114,97,121]))) bW)) (af (aR k') aq) aq) (af (a7 (aD oEq (G 4) (ab (.str [97,114,114,97,121]))) (af (aR (ab (.int 1))) aq) aq) (af (a7 (aD oEq (G 5) (ab (.str [97,114,114,97,121]))) (af (aR (dU ej (ab (.int 1)))) aq) aq) (af (aR (ak Ci (H (G 1) (H (G 2) (H (G 4) aa))))) aq))))))))))))))
noncomputable def uS:bf:=bC 3 [.int 0] [some 0,some 1,some 2,some 3,none,none,none,none,none,none,none,none,none,none,none,none] Me
theorem Xu:bv B 8 (.ref 607) uS:=
 kX (Mine.Q 70) (Mine.hA (Mine.Q 70)) (.ref 600) Mine.fi (df:=[.int 0]) (by rfl') (by rfl') (by rfl') rfl (om (T:=600) SV rfl rfl [(Mine.i 0 956)] (.cons (.int _ _) .nil) λl h=>by obtain ⟨J,O,ah,rfl⟩:=w5 h;exact ⟨_,rfl,rfl⟩) λL=>gp (t:=bP [Ny,NB,tT,oq,ot,N4,N9] []) {} (by rfl')
noncomputable def Nz:Cl B:=bY "compare" 3 8 607 uS (by rfl') (by rfl') Xu
noncomputable def MD:aU:=(af (aR (aM eA (ak gd (H (ak rX (H (aM eA (ak bG (H (G 0) aa)) (G 1)) (H (ab (.int 0)) aa))) (H (ab (.int 0)) aa))) (ak gd (H (ak rX (H (aM eA (ak bG (H (G 2) aa)) (G 3)) (H (ab (.int 0)) aa))) (H (ab (.int 0)) aa))))) aq)
noncomputable def sE:bf:=bC 4 [] [some 0,some 1,some 2,some 3,none,none,none] MD
theorem Yy:bv B 2 (.ref 642) sE:=
 cj 75 Mine.fi (bP [ot] []) {} (by rfl') (by rfl') (by rfl') (rF λ_ _ _ _=>rfl) (by rfl')
noncomputable def Of:Cl B:=bY "which_ended" 4 2 642 sE (by rfl') (by rfl') Yy
noncomputable def Mu:aU:=(af (aR (cn (aD oLt (G 1) (ak bG (H (G 0) aa))) (ak hd (H (aT (G 0) (G 1)) aa)) (ab (.int 0)))) aq)
noncomputable def sB:bf:=bC 2 [] [some 0,some 1,none,none] Mu
theorem X9:bv B 1 (.ref 635) sB:=
 cj 74 Mine.fi (bP [] []) {} (by rfl') (by rfl') (by rfl') (en λ_ _=>rfl) (by rfl')
noncomputable def NW:Cl B:=bY "octet_at" 2 1 635 sB (by rfl') (by rfl') X9
noncomputable def Mf:aU:=(af (a7 (bp (aD ec (aT (G 0) (ab (.int 0))) (ab (.str [48]))) (bp (aD ec (aT (G 1) (ab (.int 0))) (ab (.str [48]))) (bp (aD ec (ak bG (H (G 0) aa)) (ak bG (H (G 1) aa))) bW))) (af (aR (ak gd (H (ak bG (H (G 0) aa)) (H (ak bG (H (G 1) aa)) aa)))) aq) aq) (af (aR (ak kE (H (G 0) (H (G 1) aa)))) aq))
noncomputable def xk:bf:=bC 2 [] [some 0,some 1,none,none,none] Mf
theorem Xv:bv B 2 (.ref 621) xk:=
 cj 72 Mine.fi (bP [tT,ot] []) {} (by rfl') (by rfl') (by rfl') (en λ_ _=>rfl) (by rfl')
noncomputable def NA:Cl B:=bY "compare_runs" 2 2 621 xk (by rfl') (by rfl') Xv
noncomputable def Mr:aU:=(af (a1 1 (ab (.int 0))) (af (g4 (bp (aD oEq (lb (G 0) (ed (G 1)) (ed (aM cV (G 1) (ab (.int 1))))) (ab (.str [48]))) (bp (a' (ak mO (H (G 0) (H (aM cV (G 1) (ab (.int 1))) aa)))) bW)) (af (a1 1 (aM hG (G 1) (ab (.int 1)))) aq) 100) (af (aR (G 1)) aq)))
noncomputable def sy:bf:=bC 1 [] [some 0,none,none] Mr
theorem X6:bv B 2 (.ref 614) sy:=
 cj 71 Mine.fi (bP [tU] []) {} (by rfl') (by rfl') (by rfl') (fF λ_=>rfl) (by rfl')
noncomputable def NV:Cl B:=bY "noughts_behind" 1 2 614 sy (by rfl') (by rfl') X6
noncomputable def z5:aU:=(af (a1 1 (cM aa)) (af (e7 (G 0) (cx 2) (af (b9 (bS c2 c0 (G 1) (H (cn (a' (iI oLe oLe (ab (.str [97])) (G 2) (ab (.str [122])))) (ak rU (H (aM eA (ak hd (H (G 2) aa)) (ab (.int 32))) aa)) (G 2)) aa))) aq) 100) (af (aR (bS ik p8 (ab (.str [])) (H (G 1) aa))) aq)))
noncomputable def mQ:bf:=bC 1 [] [some 0,none,none,none,none] z5
theorem Yd:bv B 1 (.ref 628) mQ:=
 cj 73 Mine.fi (bP [] []) {} (by rfl') (by rfl') (by rfl') (fF λ_=>rfl) (by rfl')
noncomputable def N1:Cl B:=bY "raised_case" 1 1 628 mQ (by rfl') (by rfl') Yd
noncomputable def v':aU:=(af (a7 (dI (aD oEq (G 0) (ab (.str []))) (dI (aD oEq (G 1) (ab (.str []))) fD)) (af (aR (ak gd (H (ak bG (H (G 0) aa)) (H (ak bG (H (G 1) aa)) aa)))) aq) aq) (af (a7 (a' (G 2)) (af (eB [1,0] (bM (H (ak mQ (H (G 0) aa)) (H (ak mQ (H (G 1) aa)) aa)))) aq) aq) (af (eB [4,3] (bM (H (ak sy (H (G 0) aa)) (H (ak sy (H (G 1) aa)) aa)))) (af (g4 (bp (aD oLt (G 3) (ak bG (H (G 0) aa))) (bp (aD oLt (G 4) (ak bG (H (G 1) aa))) bW)) (af (eB [4,3] (bM (H (ak oY (H (G 0) (H (G 3) aa))) (H (ak oY (H (G 1) (H (G 4) aa))) aa)))) (af (a7 (bp (a' (ak mO (H (G 0) (H (G 3) aa)))) (bp (a' (ak mO (H (G 1) (H (G 4) aa)))) bW)) (af (eB [6,5] (bM (H (ak nR (H (G 0) (H (G 3) aa))) (H (ak nR (H (G 1) (H (G 4) aa))) aa)))) (af (a1 7 (ak xk (H (lb (G 0) (ed (G 3)) (ed (G 5))) (H (lb (G 1) (ed (G 4)) (ed (G 6))) aa)))) (af (a7 (dI (aD ec (G 7) (ab (.int 0))) (dI (aD oEq (G 5) (ak bG (H (G 0) aa))) (dI (aD oEq (G 6) (ak bG (H (G 1) aa))) fD))) (af (aR (cn (aD ec (G 7) (ab (.int 0))) (G 7) (ak sE (H (G 0) (H (G 5) (H (G 1) (H (G 6) aa))))))) aq) aq) (af (eB [4,3] (bM (H (G 5) (H (G 6) aa)))) aq)))) aq) (af (a1 7 (ak gd (H (ak sB (H (G 0) (H (G 3) aa))) (H (ak sB (H (G 1) (H (G 4) aa))) aa)))) (af (a7 (aD ec (G 7) (ab (.int 0))) (af (aR (G 7)) aq) aq) (af (eB [4,3] (bM (H (aM cV (G 3) (ab (.int 1))) (H (aM cV (G 4) (ab (.int 1))) aa)))) aq))))) 100) (af (aR (ak sE (H (G 0) (H (G 3) (H (G 1) (H (G 4) aa)))))) aq)))))
noncomputable def o4:bf:=bC 3 [] [some 0,some 1,some 2,none,none,none,none,none,none,none,none,none,none,none,none,none,none,none] v'
theorem X4:bv B 3 (.ref 649) o4:=
 cj 76 Mine.fi (bP [Fp,NA,Ad,tU,NV,NW,N1,ot,Of] []) {} (by rfl') (by rfl') (by rfl') (jQ λ_ _ _=>rfl) (by rfl')
noncomputable def NT:Cl B:=bY "natural" 3 3 649 o4 (by rfl') (by rfl') X4
noncomputable def zY:aU:=(af (a1 1 (cM aa)) (af (e7 (G 0) (cx 2) (af (b9 (bS c2 c0 (G 1) (H (cn (a' (iI oLe oLe (ab (.str [65])) (G 2) (ab (.str [90])))) (ak rU (H (aM cV (ak hd (H (G 2) aa)) (ab (.int 32))) aa)) (G 2)) aa))) aq) 100) (af (aR (bS ik p8 (ab (.str [])) (H (G 1) aa))) aq)))
noncomputable def m_lower:bf:=bC 1 [] [some 0,none,none,none,none] zY
theorem XW:bv B 1 (.ref 480) m_lower:=
 cj 50 Mine.l6 (bP [] []) {} (by rfl') (by rfl') (by rfl') (fF λ_=>rfl) (by rfl')
noncomputable def NM:Cl B:=bY "lower" 1 1 480 m_lower (by rfl') (by rfl') XW
noncomputable def zy:aU:=(af (a7 (aD oEq (aN 922 6 (G 0)) (ab (.int 0))) (af (b9 (bS c2 c0 (aN 922 5 (G 0)) (H (bM (H (G 1) (H (G 2) aa))) aa))) aq) aq) aq)
noncomputable def oT:bf:=bC 3 [] [some 0,some 1,some 2] zy
theorem W4:bv B 1 (.ref 856) oT:=
 pN 104 2 Mine.jf (bP [] []) {} (by rfl') (by rfl') (by rfl') (jQ λ_ _ _=>rfl) (by rfl')
noncomputable def H7:k0 B:=o9 "warn" 2 1 922 856 oT (by rfl') (by rfl') (by rfl') (by rfl') (by rfl') W4
noncomputable def MC:aU:=(af (a1 2 (ak gc (H (G 1) aa))) (af (a7 (aD oEq (G 2) (ab (.str [115,116,114,105,110,103]))) (af (aR (G 1)) aq) aq) (af (a7 (aD oEq (G 2) (ab (.str [105,110,116]))) (af (aR (ak xm (H (G 1) aa))) aq) aq) (af (a7 (aD oEq (G 2) (ab (.str [110,117,108,108]))) (af (aR (ab (.str []))) aq) aq) (af (a7 (aD oEq (G 2) (ab (.str [98,111,111,108]))) (af (aR (cn (a' (G 1)) (ab (.str [49])) (ab (.str [])))) aq) aq) (af (a7 (aD oEq (G 2) (ab (.str [97,114,114,97,121]))) (af (b9 (bS (eT 922) oT (G 0) (H (ab (.str [87,97,114,110,105,110,103])) (H (ab (.str [65,114,114,97,121,32,116,111,32,115,116,114,105,110,103,32,99,111,110,118,101,114,115,105,111,110])) aa)))) (af (aR (ab (.str [65,114,114,97,121]))) aq)) aq) (af (aR k') aq)))))))
noncomputable def o7:bf:=bC 2 [] [some 0,some 1,none,none,none] MC
theorem Yt:bv B 2 (.ref 529) o7:=
 cj 58 Mine.mW (bP [Fv,oq] [H7]) {} (by rfl') (by rfl') (by rfl') (en λ_ _=>rfl) (by rfl')
noncomputable def Oa:Cl B:=bY "to_text" 2 2 529 o7 (by rfl') (by rfl') Yt
noncomputable def MB:aU:=(af (a1 2 (ak gc (H (G 1) aa))) (af (a7 (aD oEq (G 2) (ab (.str [105,110,116]))) (af (aR (G 1)) aq) aq) (af (a7 (aD oEq (G 2) (ab (.str [110,117,108,108]))) (af (aR (ab (.int 0))) aq) aq) (af (a7 (aD oEq (G 2) (ab (.str [98,111,111,108]))) (af (aR (cn (a' (G 1)) (ab (.int 1)) (ab (.int 0)))) aq) aq) (af (a7 (aD oEq (G 2) (ab (.str [115,116,114,105,110,103]))) (af (aR (ak sz (H (G 1) aa))) aq) aq) (af (a7 (aD oEq (G 2) (ab (.str [97,114,114,97,121]))) (af (aR (cn (aD eZ (aN 316 6 (G 1)) (ab (.int 0))) (ab (.int 1)) (ab (.int 0)))) aq) aq) (af (aR k') aq)))))))
noncomputable def g1:bf:=bC 2 [] [some 0,some 1,none,none,none,none] MB
theorem Ys:bv B 6 (.ref 522) g1:=
 cj 57 Mine.mW (bP [oq,Af] []) {} (by rfl') (by rfl') (by rfl') (en λ_ _=>rfl) (by rfl')
noncomputable def Fy:Cl B:=bY "to_int" 2 6 522 g1 (by rfl') (by rfl') Ys
noncomputable def nk:aU:=(af (a7 (aD oEq (G 3) (ab (.int 1))) (af (aR (ak gd (H (ak g1 (H (G 0) (H (G 1) aa))) (H (ak g1 (H (G 0) (H (G 2) aa))) aa)))) aq) aq) (af (a7 (aD fq (G 3) (bM (H (ab (.int 2)) (H (ab (.int 10)) (H (ab (.int 6)) (H (ab (.int 14)) aa)))))) (af (eB [5,4] (bM (H (ak o7 (H (G 0) (H (G 1) aa))) (H (ak o7 (H (G 0) (H (G 2) aa))) aa)))) (af (a7 (aD oEq (G 3) (ab (.int 2))) (af (aR (ak kE (H (G 4) (H (G 5) aa)))) aq) aq) (af (a7 (aD oEq (G 3) (ab (.int 10))) (af (aR (ak kE (H (ak m_lower (H (G 4) aa)) (H (ak m_lower (H (G 5) aa)) aa)))) aq) aq) (af (aR (ak o4 (H (G 4) (H (G 5) (H (aM oEq (G 3) (ab (.int 14))) aa))))) aq)))) aq) (af (aR (ak uS (H (G 0) (H (G 1) (H (G 2) aa))))) aq)))
noncomputable def lZ:bf:=bC 4 [] [some 0,some 1,some 2,some 3,none,none,none,none,none,none,none,none,none] nk
theorem Ym:bv B 9 (.ref 656) lZ:=
 cj 77 Mine.fi (bP [Nz,tT,NM,NT,ot,Fy,Oa] []) {} (by rfl') (by rfl') (by rfl') (rF λ_ _ _ _=>rfl) (by rfl')
noncomputable def N6:Cl B:=bY "sort_compare" 4 9 656 lZ (by rfl') (by rfl') Ym
noncomputable def zx:aU:=(af (a7 (aD u3 (G 1) (aN 922 0 (G 0))) (af q0 aq) aq) (af (aR (nu (aN 922 0 (G 0)) (G 1))) aq))
noncomputable def sl:bf:=bC 2 [] [some 0,some 1,none] zx
theorem W3:bv B 1 (.ref 849) sl:=
 pN 104 1 Mine.jf (bP [] []) {} (by rfl') (by rfl') (by rfl') (en λ_ _=>rfl) (by rfl')
noncomputable def Ud:k0 B:=o9 "tool" 1 1 922 849 sl (by rfl') (by rfl') (by rfl') (by rfl') (by rfl') W3
noncomputable def Ma:aU:=(af (a7 (aD iU (G 0) (ab .none)) (af (aR (ab (.str []))) aq) aq) (af (aR (cn (aD iU (G 0) (ab (.bool true))) (ab (.str [49])) (ak jR (H (G 0) aa)))) aq))
noncomputable def kD:bf:=bC 1 [] [some 0,none] Ma
theorem Xj:bv B 1 (.ref 945) kD:=
 cj 114 Mine.eF (bP [] []) {} (by rfl') (by rfl') (by rfl') (fF λ_=>rfl) (by rfl')
noncomputable def Fm:Cl B:=bY "_law_text" 1 1 945 kD (by rfl') (by rfl') Xj
noncomputable def L9:aU:=(af (a1 1 (bS ik rY (ak kD (H (G 0) aa)) (H (ab (.str [32])) aa))) (af (a7 (a' (ak ey (H (G 0) (H (ab (.con (.type "str"))) aa)))) (af (aR (cn (bp (aD ec (G 1) (ab (.str []))) (bp (aD oEq (bS ik rY (G 1) (H (ab (.str [48,49,50,51,52,53,54,55,56,57])) aa)) (ab (.str []))) bW)) (ak kp (H (G 1) aa)) (ab (.int 0)))) aq) aq) (af (aR (cn (aD iU (G 0) (ab .none)) (ab (.int 0)) (ak kp (H (G 0) aa)))) aq)))
noncomputable def xh:bf:=bC 1 [] [some 0,none,none,none,none,none] L9
theorem Xd:bv B 2 (.ref 952) xh:=
 cj 115 Mine.eF (bP [Fm] []) {} (by rfl') (by rfl') (by rfl') (fF λ_=>rfl) (by rfl')
noncomputable def Fl:Cl B:=bY "_law_number" 1 2 952 xh (by rfl') (by rfl') Xd
noncomputable def Mb:aU:=(af (a1 2 (cn (a' (ak ey (H (G 1) (H (ab (.con (.type "str"))) aa)))) (ak bG (H (G 1) aa)) (ak xh (H (G 1) aa)))) (af (aR (aT (bM (H (G 2) (H (aM fH (G 2) (ab (.int 3))) (H (ab (.int 0)) (H (dU ej (G 2)) aa))))) (G 0))) aq))
noncomputable def nQ:bf:=bC 2 [] [some 0,some 1,none,none,none,none,none] Mb
theorem Xk:bv B 3 (.ref 966) nQ:=
 cj 117 Mine.eF (bP [Fl] []) {} (by rfl') (by rfl') (by rfl') (en λ_ _=>rfl) (by rfl')
noncomputable def Fn:Cl B:=bY "_law_user" 2 3 966 nQ (by rfl') (by rfl') Xk
noncomputable def zA:aU:=(af (a1 4 (aM eA (ak nQ (H (G 0) (H (G 2) aa))) (ak nQ (H (G 0) (H (G 3) aa))))) (af (a7 (aD oEq (G 1) (ab (.int 1))) (af (aR (aM eZ (G 4) (ab (.int 0)))) aq) aq) (af (a7 (aD oEq (G 1) (ab (.int 2))) (af (aR (ak jR (H (G 4) aa))) aq) aq) (af (a7 (aD oEq (G 1) (ab (.int 3))) (af (aR (cn (aD oEq (G 4) (ab (.int 0))) (ab .none) (aM gM (G 4) (ab (.int 1000))))) aq) aq) (af (aR (G 4)) aq)))))
noncomputable def sm:bf:=bC 4 [] [some 0,some 1,some 2,some 3,none,none,none] zA
theorem W6:bv B 4 (.ref 1023) sm:=
 cj 126 Mine.eF (bP [Fn] []) {} (by rfl') (by rfl') (by rfl') (rF λ_ _ _ _=>rfl) (by rfl')
noncomputable def Ng:Cl B:=bY "_law_answer" 4 4 1023 sm (by rfl') (by rfl') W6
noncomputable def zC:aU:=(af (aR (ak sm (H (ak kp (H (aT (G 1) (ab (.int 0))) aa)) (H (ak kp (H (aT (G 1) (ab (.int 1))) aa)) (H (aT (G 2) (ab (.int 0))) (H (aT (G 2) (ab (.int 1))) aa)))))) aq)
noncomputable def uR:bf:=bC 3 [] [some 0,some 1,some 2,none,none] zC
theorem JG:bv B 5 (.ref 1030) uR:=
 cj 127 Mine.eF (bP [Ng] []) {} (by rfl') (by rfl') (by rfl') (jQ λ_ _ _=>rfl) (by rfl')
noncomputable def Ni:Cl B:=bY "_law_call" 3 5 1030 uR (by rfl') (by rfl') JG
noncomputable def zv:aU:=(af (aR (Ay (.ref 1030) uR (bS (eT 922) sl (G 0) (H (ab (.str [99,97,108,108])) aa)) (H (G 0) (H (G 1) (H (G 2) aa))))) aq)
noncomputable def lm:bf:=bC 3 [] [some 0,some 1,some 2] zv
noncomputable def zg:fw B:=bP [Ni] [Ud]
theorem W1:bv B 6 (.ref 891) lm:=
 Lq 104 7 Mine.jf (by rfl') (by rfl') (by rfl') (jQ λ_ _ _=>rfl) λL=>(.cons (.ret (.M7 (fy (t:=zg) {} (by rfl')) (.K (by rfl')) JG.fn (Nat.le_of_ble_eq_true rfl) (As (t:=zg) {} (by rfl')))) (gp (t:=zg) {} (by rfl')))
noncomputable def Uc:k0 B:=o9 "call" 2 6 922 891 lm (by rfl') (by rfl') (by rfl') (by rfl') (by rfl') W1
noncomputable def Aa:aU:=(af (a1 5 (bS (eT 922) lm (G 0) (H (aT (G 1) (ab (.int 1))) (H (ef (H (G 2) (H (G 3) aa))) aa)))) (af (a1 6 (aM oEq (ak gc (H (G 5) aa)) (ab (.str [98,111,111,108])))) (af (a7 (bp (a' (G 6)) (bp (aD oEq (ak bG (H (G 4) aa)) (ab (.int 0))) bW)) (af (b9 (bS c2 c0 (G 4) (H (ab (.bool true)) aa))) (af (a1 7 (cn (aD eZ (ak bG (H (G 1) aa)) (ab (.int 3))) (aT (G 1) (ab (.int 3))) (ab (.str [117,115,111,114,116])))) (af (b9 (bS (eT 922) oT (G 0) (H (ab (.str [68,101,112,114,101,99,97,116,101,100])) (H (aM cV (aM cV (G 7) (ab (.str [40,41,58,32,82,101,116,117,114,110,105,110,103,32,98,111,111,108,32,102,114,111,109,32,99,111,109,112,97,114,105,115,111,110,32,102,117,110,99,116,105,111,110,32,105,115,32,100,101,112,114,101,99,97,116,101,100,44]))) (ab (.str [32,114,101,116,117,114,110,32,97,110,32,105,110,116,101,103,101,114,32,108,101,115,115,32,116,104,97,110,44,32,101,113,117,97,108,32,116,111,44,32,111,114,32,103,114,101,97,116,101,114,32,116,104,97,110,32,122,101,114,111,32,105,110,115,116,101,97,100]))) aa)))) aq))) aq) (af (a7 (bp (a' (G 6)) (bp (ek (a' (G 5))) bW)) (af (aR (dU ej (ak gd (H (ak g1 (H (G 0) (H (bS (eT 922) lm (G 0) (H (aT (G 1) (ab (.int 1))) (H (ef (H (G 3) (H (G 2) aa))) aa))) aa))) (H (ab (.int 0)) aa))))) aq) aq) (af (aR (ak gd (H (ak g1 (H (G 0) (H (G 5) aa))) (H (ab (.int 0)) aa)))) aq)))))
noncomputable def nU:bf:=bC 5 [] [some 0,some 1,some 2,some 3,some 4,none,none,none,none,none,none,none] Aa
theorem Yw:bv B 7 (.ref 663) nU:=
 cj 79 Mine.dV (bP [oq,ot,Fy] [Uc,H7]) {} (by rfl') (by rfl') (by rfl') (wd λ_ _ _ _ _=>rfl) (by rfl')
noncomputable def Od:Cl B:=bY "user_order" 5 7 663 nU (by rfl') (by rfl') Yw
noncomputable def Mz:aU:=(af (a7 (a' (ak ey (H (G 0) (H (ab (.con (.ref 316))) aa)))) (af (bI 316 9 (G 0) (ab (.bool true))) aq) aq) (af (aR (G 0)) aq))
noncomputable def o6:bf:=bC 1 [] [some 0,none,none] Mz
theorem Yo:bv B 1 (.ref 466) o6:=
 cj 48 Mine.l6 (bP [] []) {} (by rfl') (by rfl') (by rfl') (fF λ_=>rfl) (by rfl')
noncomputable def N7:Cl B:=bY "taken" 1 1 466 o6 (by rfl') (by rfl') Yo
noncomputable def z3:aU:=(af (a7 (aD oEq (aT (G 1) (ab (.int 0))) (ab (.str [114,111,119,115]))) (af (aR k') aq) aq) (af (a1 5 (cn (a' (aT (G 1) (ab (.int 2)))) (ab (.int 0)) (ab (.int 1)))) (af (eB [7,6] (bM (H (ak o6 (H (ak hj (H (aT (G 2) (G 5)) aa)) aa)) (H (ak o6 (H (ak hj (H (aT (G 3) (G 5)) aa)) aa)) aa)))) (af (a7 (aD oEq (aT (G 1) (ab (.int 0))) (ab (.str [117,115,101,114]))) (af (aR (ak nU (H (G 0) (H (G 1) (H (G 6) (H (G 7) (H (G 4) aa))))))) aq) aq) (af (a7 (a' (aT (G 1) (ab (.int 3)))) (af (aR (ak lZ (H (G 0) (H (G 7) (H (G 6) (H (aT (G 1) (ab (.int 1))) aa)))))) aq) aq) (af (aR (ak lZ (H (G 0) (H (G 6) (H (G 7) (H (aT (G 1) (ab (.int 1))) aa)))))) aq))))))
noncomputable def lY:bf:=bC 5 [] [some 0,some 1,some 2,some 3,some 4,none,none,none,none,none,none,none,none] z3
theorem X':bv B 10 (.ref 677) lY:=
 cj 81 Mine.dV (bP [Fs,N6,N7,Od] []) {} (by rfl') (by rfl') (by rfl') (wd λ_ _ _ _ _=>rfl) (by rfl')
noncomputable def NX:Cl B:=bY "order_of" 5 10 677 lY (by rfl') (by rfl') X'
noncomputable def z1:aU:=(af (a1 5 (cM aa)) (af (jj (f9 [6,7]) (bM (H (ab (.int 0)) (H (ab (.int 0)) aa)))) (af (g4 (bp (aD oLt (G 6) (ak bG (H (G 1) aa))) (bp (aD oLt (G 7) (ak bG (H (G 2) aa))) bW)) (af (a7 (aD eZ (ak lY (H (G 0) (H (G 3) (H (aT (G 1) (G 6)) (H (aT (G 2) (G 7)) (H (G 4) aa)))))) (ab (.int 0))) (af (b9 (bS c2 c0 (G 5) (H (aT (G 2) (G 7)) aa))) (af (a1 7 (aM hG (G 7) (ab (.int 1)))) aq)) (af (b9 (bS c2 c0 (G 5) (H (aT (G 1) (G 6)) aa))) (af (a1 6 (aM hG (G 6) (ab (.int 1)))) aq))) aq) 100) (af (aR (aM pe (aM pe (G 5) (kn (G 1) (ed (G 6)) lw)) (kn (G 2) (ed (G 7)) lw))) aq))))
noncomputable def qI:bf:=bC 5 [] [some 0,some 1,some 2,some 3,some 4,none,none,none,none,none] z1
theorem X0:bv B 11 (.ref 684) qI:=
 cj 82 Mine.dV (bP [NX] []) {lsl:=true,cat:=true} (by rfl') (by rfl') (by rfl') (wd λ_ _ _ _ _=>rfl) (by rfl')
noncomputable def NP:Cl B:=bY "merged" 5 11 684 qI (by rfl') (by rfl') X0
noncomputable def v9:aU:=(af (a1 4 (cM aa)) (af (e7 (ak dX (H (ab (.int 0)) (H (aM eA (ak bG (H (G 1) aa)) (ab (.int 1))) (H (ab (.int 2)) aa)))) (cx 5) (af (b9 (bS c2 c0 (G 4) (H (ak qI (H (G 0) (H (aT (G 1) (G 5)) (H (aT (G 1) (aM cV (G 5) (ab (.int 1)))) (H (G 2) (H (G 3) aa)))))) aa))) aq) 100) (af (a7 (aD oEq (aM fH (ak bG (H (G 1) aa)) (ab (.int 2))) (ab (.int 1))) (af (b9 (bS c2 c0 (G 4) (H (aT (G 1) (dU ej (ab (.int 1)))) aa))) aq) aq) (af (aR (ib (G 4))) aq))))
noncomputable def sx:bf:=bC 4 [] [some 0,some 1,some 2,some 3,none,none,none,none,none] v9
theorem X1:bv B 12 (.ref 691) sx:=
 cj 83 Mine.dV (bP [NP] []) {ap:=["made"]} (by rfl') (by rfl') (by rfl') (rF λ_ _ _ _=>rfl) (by rfl')
noncomputable def NQ:Cl B:=bY "merged_runs" 4 12 691 sx (by rfl') (by rfl') X1
noncomputable def z0:aU:=(af (a1 3 (cM aa)) (af (a1 4 (e' true (G 1) [none,none] (cx 1) bW (ef (H (G 1) aa)) 100)) (af (g4 (aD eZ (ak bG (H (G 4) aa)) (ab (.int 1))) (af (a1 4 (ak sx (H (G 0) (H (G 4) (H (G 2) (H (G 3) aa)))))) aq) 100) (af (aR (cn (a' (G 4)) (aT (G 4) (ab (.int 0))) (ef aa))) aq))))
noncomputable def sw:bf:=bC 3 [] [some 0,some 1,some 2,none,none,none,none] z0
noncomputable def vZ:fw B:=bP [NQ] []
theorem XZ:bv B 13 (.ref 696) sw:=
 tx 84 Mine.dV (by rfl') (by rfl') (by rfl') (jQ λ_ _ _=>rfl) λL=>(.cons (hv (t:=vZ) {} (by rfl')) (.cons (.yj (k:=4) rfl (cap:=false) ⟨rfl,by rfl',by rfl',by rfl',by rfl',by rfl',rfl,λC hk=>k9 {} (by rfl'),λC hk=>.nil,λC hk=>(fy (t:=vZ) {} (by rfl'))⟩ (fy (t:=vZ) {} (by rfl')) (by with_unfolding_all rfl)) (gp (t:=vZ) {} (by rfl'))))
noncomputable def NO:Cl B:=bY "merge_sort" 3 13 696 sw (by rfl') (by rfl') XZ
noncomputable def z2:aU:=(af (g4 (bp (aD oLt (G 1) (ak bG (H (aN 316 2 (G 0)) aa))) (bp (ek (a' (ak hE (H (G 0) (H (G 1) aa))))) bW)) (af (a1 1 (aM hG (G 1) (ab (.int 1)))) aq) 100) (af (aR (ak oB (H (G 1) (H (ak bG (H (aN 316 2 (G 0)) aa)) aa)))) aq))
noncomputable def qJ:bf:=bC 2 [] [some 0,some 1,none,none,none] z2
theorem X5:bv B 2 (.ref 355) qJ:=
 cj 30 Mine.dm (bP [rJ] []) {} (by rfl') (by rfl') (by rfl') (en λ_ _=>rfl) (by rfl')
noncomputable def NU:Cl B:=bY "next_place" 2 2 355 qJ (by rfl') (by rfl') X5
noncomputable def Mq:aU:=(af (a7 (a' (ak ey (H (G 0) (H (ab (.con (.ref 316))) aa)))) (af (bI 316 9 (G 0) (ab (.bool true))) aq) aq) (af (aR (G 0)) aq))
noncomputable def xp:bf:=bC 1 [] [some 0,none,none] Mq
theorem XY:bv B 1 (.ref 407) xp:=
 cj 38 Mine.dm (bP [] []) {} (by rfl') (by rfl') (by rfl') (fF λ_=>rfl) (by rfl')
noncomputable def NN:Cl B:=bY "marked" 1 1 407 xp (by rfl') (by rfl') XY
noncomputable def zU:aU:=(af (l9 181 1 hG (G 0) (ab (.int 1))) (af (aR (G 0)) aq))
noncomputable def uT:bf:=bC 1 [] [some 0] zU
theorem XH:bv B 1 (.ref 242) uT:=
 cj 23 Mine.gx (bP [] []) {} (by rfl') (by rfl') (by rfl') (fF λ_=>rfl) (by rfl')
noncomputable def NG:Cl B:=bY "hold" 1 1 242 uT (by rfl') (by rfl') XH
noncomputable def tR:aU:=(af (a7 (a' (ak ey (H (G 0) (H (ab (.con (.ref 203))) aa)))) (af (aR (la (ak (dO 203 mM) aa))) aq) aq) (af (a7 (a' (ak ey (H (G 0) (H (ab (.con (.ref 181))) aa)))) (af (a7 (aD eZ (aN 181 1 (G 0)) (ab (.int 1))) (af (aR (ak uT (H (G 0) aa))) aq) aq) (af (a1 0 (aN 181 0 (G 0))) aq)) aq) (af (aR (ak xp (H (G 0) aa))) aq)))
noncomputable def qF:bf:=bC 1 [] [some 0,none,none,none,none,none] tR
theorem Xy:bv B 3 (.ref 419) qF:=
 cj 40 Mine.dm (bP [Fd,NG,NN] []) {} (by rfl') (by rfl') (by rfl') (fF λ_=>rfl) (by rfl')
noncomputable def NC:Cl B:=bY "copied" 1 3 419 qF (by rfl') (by rfl') Xy
noncomputable def zr:aU:=(af (bI 316 0 (G 0) (ab (.bool true))) (af (bI 316 1 (G 0) (cM aa)) (af (bI 316 2 (G 0) (cM aa)) (af (bI 316 3 (G 0) (cM aa)) (af (bI 316 4 (G 0) (cM aa)) (af (bI 316 5 (G 0) (G 1)) (af (bI 316 6 (G 0) (ab (.int 0))) (af (bI 316 7 (G 0) (ak o2 aa)) (af (bI 316 8 (G 0) (ab (.int 0))) (af (bI 316 9 (G 0) (ab (.bool false))) (af (bI 316 10 (G 0) hc) aq)))))))))))
noncomputable def oR:bf:=bC 2 [] [some 0,some 1,none] zr
theorem WX:bv B 2 (.ref 257) oR:=
 kX (Mine.R 25 0) (Mine.jx 25 0) (.ref 250) Mine.dm (df:=[]) (by rfl') (by rfl') (by rfl') rfl (om (T:=250) HD rfl rfl [] .nil λl h=>by obtain ⟨J,O,rfl⟩:=uL h;exact ⟨_,rfl,rfl⟩) λL=>gp (t:=bP [wj] []) {} (by rfl')
theorem M3:bv B 3 (.ref 316) (dO 316 oR):=bv.cls (by rfl') (by rfl') (by rfl') WX
noncomputable def M':Cl B:=bY "Arr" 1 3 316 (dO 316 oR) (by rfl') (by rfl') M3
noncomputable def zQ:aU:=(af (a1 1 (ak (dO 316 oR) (H (aN 316 5 (G 0)) aa))) (af (bI 316 0 (G 1) (aN 316 0 (G 0))) (af (bI 316 1 (G 1) (ak lQ (H (aN 316 1 (G 0)) aa))) (af (bI 316 2 (G 1) (e' false (aN 316 2 (G 0)) [none,none,none] (cx 1) bW (ak qF (H (G 1) aa)) 100)) (af (bI 316 6 (G 1) (aN 316 6 (G 0))) (af (bI 316 7 (G 1) (aN 316 7 (G 0))) (af (bI 316 8 (G 1) (cn (aD oLt (aN 316 8 (G 0)) (ak bG (H (aN 316 2 (G 0)) aa))) (aN 316 8 (G 0)) (ak qJ (H (G 0) (H (ab (.int 0)) aa))))) (af (bI 316 10 (G 1) (ak t1 (H (aN 316 10 (G 0)) aa))) (af (a7 (ek (a' (aN 316 0 (G 1)))) (af (b9 (ak o5 (H (G 1) aa))) aq) aq) (af (aR (G 1)) aq))))))))))
noncomputable def oZ:bf:=bC 1 [] [some 0,none,none,none,none,none,none,none] zQ
noncomputable def pT:fw B:=bP [M',NC,NU,Ah] []
theorem Xz:bv B 5 (.ref 424) oZ:=
 tx 41 Mine.dm (by rfl') (by rfl') (by rfl') (fF λ_=>rfl) λL=>(.cons (hv (t:=pT) {} (by rfl')) (.cons (hv (t:=pT) {} (by rfl')) (.cons (hv (t:=pT) {} (by rfl')) (.cons (.yk JI (.comp (fz:=false) (cap:=false) ⟨rfl,by rfl',by rfl',by rfl',by rfl',by rfl',rfl,λC hk=>k9 {} (by rfl'),λC hk=>.nil,λC hk=>(fy (t:=pT) {} (by rfl'))⟩ (fy (t:=pT) {} (by rfl'))) (fy (t:=pT) {} (by rfl'))) (gp (t:=pT) {} (by rfl'))))))
noncomputable def ND:Cl B:=bY "copy" 1 5 424 oZ (by rfl') (by rfl') Xz
noncomputable def wa:aU:=(af (aR (cn (a' (aN 316 9 (G 0))) (ak oZ (H (G 0) aa)) (G 0))) aq)
noncomputable def sC:bf:=bC 1 [] [some 0,none] wa
theorem Ya:bv B 6 (.ref 431) sC:=
 cj 42 Mine.dm (bP [ND] []) {} (by rfl') (by rfl') (by rfl') (fF λ_=>rfl) (by rfl')
noncomputable def NY:Cl B:=bY "own" 1 6 431 sC (by rfl') (by rfl') Ya
noncomputable def wb:aU:=(af (a1 4 (ak sC (H (aN 181 0 (G 1)) aa))) (af (bI 181 0 (G 1) (G 4)) (af (a7 (dI (aD oEq (aN 316 6 (G 4)) (ab (.int 0))) (dI (bp (aD oEq (aN 316 6 (G 4)) (ab (.int 1))) (bp (ek (a' (G 3))) bW)) fD)) (af (aR (ab (.bool true))) aq) aq) (af (a1 5 (ak sw (H (G 0) (H (ak lq (H (G 4) aa)) (H (G 2) aa))))) (af (a7 (a' (G 3)) (af (a1 6 (ak qH (H (e' true (G 5) [none,none] (cx 1) bW (aT (G 1) (ab (.int 1))) 100) aa))) aq) (af (a1 6 (ak mN (H (G 5) aa))) (af (bI 316 7 (G 6) (aN 316 7 (G 4))) aq))) (af (b9 (ak qK (H (G 1) (H (G 4) (H (G 6) aa))))) (af (aR (ab (.bool true))) aq)))))))
noncomputable def gf:bf:=bC 4 [] [some 0,some 1,some 2,some 3,none,none,none,none,none,none,none,none,none] wb
noncomputable def lH:fw B:=bP [Ft,NK,NO,NY,N0,Ai] []
theorem Yn:bv B 14 (.ref 721) gf:=
 tx 88 Mine.dV (by rfl') (by rfl') (by rfl') (rF λ_ _ _ _=>rfl) λL=>(.cons (hv (t:=lH) {} (by rfl')) (.cons (hv (t:=lH) {} (by rfl')) (.cons (hv (t:=lH) {} (by rfl')) (.cons (hv (t:=lH) {} (by rfl')) (.cons (.ite (p2 (t:=lH) {} (by rfl')) (.cons (.set (k:=6) rfl rfl (.call (k:=10) rfl QI (.K (by rfl')) JH.fn (Nat.le_of_ble_eq_true rfl) (.cons (.comp (cap:=false) ⟨rfl,by rfl',by rfl',by rfl',by rfl',by rfl',rfl,λC hk=>k9 {} (by rfl'),λC hk=>.nil,λC hk=>(fy (t:=lH) {} (by rfl'))⟩ (fy (t:=lH) {} (by rfl'))) (As (t:=lH) {} (by rfl'))))) (gp (t:=lH) {} (by rfl'))) (gp (t:=lH) {} (by rfl'))) (gp (t:=lH) {} (by rfl')))))))
noncomputable def rL:Cl B:=bY "sort_in_place" 4 14 721 gf (by rfl') (by rfl') Yn
noncomputable def EU:aU:=(af (aR (ak gf (H (G 0) (H (aT (G 1) (ab (.int 0))) (H (bM (H (ab (.str [102,108,97,103,115])) (H (ab (.int 6)) (H (ab (.bool false)) (H (ab (.bool false)) aa))))) (H (ab (.bool false)) aa)))))) aq)
noncomputable def xr:bf:=bC 2 [] [some 0,some 1,none] EU
theorem X3:bv B 15 (.ref 777) xr:=
 cj 96 Mine.dV (bP [rL] []) {} (by rfl') (by rfl') (by rfl') (en λ_ _=>rfl) (by rfl')
noncomputable def NS:Cl B:=bY "natsort_action" 2 15 777 xr (by rfl') (by rfl') X3
noncomputable def ET:aU:=(af (aR (ak gf (H (G 0) (H (aT (G 1) (ab (.int 0))) (H (bM (H (ab (.str [102,108,97,103,115])) (H (ab (.int 14)) (H (ab (.bool false)) (H (ab (.bool false)) aa))))) (H (ab (.bool false)) aa)))))) aq)
noncomputable def xq:bf:=bC 2 [] [some 0,some 1,none] ET
theorem X2:bv B 15 (.ref 784) xq:=
 cj 97 Mine.dV (bP [rL] []) {} (by rfl') (by rfl') (by rfl') (en λ_ _=>rfl) (by rfl')
noncomputable def NR:Cl B:=bY "natcasesort_action" 2 15 784 xq (by rfl') (by rfl') X2
noncomputable def EY:aU:=(af (aR (ak gf (H (G 0) (H (aT (G 1) (ab (.int 0))) (H (bM (H (ab (.str [117,115,101,114])) (H (aT (G 1) (ab (.int 1))) (H (ab (.bool true)) (H (ab (.str [117,107,115,111,114,116])) aa))))) (H (ab (.bool false)) aa)))))) aq)
noncomputable def xx:bf:=bC 2 [] [some 0,some 1,none] EY
theorem Yv:bv B 15 (.ref 805) xx:=
 cj 100 Mine.dV (bP [rL] []) {} (by rfl') (by rfl') (by rfl') (en λ_ _=>rfl) (by rfl')
noncomputable def Oc:Cl B:=bY "uksort_action" 2 15 805 xx (by rfl') (by rfl') Yv
noncomputable def EZ:aU:=(af (aR (ak gf (H (G 0) (H (aT (G 1) (ab (.int 0))) (H (bM (H (ab (.str [117,115,101,114])) (H (aT (G 1) (ab (.int 1))) (H (ab (.bool false)) (H (ab (.str [117,115,111,114,116])) aa))))) (H (ab (.bool true)) aa)))))) aq)
noncomputable def xy:bf:=bC 2 [] [some 0,some 1,none] EZ
theorem Yx:bv B 15 (.ref 791) xy:=
 cj 98 Mine.dV (bP [rL] []) {} (by rfl') (by rfl') (by rfl') (en λ_ _=>rfl) (by rfl')
noncomputable def Oe:Cl B:=bY "usort_action" 2 15 791 xy (by rfl') (by rfl') Yx
noncomputable def EX:aU:=(af (aR (ak gf (H (G 0) (H (aT (G 1) (ab (.int 0))) (H (bM (H (ab (.str [117,115,101,114])) (H (aT (G 1) (ab (.int 1))) (H (ab (.bool false)) (H (ab (.str [117,97,115,111,114,116])) aa))))) (H (ab (.bool false)) aa)))))) aq)
noncomputable def xw:bf:=bC 2 [] [some 0,some 1,none] EX
theorem Yu:bv B 15 (.ref 798) xw:=
 cj 99 Mine.dV (bP [rL] []) {} (by rfl') (by rfl') (by rfl') (en λ_ _=>rfl) (by rfl')
noncomputable def Ob:Cl B:=bY "uasort_action" 2 15 798 xw (by rfl') (by rfl') Yu
noncomputable def Mv:aU:=(af (a1 1 (aM CG (G 0) (dU ej (ab (.int 9))))) (af (a7 (aD oEq (G 1) (ab (.int 5))) (af q0 aq) aq) (af (a7 (aD fq (G 1) (bM (H (ab (.int 2)) (H (ab (.int 6)) aa)))) (af (aR (G 0)) aq) aq) (af (aR (cn (aD oEq (G 1) (ab (.int 1))) (ab (.int 1)) (ab (.int 0)))) aq))))
noncomputable def sD:bf:=bC 1 [] [some 0,none,none] Mv
theorem Yb:bv B 1 (.ref 703) sD:=
 cj 85 Mine.dV (bP [] []) {} (by rfl') (by rfl') (by rfl') (fF λ_=>rfl) (by rfl')
noncomputable def NZ:Cl B:=bY "plain_flags" 1 1 703 sD (by rfl') (by rfl') Yb
noncomputable def z9:aU:=(af (a1 5 (bM (H (ab (.str [102,108,97,103,115])) (H (ak sD (H (aT (G 1) (ab (.int 1))) aa)) (H (G 2) (H (G 3) aa)))))) (af (aR (ak gf (H (G 0) (H (aT (G 1) (ab (.int 0))) (H (G 5) (H (G 4) aa)))))) aq))
noncomputable def kF:bf:=bC 5 [] [some 0,some 1,some 2,some 3,some 4,none,none,none] z9
theorem Yl:bv B 15 (.ref 728) kF:=
 cj 89 Mine.dV (bP [NZ,rL] []) {} (by rfl') (by rfl') (by rfl') (wd λ_ _ _ _ _=>rfl) (by rfl')
noncomputable def rK:Cl B:=bY "sort_by_flags" 5 15 728 kF (by rfl') (by rfl') Yl
noncomputable def ES:aU:=(af (aR (ak kF (H (G 0) (H (G 1) (H (ab (.bool true)) (H (ab (.bool false)) (H (ab (.bool false)) aa))))))) aq)
noncomputable def xo:bf:=bC 2 [] [some 0,some 1,none] ES
theorem XQ:bv B 16 (.ref 763) xo:=
 cj 94 Mine.dV (bP [rK] []) {} (by rfl') (by rfl') (by rfl') (en λ_ _=>rfl) (by rfl')
noncomputable def NJ:Cl B:=bY "ksort_action" 2 16 763 xo (by rfl') (by rfl') XQ
noncomputable def ER:aU:=(af (aR (ak kF (H (G 0) (H (G 1) (H (ab (.bool true)) (H (ab (.bool true)) (H (ab (.bool false)) aa))))))) aq)
noncomputable def xn:bf:=bC 2 [] [some 0,some 1,none] ER
theorem XO:bv B 16 (.ref 770) xn:=
 cj 95 Mine.dV (bP [rK] []) {} (by rfl') (by rfl') (by rfl') (en λ_ _=>rfl) (by rfl')
noncomputable def NI:Cl B:=bY "krsort_action" 2 16 770 xn (by rfl') (by rfl') XO
noncomputable def EQ:aU:=(af (aR (ak kF (H (G 0) (H (G 1) (H (ab (.bool false)) (H (ab (.bool false)) (H (ab (.bool false)) aa))))))) aq)
noncomputable def xj:bf:=bC 2 [] [some 0,some 1,none] EQ
theorem Xp:bv B 16 (.ref 749) xj:=
 cj 92 Mine.dV (bP [rK] []) {} (by rfl') (by rfl') (by rfl') (en λ_ _=>rfl) (by rfl')
noncomputable def Nx:Cl B:=bY "asort_action" 2 16 749 xj (by rfl') (by rfl') Xp
noncomputable def EP:aU:=(af (aR (ak kF (H (G 0) (H (G 1) (H (ab (.bool false)) (H (ab (.bool true)) (H (ab (.bool false)) aa))))))) aq)
noncomputable def xi:bf:=bC 2 [] [some 0,some 1,none] EP
theorem Xo:bv B 16 (.ref 756) xi:=
 cj 93 Mine.dV (bP [rK] []) {} (by rfl') (by rfl') (by rfl') (en λ_ _=>rfl) (by rfl')
noncomputable def Nw:Cl B:=bY "arsort_action" 2 16 756 xi (by rfl') (by rfl') Xo
noncomputable def EW:aU:=(af (aR (ak kF (H (G 0) (H (G 1) (H (ab (.bool false)) (H (ab (.bool false)) (H (ab (.bool true)) aa))))))) aq)
noncomputable def xu:bf:=bC 2 [] [some 0,some 1,none] EW
theorem Yk:bv B 16 (.ref 735) xu:=
 cj 90 Mine.dV (bP [rK] []) {} (by rfl') (by rfl') (by rfl') (en λ_ _=>rfl) (by rfl')
noncomputable def N5:Cl B:=bY "sort_action" 2 16 735 xu (by rfl') (by rfl') Yk
noncomputable def EV:aU:=(af (aR (ak kF (H (G 0) (H (G 1) (H (ab (.bool false)) (H (ab (.bool true)) (H (ab (.bool true)) aa))))))) aq)
noncomputable def xt:bf:=bC 2 [] [some 0,some 1,none] EV
theorem Yf:bv B 16 (.ref 742) xt:=
 cj 91 Mine.dV (bP [rK] []) {} (by rfl') (by rfl') (by rfl') (en λ_ _=>rfl) (by rfl')
noncomputable def N2:Cl B:=bY "rsort_action" 2 16 742 xt (by rfl') (by rfl') Yf
noncomputable def zE:aU:=(af (a7 (aD oLt (G 0) (ab (.int 4))) (af (a7 (aD oLt (G 0) (ab (.int 2))) (af (aR (cn (aD oEq (G 0) (ab (.int 0))) (ak xu (H (G 1) (H (G 2) aa))) (ak xt (H (G 1) (H (G 2) aa))))) aq) aq) (af (aR (cn (aD oEq (G 0) (ab (.int 2))) (ak xj (H (G 1) (H (G 2) aa))) (ak xi (H (G 1) (H (G 2) aa))))) aq)) aq) (af (a7 (aD oLt (G 0) (ab (.int 6))) (af (aR (cn (aD oEq (G 0) (ab (.int 4))) (ak xo (H (G 1) (H (G 2) aa))) (ak xn (H (G 1) (H (G 2) aa))))) aq) aq) (af (a7 (aD oLt (G 0) (ab (.int 8))) (af (aR (cn (aD oEq (G 0) (ab (.int 6))) (ak xy (H (G 1) (H (G 2) aa))) (ak xw (H (G 1) (H (G 2) aa))))) aq) aq) (af (a7 (aD oEq (G 0) (ab (.int 8))) (af (aR (ak xx (H (G 1) (H (G 2) aa)))) aq) aq) (af (aR (cn (aD oEq (G 0) (ab (.int 9))) (ak xr (H (G 1) (H (G 2) aa))) (ak xq (H (G 1) (H (G 2) aa))))) aq)))))
noncomputable def so:bf:=bC 3 [] [some 0,some 1,some 2,none,none,none,none,none,none,none,none,none,none,none] zE
theorem W9:bv B 17 (.ref 1037) so:=
 cj 128 Mine.eF (bP [Nw,Nx,NI,NJ,NR,NS,N2,N5,Ob,Oc,Oe] []) {} (by rfl') (by rfl') (by rfl') (jQ λ_ _ _=>rfl) (by rfl')
noncomputable def Nj:Cl B:=bY "_law_done" 3 17 1037 so (by rfl') (by rfl') W9
noncomputable def zu:aU:=(af (bI 823 0 (G 0) (G 1)) (af (bI 823 1 (G 0) (G 2)) (af (bI 823 2 (G 0) (G 3)) (af (bI 823 3 (G 0) (G 4)) (af (bI 823 4 (G 0) hc) (af (bI 823 5 (G 0) (cM aa)) aq))))))
noncomputable def nO:bf:=bC 1 [.none,.none,.none,.none] [some 0,some 1,some 2,some 3,some 4] zu
theorem W0:bv B 1 (.ref 820) nO:=
 kX (Mine.R 102 0) (Mine.jx 102 0) (.ref 813) Mine.IA (df:=[.none,.none,.none,.none]) (by rfl') (by rfl') (by rfl') rfl (om (T:=813) SX rfl rfl [.none,.none,.none,.none] (.cons (.none) (.cons (.none) (.cons (.none) (.cons (.none) .nil)))) λl h=>by obtain ⟨J,rfl⟩:=mK h;exact ⟨_,rfl,rfl⟩) λL=>gp (t:=bP [] []) {} (by rfl')
theorem M4:bv B 2 (.ref 823) (dO 823 nO):=bv.cls (by rfl') (by rfl') (by rfl') W0
noncomputable def Na:Cl B:=bY "Frame" 0 2 823 (dO 823 nO) (by rfl') (by rfl') M4
noncomputable def zw:aU:=(af (bI 922 0 (G 0) hc) (af (bI 922 1 (G 0) hc) (af (bI 922 2 (G 0) hc) (af (bI 922 3 (G 0) (ak (dO 823 nO) aa)) (af (bI 922 4 (G 0) (aN 922 3 (G 0))) (af (bI 922 5 (G 0) (cM aa)) (af (bI 922 6 (G 0) (ab (.int 0))) (af (bI 922 7 (G 0) (cM aa)) (af (bI 922 8 (G 0) (cM aa)) (af (bI 922 9 (G 0) (ab (.int 0))) (af (bI 922 10 (G 0) (G 1)) (af (bI 922 11 (G 0) (ab (.int 0))) (af (bI 922 12 (G 0) (G 2)) (af (bI 922 13 (G 0) (ab (.int 0))) (af (bI 922 14 (G 0) hc) (af (bI 922 15 (G 0) hc) (af (bI 922 16 (G 0) hc) (af (bI 922 17 (G 0) (cM aa)) (af (bI 922 18 (G 0) (cM aa)) (af (bI 922 19 (G 0) (ab (.bool false))) aq))))))))))))))))))))
noncomputable def oS:bf:=bC 1 [.int 12,.none] [some 0,some 1,some 2,none] zw
theorem W2:bv B 3 (.ref 842) oS:=
 kX (Mine.R 104 0) (Mine.jx 104 0) (.ref 835) Mine.jf (df:=[.int 12,.none]) (by rfl') (by rfl') (by rfl') rfl (om (T:=835) SY rfl rfl [(Mine.i 12 1308),.none] (.cons (.int _ _) (.cons (.none) .nil)) λl h=>by obtain ⟨J,rfl⟩:=mK h;exact ⟨_,rfl,rfl⟩) λL=>gp (t:=bP [Na] []) {} (by rfl')
theorem M5:bv B 4 (.ref 922) (dO 922 oS):=bv.cls (by rfl') (by rfl') (by rfl') W2
noncomputable def Nb:Cl B:=bY "Host" 0 4 922 (dO 922 oS) (by rfl') (by rfl') M5
noncomputable def zz:aU:=(af (bI 181 0 (G 0) (G 1)) (af (bI 181 1 (G 0) (ab (.int 0))) (af (bI 181 2 (G 0) (cM aa)) aq)))
noncomputable def lp:bf:=bC 2 [] [some 0,some 1] zz
theorem W5:bv B 1 (.ref 178) lp:=
 kX (Mine.R 19 0) (Mine.jx 19 0) (.ref 171) Mine.gx (df:=[]) (by rfl') (by rfl') (by rfl') rfl (om (T:=171) SS rfl rfl [] .nil λl h=>by obtain ⟨J,O,rfl⟩:=uL h;exact ⟨_,rfl,rfl⟩) λL=>gp (t:=bP [] []) {} (by rfl')
theorem M6:bv B 2 (.ref 181) (dO 181 lp):=bv.cls (by rfl') (by rfl') (by rfl') W5
noncomputable def Ff:Cl B:=bY "Ref" 1 2 181 (dO 181 lp) (by rfl') (by rfl') M6
noncomputable def zB:aU:=(af (a1 2 (cM aa)) (af (e7 (ak dX (H (ak bG (H (G 0) aa)) aa)) (cx 3) (af (jj (f9 [4,5]) (aT (G 0) (G 3))) (af (a7 (aD oEq (G 3) (G 1)) (af (a1 5 (ak (dO 181 lp) (H (G 5) aa))) (af (bI 181 1 (G 5) (ab (.int 2))) aq)) aq) (af (b9 (bS c2 c0 (G 2) (H (bM (H (G 4) (H (G 5) aa))) aa))) aq))) 100) (af (aR (ak mN (H (G 2) aa))) aq)))
noncomputable def sn:bf:=bC 2 [] [some 0,some 1,none,none,none,none,none,none,none,none] zB
theorem W7:bv B 9 (.ref 992) sn:=
 cj 121 Mine.eF (bP [Ff,Ft] []) {} (by rfl') (by rfl') (by rfl') (en λ_ _=>rfl) (by rfl')
noncomputable def Nh:Cl B:=bY "_law_built" 2 9 992 sn (by rfl') (by rfl') W7
noncomputable def zF:aU:=(af (a1 3 (cM aa)) (af (e7 (ak dX (H (ak bG (H (G 0) aa)) aa)) (cx 4) (af (jj (f9 [5,6,7]) (aT (G 0) (G 4))) (af (a7 (a' (G 2)) (af (a1 5 (G 4)) aq) aq) (af (b9 (bS c2 c0 (G 3) (H (bM (H (ak gc (H (G 5) aa)) (H (G 5) (H (ak gc (H (G 6) aa)) (H (G 6) (H (aM oEq (G 7) (G 1)) aa)))))) aa))) aq))) 100) (af (aR (ib (G 3))) aq)))
noncomputable def sp:bf:=bC 3 [] [some 0,some 1,some 2,none,none,none,none,none,none,none,none] zF
theorem W':bv B 2 (.ref 1006) sp:=
 cj 123 Mine.eF (bP [oq] []) {ap:=["rows"]} (by rfl') (by rfl') (by rfl') (jQ λ_ _ _=>rfl) (by rfl')
noncomputable def Nk:Cl B:=bY "_law_due" 3 2 1006 sp (by rfl') (by rfl') W'
noncomputable def zI:aU:=(af (a1 1 (cM aa)) (af (a1 2 (ab (.bool false))) (af (e7 (G 0) (cx 3) (af (a7 (a' (iI oLe oLe (ab (.str [48])) (G 3) (ab (.str [57])))) (af (a7 (a' (G 2)) (af (jC (G 1) (dU ej (ab (.int 1))) (bM (H (ab (.int 48)) (H (aM eA (aM cV (aM gM (aT (aT (G 1) (dU ej (ab (.int 1)))) (ab (.int 1))) (ab (.int 10))) (ak hd (H (G 3) aa))) (ab (.int 48))) aa)))) aq) (af (b9 (bS c2 c0 (G 1) (H (bM (H (ab (.int 48)) (H (aM eA (ak hd (H (G 3) aa)) (ab (.int 48))) aa))) aa))) aq)) aq) (af (a7 (aD ec (G 3) (ab (.str [32]))) (af (b9 (bS c2 c0 (G 1) (H (bM (H (ak hd (H (G 3) aa)) (H (ab (.int 0)) aa))) aa))) aq) aq) aq)) (af (a1 2 (iI oLe oLe (ab (.str [48])) (G 3) (ab (.str [57])))) aq)) 100) (af (aR (ib (G 1))) aq))))
noncomputable def oU:bf:=bC 1 [] [some 0,none,none,none,none] zI
theorem Xf:bv B 1 (.ref 959) oU:=
 cj 116 Mine.eF (bP [] []) {ap:=["parts"]} (by rfl') (by rfl') (by rfl') (fF λ_=>rfl) (by rfl')
noncomputable def Np:Cl B:=bY "_law_parts" 1 1 959 oU (by rfl') (by rfl') Xf
noncomputable def v5:aU:=(af (a7 (a' (ak ey (H (G 0) (H (ab (.con (.type "int"))) aa)))) (af (aR (ak nQ (H (G 0) (H (G 1) aa)))) aq) aq) (af (a7 (dI (aD oEq (G 0) (ab (.str [110,117,109,98,101,114]))) (dI (bp (aD oEq (G 0) (ab (.str [112,108,97,105,110]))) (bp (aD oEq (bS ik rY (ak kD (H (G 1) aa)) (H (ab (.str [32,48,49,50,51,52,53,54,55,56,57,45])) aa)) (ab (.str []))) (bp (aD ec (G 1) (ab (.str []))) bW))) fD)) (af (aR (cn (dI (ek (a' (ak ey (H (G 1) (H (ab (.con (.type "str"))) aa))))) (dI (aD oEq (G 0) (ab (.str [110,117,109,98,101,114]))) fD)) (ak xh (H (G 1) aa)) (ak kp (H (G 1) aa)))) aq) aq) (af (a7 (aD oEq (G 0) (ab (.str [115,109,97,108,108]))) (af (aR (bS ik AM (ak kD (H (G 1) aa)) aa)) aq) aq) (af (a7 (aD oEq (G 0) (ab (.str [110,97,116,117,114,97,108]))) (af (aR (ak oU (H (ak kD (H (G 1) aa)) aa))) aq) aq) (af (a7 (aD oEq (G 0) (ab (.str [110,97,116,117,114,97,108,32,115,109,97,108,108]))) (af (aR (ak oU (H (bS ik p' (ak kD (H (G 1) aa)) aa) aa))) aq) aq) (af (aR (ak kD (H (G 1) aa))) aq))))))
noncomputable def iP:bf:=bC 2 [] [some 0,some 1,none,none,none,none,none,none,none] v5
theorem Xb:bv B 4 (.ref 973) iP:=
 cj 118 Mine.eF (bP [Fl,Np,Fm,Fn] []) {} (by rfl') (by rfl') (by rfl') (en λ_ _=>rfl) (by rfl')
noncomputable def Nm:Cl B:=bY "_law_measure" 2 4 973 iP (by rfl') (by rfl') Xb
noncomputable def zG:aU:=(af (a1 4 (cM aa)) (af (e7 (G 0) (cx 5) (af (a1 6 (ak iP (H (G 1) (H (aT (G 5) (G 2)) aa)))) (af (a1 7 (ak bG (H (G 4) aa))) (af (g4 (aD eZ (G 7) (ab (.int 0))) (af (a1 8 (ak iP (H (G 1) (H (aT (aT (G 4) (aM eA (G 7) (ab (.int 1)))) (G 2)) aa)))) (af (a7 (ek (gP (a' (G 3)) (aD kK (G 8) (G 6)) (aD kK (G 6) (G 8)))) (af pn aq) aq) (af (a1 7 (aM eA (G 7) (ab (.int 1)))) aq))) 100) (af (b9 (bS c2 rV (G 4) (H (G 7) (H (G 5) aa)))) aq)))) 100) (af (aR (ib (G 4))) aq)))
noncomputable def sq:bf:=bC 4 [] [some 0,some 1,some 2,some 3,none,none,none,none,none,none,none] zG
theorem Xa:bv B 5 (.ref 980) sq:=
 cj 119 Mine.eF (bP [Nm] []) {ap:=["made"],ltL:=true} (by rfl') (by rfl') (by rfl') (rF λ_ _ _ _=>rfl) (by rfl')
noncomputable def Nl:Cl B:=bY "_law_inserted" 4 5 980 sq (by rfl') (by rfl') Xa
noncomputable def zD:aU:=(af (a1 2 (aM fH (aT (G 0) (ab (.int 0))) (G 1))) (af (jC (G 0) (ab (.int 0)) (aM u2 (aT (G 0) (ab (.int 0))) (G 1))) (af (aR (G 2)) aq)))
noncomputable def gb:bf:=bC 2 [] [some 0,some 1,none] zD
theorem W8:bv B 1 (.ref 938) gb:=
 cj 113 Mine.eF (bP [] []) {} (by rfl') (by rfl') (by rfl') (en λ_ _=>rfl) (by rfl')
noncomputable def Fk:Cl B:=bY "_law_digit" 2 1 938 gb (by rfl') (by rfl') W8
noncomputable def zH:aU:=(af (a1 4 hc) (af (e7 (kn (G 0) (ed (ab (.int 1))) (ed (ab (.int 8)))) (cx 5) (af (a1 6 (cM (H (G 5) aa))) (af (eB [8,7] (bM (H (ak gb (H (G 6) (H (ab (.int 12)) aa))) (H (ak gb (H (G 6) (H (ab (.int 16)) aa))) aa)))) (af (a7 (bp (a' (G 2)) (bp (a' (G 1)) bW)) (af (a1 7 (aM cV (aM fH (G 7) (ab (.int 6))) (aM gM (ab (.int 6)) (G 3)))) aq) (af (a7 (a' (G 2)) (af (a1 8 (cn (aD oEq (G 3) (ab (.int 1))) (aM cV (ab (.int 8)) (aM fH (G 8) (ab (.int 6)))) (aM fH (G 8) (ab (.int 8))))) aq) aq) aq)) (af (kP (G 4) (aT (ab ra) (G 7)) (aT (ab rb) (G 8))) aq)))) 100) (af (aR (tW 4)) aq)))
noncomputable def ss:bf:=bC 4 [] [some 0,some 1,some 2,some 3,none,none,none,none,none,none,none,none] zH
noncomputable def zh:fw B:=bP [Fk] []
theorem Xe:bv B 2 (.ref 985) ss:=
 rq 120 Mine.eF (by rfl') (by rfl') (by rfl') (λl h=>by obtain ⟨J,O,ah,au,rfl⟩:=B3 h;rfl) λL=>(.cons (hv (t:=zh) {lsl:=true} (by rfl')) (.cons (hv (t:=zh) {lsl:=true} (by rfl')) (.cons (.ret (.Oi (pl:=[none,none,some 4]) (kk:=1) (kb:=2) rfl (by rfl') (by rfl') (by rfl') (by rfl') (by rfl') rfl rfl rfl rfl rfl (by decide))) (gp (t:=zh) {lsl:=true} (by rfl')))))
noncomputable def No:Cl B:=bY "_law_pairs" 4 2 985 ss (by rfl') (by rfl') Xe
noncomputable def L':aU:=(af (a7 (aD fq (G 0) (bM (H (ab (.int 6)) (H (ab (.int 7)) (H (ab (.int 8)) aa))))) (af (aR (G 2)) aq) aq) (af (aR (cn (aD eZ (G 0) (ab (.int 8))) (aT (bM (H (ab (.str [110,97,116,117,114,97,108])) (H (ab (.str [110,97,116,117,114,97,108,32,115,109,97,108,108])) aa))) (aM eA (G 0) (ab (.int 9)))) (aT (ab DC) (G 1)))) aq))
noncomputable def su:bf:=bC 3 [] [some 0,some 1,some 2,none] L'
theorem Xh:bv B 1 (.ref 1044) su:=
 cj 129 Mine.eF (bP [] []) {} (by rfl') (by rfl') (by rfl') (jQ λ_ _ _=>rfl) (by rfl')
noncomputable def Nr:Cl B:=bY "_law_rule" 3 1 1044 su (by rfl') (by rfl') Xh
noncomputable def zV:aU:=(af (a1 0 (kn (G 0) lw (ed (ab (.int 63))))) (af (a1 1 (cM (H (cn (aD gw (G 0) (ef aa)) (aT (G 0) (ab (.int 0))) (ab (.int 0))) aa))) (af (eB [4,3,2] (bM (H (ak gb (H (G 1) (H (ab (.int 11)) aa))) (H (ak gb (H (G 1) (H (ab (.int 8)) aa))) (H (ak gb (H (G 1) (H (ab (.int 2)) aa))) aa))))) (af (jj (f9 [5,6,7,8]) (bM (H (aM oEq (ak gb (H (G 1) (H (ab (.int 2)) aa))) (ab (.int 1))) (H (ak gb (H (G 1) (H (ab (.int 4)) aa))) (H (ak gb (H (G 1) (H (ab (.int 4)) aa))) (H (ak gb (H (G 1) (H (ab (.int 8)) aa))) aa)))))) (af (eB [10,9] (bM (H (aM fq (G 2) (bM (H (ab (.int 4)) (H (ab (.int 5)) (H (ab (.int 8)) aa))))) (H (aM fq (G 2) (bM (H (ab (.int 0)) (H (ab (.int 1)) (H (ab (.int 6)) aa))))) aa)))) (af (a1 11 (ak su (H (G 2) (H (G 3) (H (G 7) aa))))) (af (a1 12 (ak ss (H (G 0) (H (G 9) (H (aM oEq (G 11) (ab (.str [112,108,97,105,110]))) (H (G 4) aa)))))) (af (a1 13 (e' true (ak dX (H (ak bG (H (G 12) aa)) aa)) [none,none,some 12] (cx 1) bW (bM (H (aT (aT (G 2) (G 1)) (ab (.int 0))) (H (aT (aT (G 2) (G 1)) (ab (.int 1))) (H (G 1) aa)))) 100)) (af (a1 13 (ak sq (H (G 13) (H (G 11) (H (cn (a' (G 9)) (ab (.int 0)) (ab (.int 1))) (H (aM fq (G 2) (bM (H (ab (.int 1)) (H (ab (.int 3)) (H (ab (.int 5)) aa))))) aa)))))) (af (a1 14 (ak sp (H (G 13) (H (G 8) (H (G 10) aa))))) (af (a1 15 (ak sn (H (G 12) (H (G 8) aa)))) (af (bI 316 9 (G 15) (G 5)) (af (eB [17,16] (bM (H (ak lX (H (G 15) aa)) (H (ak nP (H (G 15) aa)) aa)))) (af (eB [19,18] (bM (H (ak (dO 181 lp) (H (G 15) aa)) (H (ak (dO 922 oS) aa) aa)))) (af (kP (aN 922 0 (G 19)) (ab (.str [99,97,108,108])) (ab (.con (.ref 1030)))) (af (a1 20 (ef (H (G 18) (H (cn (aD fq (G 2) (bM (H (ab (.int 6)) (H (ab (.int 7)) (H (ab (.int 8)) aa))))) (aM cV (ak jR (H (G 7) aa)) (ak jR (H (G 6) aa))) (aT (ab ti) (G 3))) aa)))) (af (a1 21 (cM aa)) (af (e7 (ak dX (H (ab (.int 2)) aa)) (cx 22) (af (a7 (ek (a' (ak so (H (G 2) (H (G 19) (H (G 20) aa)))))) (af (aR (ab (.bool false))) aq) aq) (af (a7 (bp (aD eZ (ak bG (H (G 12) aa)) (ab (.int 1))) (bp (aD fq (G 2) (bM (H (ab (.int 6)) (H (ab (.int 7)) (H (ab (.int 8)) aa))))) (bp (aD oEq (G 6) (ab (.int 1))) bW))) (af (b9 (bS c2 c0 (G 21) (H (bM (H (ab (.str [68,101,112,114,101,99,97,116,101,100])) (H (aM cV (aM cV (aM cV (aT (ab yA) (G 2)) (ab (.str [40,41,58,32]))) (ab yB)) (ab yz)) aa))) aa))) aq) aq) (af (a7 (dI (aD ec (ak lX (H (aN 181 0 (G 18)) aa)) (G 14)) (dI (aD ec (aN 316 7 (aN 181 0 (G 18))) (ak sr (H (G 12) (H (G 10) aa)))) fD)) (af (aR (ab (.bool false))) aq) aq) (af (a1 23 (ak nP (H (aN 181 0 (G 18)) aa))) (af (a7 (dI (aD ec (ak bG (H (G 23) aa)) (ak bG (H (G 17) aa))) (dI (bp (aD gw (G 17) (ef aa)) (bp (aD mT (aT (G 23) (ab (.int 0))) (aT (G 17) (ab (.int 0)))) bW)) fD)) (af (aR (ab (.bool false))) aq) aq) aq))))) 100) (af (a7 (bp (a' (G 5)) (bp (dI (aD ec (ak lX (H (G 15) aa)) (G 16)) (dI (bp (aD gw (G 12) (ef aa)) (bp (aD iU (aN 181 0 (G 18)) (G 15)) bW)) fD)) bW)) (af (aR (ab (.bool false))) aq) aq) (af (aR (aM oEq (aN 922 5 (G 19)) (G 21))) aq))))))))))))))))))))
noncomputable def Cm:bf:=bC 1 [] [some 0,none,none,none,none,none,none,none,none,none,none,none,none,none,none,none,none,none,none,none,none,none,none,none,none,none,none,none,none,none,none,none,none,none,none,none,none,none,none,none,none,none,none,none] zV
noncomputable def mw:fw B:=bP [Nb,Ff,Nh,Fk,Nj,Nk,Nl,Nn,No,Nq,Nr,Nt] []
theorem XR:bv B 18 (.ref 1049) Cm:=
 rq 130 Mine.eF (by rfl') (by rfl') (by rfl') (λl h=>by obtain ⟨J,rfl⟩:=mK h;rfl) λL=>(.cons (hv (t:=mw) {lsl:=true,arg:=true} (by rfl')) (.cons (hv (t:=mw) {lsl:=true,arg:=true} (by rfl')) (.cons (hv (t:=mw) {lsl:=true,arg:=true} (by rfl')) (.cons (hv (t:=mw) {lsl:=true,arg:=true} (by rfl')) (.cons (hv (t:=mw) {lsl:=true,arg:=true} (by rfl')) (.cons (hv (t:=mw) {lsl:=true,arg:=true} (by rfl')) (.cons (hv (t:=mw) {lsl:=true,arg:=true} (by rfl')) (.cons (.yj (k:=13) rfl (cap:=true) ⟨rfl,by rfl',by rfl',by rfl',by rfl',by rfl',rfl,λC hk=>k9 {} (by rfl'),λC hk=>.nil,λC hk=>(fy (t:=mw) {lsl:=true,arg:=true} (by rfl'))⟩ (fy (t:=mw) {lsl:=true,arg:=true} (by rfl')) (by with_unfolding_all rfl)) (gp (t:=mw) {lsl:=true,arg:=true} (by rfl'))))))))))
theorem F5 (J O:V) (D:am):hE [J,O] D=outF (v7 [J,O,.u,.u,.u] D):=rfl
theorem O3 (J O:V) (D:am):sk [J,O] D=outF (zs [J,O] D):=rfl
theorem PT (J:V) (D:am):lq [J] D=outF (z8 [J,.u,.u] D):=rfl
theorem Pu (J:V) (D:am):hj [J] D=outF (zR [J,.u,.u,.u] D):=rfl
theorem Pl (J:V) (D:am):lX [J] D=outF (zK [J,.u,.u,.u,.u,.u,.u,.u,.u] D):=rfl
theorem Pk (J:V) (D:am):nP [J] D=outF (zJ [J,.u] D):=rfl
theorem F4 (J O:V) (D:am):sr [J,O] D=outF (v6 [J,O,.u,.u,.u] D):=rfl
theorem PF (J O:V) (D:am):mP [J,O] D=outF (zZ [J,O,.u] D):=rfl
theorem F6 (J:V) (D:am):nS [J] D=outF (v8 [J,.u,.u] D):=rfl
theorem PO (J O ah:V) (D:am):qK [J,O,ah] D=outF (z4 [J,O,ah,.int 0,.int 0,.int 0,.u,.u,.u,.u,.u,.u,.u,.u,.u,.u] D):=rfl
theorem O1 (J:V) (D:am):oQ [J] D=outF (v4 [J,.int 8,.u] D):=rfl
theorem OZ (J:V) (D:am):mM [J] D=outF (zp [J,.bool false] D):=rfl
theorem Po (J O ah:V) (D:am):oX [J,O,ah] D=outF (zN [J,O,ah,.u,.u] D):=rfl
theorem Px (J:V) (D:am):qG [J] D=outF (zT [J,.u,.u,.u,.u,.u] D):=rfl
theorem PC (J O:V) (D:am):o3 [J,O] D=outF (zW [J,O,.u,.u] D):=rfl
theorem Pr (J:V) (D:am):sv [J] D=outF (zO [J,.u,.u,.u,.u,.u] D):=rfl
theorem PQ (J:V) (D:am):o5 [J] D=outF (z6 [J,.u,.u,.u,.u,.u,.u,.u] D):=rfl
theorem Pn (J O ah:V) (D:am):oW [J,O,ah] D=outF (zM [J,O,ah,.u,.u,.u,.u,.u] D):=rfl
theorem ww (J O:V) (D:am):nT [J,O] D=outF (rE [J,O,.u,.u,.u] D):=rfl
theorem PX (J:V) (D:am):qL [J] D=outF (z' [J,.u,.u,.u,.u] D):=rfl
theorem Pm (J O ah:V) (D:am):oV [J,O,ah] D=outF (zL [J,O,ah,.u,.u,.u,.u,.u,.u,.u,.u,.u] D):=rfl
theorem F2 (J O:V) (D:am):nN [J,O] D=outF (v3 [J,O,.u,.u,.u,.u,.u] D):=rfl
theorem O0 (J O:V) (D:am):qD [J,O] D=outF (zq [J,O,.u,.u,.u,.u,.u] D):=rfl
theorem PD (J:V) (D:am):qH [J] D=outF (zX [J,.u,.u,.u] D):=rfl
theorem O4 (J O ah:V) (D:am):qE [J,O,ah] D=outF (zt [J,O,ah,.u,.u] D):=rfl
theorem Pw (J:V) (D:am):mN [J] D=outF (zS [J,.u,.u,.u,.u] D):=rfl
theorem Ps (J O:V) (D:am):kE [J,O] D=outF (zP [J,O] D):=rfl
theorem PS (J O:V) (D:am):gd [J,O] D=outF (z7 [J,O] D):=rfl
theorem PP (J:V) (D:am):mQ [J] D=outF (z5 [J,.u,.u,.u,.u] D):=rfl
theorem PK (J O ah:V) (D:am):o4 [J,O,ah] D=outF (v' [J,O,ah,.u,.u,.u,.u,.u,.u,.u,.u,.u,.u,.u,.u,.u,.u,.u] D):=rfl
theorem PE (J:V) (D:am):m_lower [J] D=outF (zY [J,.u,.u,.u,.u] D):=rfl
theorem O9 (J O ah:V) (D:am):oT [J,O,ah] D=outF (zy [J,O,ah] D):=rfl
theorem PW (J O ah au:V) (D:am):lZ [J,O,ah,au] D=outF (nk [J,O,ah,au,.u,.u,.u,.u,.u,.u,.u,.u,.u] D):=rfl
theorem O8 (J O:V) (D:am):sl [J,O] D=outF (zx [J,O,.u] D):=rfl
theorem Pa (J O ah au:V) (D:am):sm [J,O,ah,au] D=outF (zA [J,O,ah,au,.u,.u,.u] D):=rfl
theorem Pc (J O ah:V) (D:am):uR [J,O,ah] D=outF (zC [J,O,ah,.u,.u] D):=rfl
theorem O6 (J O ah:V) (D:am):lm [J,O,ah] D=outF (zv [J,O,ah] D):=rfl
theorem P0 (J O ah au ay:V) (D:am):nU [J,O,ah,au,ay] D=outF (Aa [J,O,ah,au,ay,.u,.u,.u,.u,.u,.u,.u] D):=rfl
theorem PN (J O ah au ay:V) (D:am):lY [J,O,ah,au,ay] D=outF (z3 [J,O,ah,au,ay,.u,.u,.u,.u,.u,.u,.u,.u] D):=rfl
theorem PH (J O ah au ay:V) (D:am):qI [J,O,ah,au,ay] D=outF (z1 [J,O,ah,au,ay,.u,.u,.u,.u,.u] D):=rfl
theorem F7 (J O ah au:V) (D:am):sx [J,O,ah,au] D=outF (v9 [J,O,ah,au,.u,.u,.u,.u,.u] D):=rfl
theorem PG (J O ah:V) (D:am):sw [J,O,ah] D=outF (z0 [J,O,ah,.u,.u,.u,.u] D):=rfl
theorem PL (J O:V) (D:am):qJ [J,O] D=outF (z2 [J,O,.u,.u,.u] D):=rfl
theorem Py (J:V) (D:am):uT [J] D=outF (zU [J] D):=rfl
theorem AA (J:V) (D:am):qF [J] D=outF (tR [J,.u,.u,.u,.u,.u] D):=rfl
theorem O2 (J O:V) (D:am):oR [J,O] D=outF (zr [J,O,.u] D):=rfl
theorem Pt (J:V) (D:am):oZ [J] D=outF (zQ [J,.u,.u,.u,.u,.u,.u,.u] D):=rfl
theorem F8 (J:V) (D:am):sC [J] D=outF (wa [J,.u] D):=rfl
theorem F9 (J O ah au:V) (D:am):gf [J,O,ah,au] D=outF (wb [J,O,ah,au,.u,.u,.u,.u,.u,.u,.u,.u,.u] D):=rfl
theorem PJ (J O:V) (D:am):xr [J,O] D=outF (EU [J,O,.u] D):=rfl
theorem PI (J O:V) (D:am):xq [J,O] D=outF (ET [J,O,.u] D):=rfl
theorem PZ (J O:V) (D:am):xx [J,O] D=outF (EY [J,O,.u] D):=rfl
theorem P1 (J O:V) (D:am):xy [J,O] D=outF (EZ [J,O,.u] D):=rfl
theorem PY (J O:V) (D:am):xw [J,O] D=outF (EX [J,O,.u] D):=rfl
theorem PV (J O ah au ay:V) (D:am):kF [J,O,ah,au,ay] D=outF (z9 [J,O,ah,au,ay,.u,.u,.u] D):=rfl
theorem PA (J O:V) (D:am):xo [J,O] D=outF (ES [J,O,.u] D):=rfl
theorem Pz (J O:V) (D:am):xn [J,O] D=outF (ER [J,O,.u] D):=rfl
theorem Pq (J O:V) (D:am):xj [J,O] D=outF (EQ [J,O,.u] D):=rfl
theorem Pp (J O:V) (D:am):xi [J,O] D=outF (EP [J,O,.u] D):=rfl
theorem PU (J O:V) (D:am):xu [J,O] D=outF (EW [J,O,.u] D):=rfl
theorem PR (J O:V) (D:am):xt [J,O] D=outF (EV [J,O,.u] D):=rfl
theorem Pe (J O ah:V) (D:am):so [J,O,ah] D=outF (zE [J,O,ah,.u,.u,.u,.u,.u,.u,.u,.u,.u,.u,.u] D):=rfl
theorem O5 (J:V) (D:am):nO [J] D=outF (zu [J,.none,.none,.none,.none] D):=rfl
theorem O7 (J:V) (D:am):oS [J] D=outF (zw [J,.int 12,.none,.u] D):=rfl
theorem O' (J O:V) (D:am):lp [J,O] D=outF (zz [J,O] D):=rfl
theorem Pb (J O:V) (D:am):sn [J,O] D=outF (zB [J,O,.u,.u,.u,.u,.u,.u,.u,.u] D):=rfl
theorem Pf (J O ah:V) (D:am):sp [J,O,ah] D=outF (zF [J,O,ah,.u,.u,.u,.u,.u,.u,.u,.u] D):=rfl
theorem Pj (J:V) (D:am):oU [J] D=outF (zI [J,.u,.u,.u,.u] D):=rfl
theorem F3 (J O:V) (D:am):iP [J,O] D=outF (v5 [J,O,.u,.u,.u,.u,.u,.u,.u] D):=rfl
theorem Pg (J O ah au:V) (D:am):sq [J,O,ah,au] D=outF (zG [J,O,ah,au,.u,.u,.u,.u,.u,.u,.u] D):=rfl
theorem Pd (J O:V) (D:am):gb [J,O] D=outF (zD [J,O,.u] D):=rfl
theorem Ph (J O ah au:V) (D:am):ss [J,O,ah,au] D=outF (zH [J,O,ah,au,.u,.u,.u,.u,.u,.u,.u,.u] D):=rfl
theorem PB (J:V) (D:am):Cm [J] D=outF (zV [J,.u,.u,.u,.u,.u,.u,.u,.u,.u,.u,.u,.u,.u,.u,.u,.u,.u,.u,.u,.u,.u,.u,.u,.u,.u,.u,.u,.u,.u,.u,.u,.u,.u,.u,.u,.u,.u,.u,.u,.u,.u,.u,.u] D):=rfl
end
section
section
variable {aS a0:Type} (rk:aS->Int)
noncomputable def ins (x:aS):List aS->List aS
 | []=>[x]
 | y::l=>if rk x < rk y then x::y::l else y::ins x l
noncomputable def co (l:List aS):List aS:=l.foldl (λbi x=>ins rk x bi) []
noncomputable def fb:List aS->List aS->List aS
 | [],b=>b
 | x::a,b=>go x a (fb a) b
where
 go (x:aS) (a:List aS) (k:List aS->List aS):List aS->List aS
  | []=>x::a
  | y::b=>if rk y < rk x then y::go x a k b else x::k (y::b)
theorem kA (x y:aS) (l:List aS):ins rk x (y::l)=if rk x < rk y then x::y::l else y::ins rk x l:=rfl
theorem li (x:aS):ins rk x []=[x]:=rfl
theorem uV (a:List aS):fb rk a []=a:=by cases a <;> rfl
theorem Ie (b:List aS):fb rk [] b=b:=rfl
theorem o8 (x:aS) (a:List aS) (y:aS) (b:List aS):fb rk (x::a) (y::b)=if rk y < rk x then y::fb rk (x::a) b else x::fb rk a (y::b):=rfl
theorem xA (x:aS):∀(a b:List aS),fb rk a (ins rk x b)=ins rk x (fb rk a b)
 | [],b=>by simp [Ie]
 | p::a,[]=>by
  have bJ:=xA x a [];rw [uV];simp only [kA,li] at bJ ⊢;rw [o8,uV];rw [uV] at bJ;rw [bJ]
 | p::a,q::b=>by
  have uu:=xA x a (q::b);have Se:=xA x (p::a) b;rw [o8];simp only [kA,li] at uu ⊢
  by_cases aj:rk x < rk q
  .rw [if_pos aj] at uu ⊢;rw [o8]
   by_cases ao:rk q < rk p
   .rw [if_pos (by lia),if_pos ao];simp only [kA,li];rw [if_pos aj,o8,if_pos ao]
   .rw [if_neg ao];simp only [kA,li]
    by_cases aL:rk x < rk p
    .rw [if_pos aL,if_pos aL,o8,if_neg ao]
    .rw [if_neg aL,if_neg aL,uu]
  .rw [if_neg aj] at uu ⊢;rw [o8]
   by_cases ao:rk q < rk p
   .rw [if_pos ao,if_pos ao];simp only [kA,li];rw [if_neg aj,Se]
   .rw [if_neg ao,if_neg ao];simp only [kA,li];rw [if_neg (by lia),uu]
termination_by a b=>a.length+b.length
theorem oO (l:List aS) (x:aS):co rk (l++[x])=ins rk x (co rk l):=by simp [co,List.foldl_append]
theorem vd {P:List aS->Prop} (h0:P []) (aj:∀l x,P l->P (l++[x])) (l:List aS):P l:=by
 have:∀n (l:List aS),l.length=n->P l:=by
  intro n
  induction n with
  | zero=>intro l h;rw [List.eq_nil_of_length_eq_zero h];exact h0
  | succ n bJ=>
   intro l h;have fB:l≠[]:=by intro q;subst q;simp at h
   rw [<- List.dropLast_concat_getLast fB];exact aj _ _ (bJ _ (by simp;lia))
 exact this _ l rfl
theorem T7 (a b:List aS):fb rk (co rk a) (co rk b)=co rk (a++b):=by
 induction b using vd with
 | h0=>simp [co,uV]
 | aj b x bJ=>rw [oO,xA,bJ,<- List.append_assoc,oO]
noncomputable def k3 (l:List aS):Prop:=l.Pairwise λa b=>rk a<=rk b
theorem BM (x:aS):∀l:List aS,(ins rk x l).Perm (x::l)
 | []=>.refl _
 | y::l=>by
  simp only [kA,li];split
  .exact .refl _
  .exact ((BM x l).cons y).trans (.swap x y l)
theorem uD (l:List aS):(co rk l).Perm l:=by
 induction l using vd with
 | h0=>exact .refl _
 | aj l x bJ=>rw [oO];exact (BM rk x _).trans ((bJ.cons x).trans (List.perm_append_singleton x l).symm)
theorem Hp (x:aS):∀l:List aS,k3 rk l->k3 rk (ins rk x l)
 | [],_=>by simp [kA,li,k3]
 | y::l,h=>by
  unfold k3 at h ⊢;rw [List.pairwise_cons] at h;simp only [kA,li];split
  .rename_i q;rw [List.pairwise_cons,List.pairwise_cons];refine ⟨λz hz=>?_,h⟩;rcases List.mem_cons.mp hz with rfl | hz
   .lia
   .have:=h.1 z hz;lia
  .rename_i q;rw [List.pairwise_cons];refine ⟨λz hz=>?_,Hp x l h.2⟩;have:=(BM rk x l).mem_iff.mp hz;rcases List.mem_cons.mp this with rfl | hz
   .lia
   .exact h.1 z hz
theorem Hy (l:List aS):k3 rk (co rk l):=by
 induction l using vd with
 | h0=>simp [co,k3]
 | aj l x bJ=>rw [oO];exact Hp rk x _ bJ
theorem Ho (x:aS):∀l:List aS,(∀y∈l,rk y<=rk x)->ins rk x l=l++[x]
 | [],_=>rfl
 | y::l,h=>by
  have aj:=h y (List.mem_cons_self ..);simp only [kA,li,List.cons_append];rw [if_neg (by lia),Ho x l λz hz=>h z (List.mem_cons_of_mem _ hz)]
theorem Sz (l:List aS):k3 rk l->co rk l=l:=by
 induction l using vd with
 | h0=>intro _;rfl
 | aj l x bJ=>
  intro h;unfold k3 at h;rw [List.pairwise_append] at h;rw [oO,bJ h.1];exact Ho rk x l λy dr=>h.2.2 y dr x (List.mem_singleton_self _)
theorem uC (l:List aS):(co rk l).length=l.length:=(uD rk l).length_eq
theorem oN {l:List aS} {x:aS}:x∈co rk l↔x∈l:=(uD rk l).mem_iff
theorem Hn (x:aS):∀(l:List aS) (p:Nat),k3 rk l->p<=l.length->(∀y,l[p]? =some y->rk x < rk y)->(∀y,p≠0->l[p - 1]? =some y->¬rk x < rk y)->ins rk x l=l.take p++x::l.drop p
 | [],p,_,aw,_,_=>by simp at aw;subst aw;simp [kA,li]
 | y::l,p,hs,aw,aj,ao=>by
  unfold k3 at hs;rw [List.pairwise_cons] at hs;simp only [kA,li]
  cases p with
  | zero=>
   rw [if_pos (aj y rfl)];simp
  | succ p=>
   have RB:¬rk x < rk y:=by
    cases p with
    | zero=>exact ao y (by lia) rfl
    | succ p=>
     have cY:p < l.length:=by simp at aw;lia
     have:=ao l[p] (by lia) (by simp [cY]);have:=hs.1 l[p] (List.getElem_mem _);lia
   rw [if_neg RB];simp only [List.take_succ_cons,List.drop_succ_cons,List.cons_append];congr 1;refine Hn x l p hs.2 (by simpa using aw) (λz hz=>aj z (by simpa using hz)) λz fB hz=>ao z (by lia) ?_
   cases p with
   | zero=>exact absurd rfl fB
   | succ p=>simpa using hz
theorem ins_map (f:a0->aS) (x:a0):∀l:List a0,ins rk (f x) (l.map f)=(ins (λb=>rk (f b)) x l).map f
 | []=>rfl
 | y::l=>by
  simp only [List.map_cons,kA];split
  .rfl
  .rw [ins_map f x l];rfl
theorem BR (f:a0->aS) (l:List a0):co rk (l.map f)=(co (λb=>rk (f b)) l).map f:=by
 induction l using vd with
 | h0=>rfl
 | aj l x bJ=>rw [List.map_append,List.map_singleton,oO,bJ,ins_map,oO]
end
end
section
open PySem
noncomputable def Fr (W:Nat->Prop) (D al:am):Prop:=D.length<=al.length/\∀j,j < D.length->¬W j->al[j]? =D[j]?
noncomputable def dx:Nat->Prop:=λ_=>False
theorem Fr.refl {W} (D:am):Fr W D D:=⟨Nat.le_refl _,λ_ _ _=>rfl⟩
theorem Fr.trans {W ol pU:Nat->Prop} {D al j7:am} (a:Fr W D al) (b:Fr ol al j7) (aj:∀j,W j->pU j) (ao:∀j,j < D.length->ol j->pU j):Fr pU D j7:=
 ⟨Nat.le_trans a.1 b.1,λj aX a3=>(b.2 j (Nat.lt_of_lt_of_le aX a.1) λw=>a3 (ao j aX w)).trans (a.2 j aX λw=>a3 (aj j w))⟩
theorem Fr.t {W:Nat->Prop} {D al j7:am} (a:Fr W D al) (b:Fr W al j7):Fr W D j7:=a.trans b (λ_ h=>h) λ_ _ h=>h
theorem Fr.wide {W ol:Nat->Prop} {D al:am} (a:Fr W D al) (h:∀j,j < D.length->W j->ol j):Fr ol D al:=⟨a.1,λj aX a3=>a.2 j aX λw=>a3 (h j aX w)⟩
theorem Fr.app {W} (D g:am):Fr W D (D++g):=⟨by simp,λj aX _=>by rw [List.getElem?_append_left aX]⟩
theorem Fr.set {W:Nat->Prop} (D:am) (i:Nat) (x:az) (h:W i):Fr W D (D.set i x):=⟨by simp,λj aX a3=>by rw [List.getElem?_set_ne];intro q;subst q;exact a3 h⟩
theorem Fr.at {W D al} (a:Fr W D al) {j:Nat} {o:az} (h:D[j]? =some o) (a3:¬W j):al[j]? =some o:=(a.2 j (List.getElem?_eq_some_iff.mp h).1 a3).trans h
theorem H0 {aS:Type} {l:List aS} {k:Nat} {x:aS} (h:l[k]? =some x):k < l.length:=(List.getElem?_eq_some_iff.mp h).1
theorem fQ {D:am} {j:Nat} {o:az} (h:D[j]? =some o):j < D.length:=(List.getElem?_eq_some_iff.mp h).1
theorem eL (D:am) (o:az):(D++[o])[D.length]? =some o:=by simp
theorem j1 (D:am) (o x:az):(D++[o]).set D.length x=D++[x]:=by simp
theorem jq {D:am} {j:Nat} {o:az} (g:am) (h:D[j]? =some o):(D++g)[j]? =some o:=by rw [List.getElem?_append_left (fQ h)];exact h
noncomputable def ez (v:V):Bool:=!v.isUnset
noncomputable def iV (D:am) (v:V):Option (V×am):=if v.isUnset then none else some (v,D)
theorem ff (k:Nat) (ag:List V) (D:am):G k ag D=(ag[k]?).bind (iV D):=rfl
theorem cG {D:am} {v:V} (h:ez v=true):iV D v=some (v,D):=by
 unfold iV ez at *
 cases aI:v.isUnset with
 | true=>rw [aI] at h;cases h
 | false=>rfl
theorem x' (D:am):iV D .none=some (.none,D):=rfl
theorem xZ (D:am) (b):iV D (.bool b)=some (.bool b,D):=rfl
theorem s7 (D:am) (b):iV D (.int b)=some (.int b,D):=rfl
theorem qX (D:am) (b):iV D (.str b)=some (.str b,D):=rfl
theorem yb (D:am) (b):iV D (.tup b)=some (.tup b,D):=rfl
theorem n5 (D:am) (b):iV D (.ap b)=some (.ap b,D):=rfl
theorem ir (D:am) (b):iV D (.ref b)=some (.ref b,D):=rfl
theorem x6 (D:am):iV D .hole=some (.hole,D):=rfl
theorem x2 (D:am) (b):iV D (.con b)=some (.con b,D):=rfl
theorem ya (D:am) (a b c):iV D (.de a b c)=some (.de a b c,D):=rfl
theorem xW {a0:Type} {f:Nat->Nat->List V->Option a0} {D:am} {i C:Nat} {fs:List V} (h:D[i]? =some (.inst C fs)):sY f D (.ref i)=f i C fs:=by show (D[i]?).bind _=_;rw [h];rfl
theorem sZ {a0:Type} {f:Nat->List V->Option a0} {D:am} {i:Nat} {l:List V} (h:D[i]? =some (.list l)):kN f D (.ref i)=f i l:=by show (D[i]?).bind _=_;rw [h];rfl
theorem Jo {a0:Type} {f:Nat->List (V×V)->Option a0} {D:am} {i:Nat} {l:List (V×V)} (h:D[i]? =some (.dict l)):lA f D (.ref i)=f i l:=by show (D[i]?).bind _=_;rw [h];rfl
theorem BO {D:am} {i C:Nat} {fs:List V} (h:D[i]? =some (.inst C fs)):mG D (.ref i)=some (C,fs):=xW h
theorem xL {D:am} {i C:Nat} {fs:List V} (h:D[i]? =some (.inst C fs)):eT C D (.ref i)=true:=by
 unfold eT;rw [BO h];exact beq_self_eq_true C
theorem gq {D:am} {i C k:Nat} {fs:List V} {w:V} (h:D[i]? =some (.inst C fs)) (hk:fs[k]? =some w) (hw:uz w=true):fld C k D (.ref i)=some w:=by
 unfold fld;rw [BO h];exact (if_pos (beq_self_eq_true C)).trans (by rw [hk];exact if_pos hw)
theorem jp {D:am} {i C k:Nat} {fs:List V} (w:V) (h:D[i]? =some (.inst C fs)) (hk:k < fs.length):g0 C k D (.ref i) w=some (D.set i (.inst C (fs.set k w))):=
 (xW h).trans ((if_pos (beq_self_eq_true C)).trans ((if_pos (Nat.le_of_lt hk)).trans (by rw [if_pos hk])))
theorem Gq {D:am} {i C k:Nat} {fs:List V} (w:V) (h:D[i]? =some (.inst C fs)) (hk:k=fs.length):g0 C k D (.ref i) w=some (D.set i (.inst C (fs++[w]))):=
 (xW h).trans ((if_pos (beq_self_eq_true C)).trans ((if_pos (Nat.le_of_eq hk)).trans (by rw [if_neg (Nat.not_lt.mpr (Nat.le_of_eq hk.symm))])))
theorem my {D:am} {i:Nat} {l:List V} (h:D[i]? =some (.list l)):fx D (.ref i)=some l:=by show kN (λ_=>some) D (.ref i)=_;exact sZ h
theorem si {D:am} {i:Nat} {l:List V} (h:D[i]? =some (.list l)):listAt D (.ref i)=some (i,l):=sZ h
theorem ip {D:am} {i:Nat} {l:List V} (h:D[i]? =some (.list l)):c2 D (.ref i)=true:=by unfold c2;rw [si h];rfl
theorem rO {D:am} {i:Nat} {l:List (V×V)} (h:D[i]? =some (.dict l)):nr D (.ref i)=some (i,l):=Jo h
theorem Dl {k n:Nat} (h:k < n):seqIndex? (k:Int) n=some k:=by
 unfold seqIndex?;have h0:¬((k:Int) < 0):=by lia
 simp only [h0,if_false];rw [if_pos (by simp;lia)];simp
theorem item_list {D:am} {i k:Nat} {l:List V} {x:V} (h:D[i]? =some (.list l)) (hk:l[k]? =some x):item D (.ref i) (.int (k:Int))=some x:=by
 show (fx D (.ref i)).bind _=_;rw [my h];show (seqIndex? (k:Int) l.length).bind _=_;rw [Dl (H0 hk)];exact hk
theorem iN {D:am} {k:Nat} {l:List V} {x:V} (hk:l[k]? =some x):item D (.ap l) (.int (k:Int))=some x:=by
 show (seqIndex? (k:Int) l.length).bind _=_;rw [Dl (H0 hk)];exact hk
theorem mJ {D:am} {k:Nat} {l:List V} {x:V} (hk:l[k]? =some x):item D (.tup l) (.int (k:Int))=some x:=iN (D:=D) hk
theorem ht {D:am} {i:Nat} {l:List V} (x:V) (h:D[i]? =some (.list l)) (aA:l.length < big):c0 [.ref i,x] D=some (.none,D.set i (.list (l++[x]))):=by
 show (listAt D (.ref i)).bind _=_;rw [si h];exact if_pos aA
theorem Dn {D:am} {i k:Nat} {l:List V} (x:V) (h:D[i]? =some (.list l)) (hk:k < l.length):pq D (.ref i) (.int (k:Int)) x=some (D.set i (.list (l.set k x))):=by
 show (listAt D (.ref i)).bind _=_;rw [si h];show (seqIndex? (k:Int) l.length).map _=_;rw [Dl hk];rfl
theorem len_list {D:am} {i:Nat} {l:List V} (h:D[i]? =some (.list l)):bG [.ref i] D=some (.int l.length,D):=by
 show (fx D (.ref i)).map _=_;rw [my h];rfl
theorem JD (v:V) (g:f5) (f:aU) (n k:Nat) (ag:List V) (D:am):m0 v g f (n+1) k ag D=(g3 D v k).bind λr=>match r with
  | none=>some (.nx,ag,D)
  | some x=>(g ag x).bind λcc=>(f cc D).bind λq=>match q.1 with
   | .nx=>m0 v g f n (k+1) q.2.1 q.2.2
   | .gX=>some (.nx,q.2.1,q.2.2)
   | .ret w=>some (.ret w,q.2.1,q.2.2):=rfl
theorem yf (t:dp) (f:aU) (n:Nat) (ag:List V) (D:am):g4 t f (n+1) ag D=(t ag D).bind λp=>if p.1 then (f ag p.2).bind λr=>match r.1 with
   | .nx=>g4 t f n r.2.1 r.2.2
   | .gX=>some (.nx,r.2.1,r.2.2)
   | .ret v=>some (.ret v,r.2.1,r.2.2)
  else some (.nx,ag,p.2):=rfl
theorem FD (v:V) (g:f5) (t:dp) (f:bK) (j n k:Nat) (ag:List V) (D:am):iE v g t f j (n+1) k ag D=(g3 D v k).bind λr=>match r with
  | none=>some D
  | some x=>(g ag x).bind λcc=>(t cc D).bind λq=>if q.1 then (f cc q.2).bind λp=>(c0 [.ref j,p.1] p.2).bind λa=>iE v g t f j n (k+1) cc a.2
   else iE v g t f j n (k+1) cc q.2:=rfl
theorem kr {v:V} {l:List V} {g:f5} {f:aU} (P:Nat->List V->am->Prop) (h0:∀k ag D,P k ag D->g3 D v k=some l[k]?)
  (aj:∀k x ag D,P k ag D->l[k]? =some x->∃cc bX al,g ag x=some cc/\f cc D=some (.nx,bX,al)/\P (k+1) bX al):
  ∀(N k:Nat),l.length - k < N->k<=l.length->∀ag D,P k ag D->∃bX al,m0 v g f N k ag D=some (.nx,bX,al)/\P l.length bX al:=by
 intro N
 induction N with
 | zero=>intro k h;lia
 | succ N bJ=>
  intro k d3 hk ag D h;simp only [JD,h0 k ag D h,Option.bind_some]
  cases ax:l[k]? with
  | none=>
   rw [List.getElem?_eq_none_iff] at ax;have:k=l.length:=by lia
   subst this;exact ⟨ag,D,rfl,h⟩
  | some x=>
   refine oe (aj k x ag D h ax) λcc bX al av aC h'=>?_;have cY:=(List.getElem?_eq_some_iff.mp ax).1;simp only [av,aC,Option.bind_some];exact bJ (k+1) (by lia) (by lia) _ _ h'
theorem vw {t:dp} {f:aU} (P:Nat->List V->am->Prop) (Q:List V->am->Prop)
  (h:∀n ag D,P n ag D->(∃al,t ag D=some (false,al)/\Q ag al)\/(∃ai bX al,t ag D=some (true,ai)/\f ag ai=some (.gX,bX,al)/\Q bX al)\/(∃ai bX al m,t ag D=some (true,ai)/\f ag ai=some (.nx,bX,al)/\m < n/\P m bX al)):
  ∀N n,n < N->∀ag D,P n ag D->∃bX al,g4 t f N ag D=some (.nx,bX,al)/\Q bX al:=by
 intro N
 induction N with
 | zero=>intro n a3;lia
 | succ N bJ=>
  intro n a3 ag D aw;rcases h n ag D aw with ⟨al,e,q⟩ | ⟨ai,bX,al,av,aC,q⟩ | ⟨ai,bX,al,m,av,aC,aP,hW⟩
  .refine ⟨ag,al,?_,q⟩;simp only [yf,e,Option.bind_some];rfl
  .refine ⟨bX,al,?_,q⟩;simp only [yf,av,aC,Option.bind_some];rfl
  .refine hn (bJ m (by lia) bX al hW) λhL aY e q=>?_;refine ⟨hL,aY,?_,q⟩;simp only [yf,av,aC,Option.bind_some];exact e
theorem mz {v:V} {l:List V} {g:f5} {t:dp} {f:bK} {D:am} {ρb:List V} (E:V->List V) (b:V->Bool) (y:V->V) (h0:∀D k,g3 D v k=some l[k]?)
  (Ba:∀x∈l,g ρb x=some (E x)) (wI:∀x∈l,∀lC∈l,g (E lC) x=some (E x))
  (cd:∀x∈l,∀bi,t (E x) (D++[.list bi])=some (b x,D++[.list bi])) (hf:∀x∈l,b x=true->∀bi,f (E x) (D++[.list bi])=some (y x,D++[.list bi])) (aA:l.length < big) (N:Nat) (d3:l.length < N):
  iE v g t f D.length N 0 ρb (D++[.list []])=some (D++[.list ((l.filter b).map y)]):=by
 have key:∀N k ag bi,l.length - k < N->k<=l.length->bi.length<=k->(∀x∈l,g ag x=some (E x))->iE v g t f D.length N k ag (D++[.list bi])=some (D++[.list (bi++((l.drop k).filter b).map y)]):=by
  intro N
  induction N with
  | zero=>intro k ag bi h;lia
  | succ N bJ=>
   intro k ag bi d3 hk bw cr;simp only [FD,h0,Option.bind_some]
   cases ax:l[k]? with
   | none=>
    rw [List.getElem?_eq_none_iff] at ax;rw [List.drop_of_length_le ax];simp
   | some x=>
    have cY:=(List.getElem?_eq_some_iff.mp ax).1;have aP:=List.mem_of_getElem? ax;have bn:l.drop k=x::l.drop (k+1):=by
     rw [List.drop_eq_getElem_cons cY];congr 1;have:=List.getElem?_eq_getElem cY;rw [ax] at this;revert this;refine s1 λbd=>?_;subst bd;rfl
    simp only [cr x aP,cd x aP,Option.bind_some];rw [bn,List.filter_cons]
    cases Q9:b x with
    | false=>
     simp only [Bool.false_eq_true,if_false];exact bJ (k+1) _ bi (by lia) (by lia) (by lia) λlC ql=>wI lC ql x aP
    | true=>
     simp only [if_true,hf x aP Q9,Option.bind_some,ht (D:=D++[.list bi]) (y x) (eL D _) (by lia),j1];rw [bJ (k+1) _ (bi++[y x]) (by lia) (by lia) (by simp;lia) λlC ql=>wI lC ql x aP];simp
 have:=key N 0 ρb [] (by lia) (by lia) (by simp) Ba;simpa using this
theorem l2 (l:List V):∀(D:am) k,g3 D (.ap l) k=some l[k]? :=λD k=>rfl
noncomputable def gO (n:Nat):List V:=(List.range n).map λ(k:Nat)=>V.int (k:Int)
theorem qO (n:Nat):∀(D:am) k,g3 D (.de 0 (n:Int) 1) k=some (gO n)[k]? :=λD k=>by
 have hs:Builtin.Range.rangeSize 0 (n:Int) 1=n:=by
  unfold Builtin.Range.rangeSize;split
  .lia
  .split <;> lia
 show some (if (k:Int) < Builtin.Range.rangeSize 0 (n:Int) 1 then _ else _)=_;simp only [hs,gO,List.getElem?_map]
 by_cases hk:k < n
 .rw [if_pos (by lia),List.getElem?_range hk];simp
 .rw [if_neg (by lia),List.getElem?_eq_none (by simp;lia)];rfl
theorem aaf {t:dp} {f:aU} {n:Nat} {ag:List V} {D ai:am} (h:t ag D=some (false,ai)):g4 t f (n+1) ag D=some (.nx,ag,ai):=by
 simp only [yf,h,Option.bind_some];rfl
theorem Gw {v:V} {g:f5} {f:aU} {n k:Nat} {ag:List V} {D:am} (h:g3 D v k=some none):m0 v g f (n+1) k ag D=some (.nx,ag,D):=by
 simp only [JD,h,Option.bind_some]
theorem Ik {D:am} {i:Nat} (h:D[i]? =some (.list [])) (k:Nat):g3 D (.ref i) k=some none:=by
 show (fx D (.ref i)).map _=_;rw [my h];exact congrArg some List.getElem?_nil
theorem aF {f g:aU} {ag cc:List V} {D ai:am} (h:f ag D=some (.nx,cc,ai)):af f g ag D=g cc ai:=by simp only [af,h,Option.bind_some]
theorem b6 {f g:aU} {ag cc:List V} {D ai:am} {v:V} (h:f ag D=some (.ret v,cc,ai)):af f g ag D=some (.ret v,cc,ai):=by simp only [af,h,Option.bind_some]
theorem JK {f g:aU} {ag cc:List V} {D ai:am} (h:f ag D=some (.gX,cc,ai)):af f g ag D=some (.gX,cc,ai):=by simp only [af,h,Option.bind_some]
theorem dw {t:dp} {f g:aU} {ag:List V} {D ai:am} (h:t ag D=some (true,ai)):a7 t f g ag D=f ag ai:=by simp only [a7,h,Option.bind_some,if_true]
theorem ch {t:dp} {f g:aU} {ag:List V} {D ai:am} (h:t ag D=some (false,ai)):a7 t f g ag D=g ag ai:=by simp only [a7,h,Option.bind_some];rfl
theorem hI {k:Nat} {f:bK} {ag:List V} {D ai:am} {v:V} (h:f ag D=some (v,ai)):a1 k f ag D=some (.nx,ag.set k v,ai):=by simp only [a1,h,Option.map_some]
theorem fP {f:bK} {ag:List V} {D ai:am} {v:V} (h:f ag D=some (v,ai)):b9 f ag D=some (.nx,ag,ai):=by simp only [b9,h,Option.map_some]
theorem c4 {f:bK} {ag:List V} {D ai:am} {v:V} (h:f ag D=some (v,ai)):aR f ag D=some (.ret v,ag,ai):=by simp only [aR,h,Option.map_some]
theorem ja {i:bK} {g:f5} {f:aU} {N:Nat} {ag:List V} {D ai:am} {v:V} {r:i3×List V×am} (aJ:i ag D=some (v,ai)) (cd:jd ai v=true) (h:m0 v g f N 0 ag ai=some r):e7 i g f N ag D=some r:=by
 simp only [e7,aJ,Option.bind_some,cd,if_true,h]
theorem eS {F:bf} {f:gS} {ag:List V} {D ai:am} {l:List V} (h:f ag D=some (l,ai)):ak F f ag D=F l ai:=by simp only [ak,h,Option.bind_some]
theorem nW {ok:am->V->Bool} {F:bf} {o:bK} {f:gS} {ag:List V} {D ai aY:am} {v:V} {l:List V} (h:o ag D=some (v,ai)) (hk:ok ai v=true) (aW:f ag ai=some (l,aY)):bS ok F o f ag D=F (v::l) aY:=by
 simp only [bS,h,Option.bind_some,hk,if_true,aW]
theorem Js {l r:bK} {ag:List V} {D:am} {x:V} {n:Nat} (aW:l ag D=some (.ref D.length,D++[.list [x]])) (aZ:r ag (D++[.list [x]])=some (.int (n:Int),D++[.list [x]])) (a3:n<=big):
  oz l r ag D=some (.ref (D.length+1),D++[.list [x]]++[.list (List.replicate n x)]):=by
 have e:Jr [x] (.int (n:Int))=some (List.replicate n x):=if_pos (by rw [decide_eq_true (Int.natCast_nonneg n),decide_eq_true (Int.ofNat_le.mpr a3)];rfl);simp only [oz,aW,aZ,Option.bind_some,si (eL D (.list [x])),e,Option.map_some,List.length_append,List.length_cons,List.length_nil]
theorem sJ {a b:Int} (D:am) (aA:0 < b):fH D (.int a) (.int b)=some (.int (a.fmod b)):=if_pos (decide_eq_true aA)
theorem CV (ag:List V) (D:am):outF (some (.nx,ag,D))=some (.none,D):=rfl
theorem ZW {k:Nat} {ag:List V} {D:am} {v:V} (h:ag[k]? =some v) (s:iV D v=some (v,D)):G k ag D=some (v,D):=by rw [ff,h];exact s
theorem Qo {C k:Nat} {f:bK} {ag:List V} {D ai:am} {a w:V} (h:f ag D=some (a,ai)) (ao:fld C k ai a=some w):aN C k f ag D=some (w,ai):=by simp only [aN,h,Option.bind_some,ao,Option.map_some]
theorem R9 {f g:bK} {ag:List V} {D ai aY:am} {a b w:V} (h:f ag D=some (a,ai)) (aj:g ag ai=some (b,aY)) (ao:item aY a b=some w):aT f g ag D=some (w,aY):=by simp only [aT,h,aj,Option.bind_some,ao,Option.map_some]
theorem Uz {op:am->V->V->Option V} {f g:bK} {ag:List V} {D ai aY:am} {a b w:V} (h:f ag D=some (a,ai)) (aj:g ag ai=some (b,aY)) (ao:op aY a b=some w):aM op f g ag D=some (w,aY):=by simp only [aM,h,aj,Option.bind_some,ao,Option.map_some]
theorem Uy {op:am->V->Option V} {f:bK} {ag:List V} {D ai:am} {a w:V} (h:f ag D=some (a,ai)) (ao:op ai a=some w):dU op f ag D=some (w,ai):=by simp only [dU,h,Option.bind_some,ao,Option.map_some]
theorem M0 {F:bf} {f:gS} {ag:List V} {D ai:am} {l:List V} {r:V×am} (h:f ag D=some (l,ai)) (k:F l ai=some r):ak F f ag D=some r:=(eS h).trans k
theorem TQ {ok:am->V->Bool} {F:bf} {o:bK} {f:gS} {ag:List V} {D ai aY:am} {v:V} {l:List V} {r:V×am} (h:o ag D=some (v,ai)) (hk:ok ai v=true) (aW:f ag ai=some (l,aY)) (k:F (v::l) aY=some r):bS ok F o f ag D=some r:=(nW h hk aW).trans k
theorem LN {f:bK} {g:gS} {ag:List V} {D ai aY:am} {v:V} {l:List V} (h:f ag D=some (v,ai)) (k:g ag ai=some (l,aY)):H f g ag D=some (v::l,aY):=by simp only [H,h,k,Option.bind_some,Option.map_some]
theorem Zf {f:gS} {ag:List V} {D ai:am} {l:List V} (h:f ag D=some (l,ai)) (b:l.length<=big):bM f ag D=some (.tup l,ai):=by simp only [bM,h,Option.bind_some,b,if_true]
theorem ci {f:gS} {ag:List V} {D ai:am} {l:List V} (h:f ag D=some (l,ai)) (b:l.length<=big):ef f ag D=some (.ap l,ai):=by simp only [ef,h,Option.bind_some,b,if_true]
theorem Tc {f:gS} {ag:List V} {D ai:am} {l:List V} (h:f ag D=some (l,ai)) (b:l.length<=big):cM f ag D=some (.ref ai.length,ai++[.list l]):=by simp only [cM,h,Option.bind_some,b,if_true]
theorem J9 {f:bK} {ag:List V} {D ai:am} {v:V} {b:Bool} (h:f ag D=some (v,ai)) (k:jG ai v=some b):a' f ag D=some (b,ai):=by simp only [a',h,Option.bind_some,k,Option.map_some]
theorem Zc {op:am->V->V->Option V} {f g:bK} {ag:List V} {D ai:am} {v:V} {b:Bool} (h:aM op f g ag D=some (v,ai)) (k:jG ai v=some b):aD op f g ag D=some (b,ai):=J9 h k
theorem Zx {t:dp} {ag:List V} {D ai:am} {b:Bool} (h:t ag D=some (b,ai)):ek t ag D=some (!b,ai):=by simp only [ek,h,Option.map_some]
theorem WQ {k:Nat} {f:bK} {ag cc:List V} {D ai:am} {v:V} (h:f ag D=some (v,ai)) (e:ag.set k v=cc):a1 k f ag D=some (.nx,cc,ai):=e▸hI h
theorem aai {f:bK} {ag:List V} {D ai:am} {v:V} (h:f ag D=some (v,ai)):b9 f ag D=some (.nx,ag,ai):=fP h
theorem YS {C k:Nat} {d' fv:bK} {ag:List V} {D ai aY a6:am} {o v:V} (h:fv ag D=some (v,ai)) (aj:d' ag ai=some (o,aY)) (ao:g0 C k aY o v=some a6):bI C k d' fv ag D=some (.nx,ag,a6):=by simp only [bI,h,aj,ao,Option.bind_some,Option.map_some]
theorem R6 {t:dp} {a b:bK} {ag:List V} {D ai:am} {r:V×am} (h:t ag D=some (true,ai)) (k:a ag ai=some r):cn t a b ag D=some r:=by simp only [cn,h,Option.bind_some,if_true,k]
theorem R5 {t:dp} {a b:bK} {ag:List V} {D ai:am} {r:V×am} (h:t ag D=some (false,ai)) (k:b ag ai=some r):cn t a b ag D=some r:=by simp only [cn,h,Option.bind_some,Bool.false_eq_true,if_false,k]
theorem Wm {t a b:dp} {ag:List V} {D ai:am} {r:Bool×am} (h:t ag D=some (true,ai)) (k:a ag ai=some r):gP t a b ag D=some r:=by simp only [gP,h,Option.bind_some,if_true,k]
theorem Wl {t a b:dp} {ag:List V} {D ai:am} {r:Bool×am} (h:t ag D=some (false,ai)) (k:b ag ai=some r):gP t a b ag D=some r:=by simp only [gP,h,Option.bind_some,Bool.false_eq_true,if_false,k]
theorem aal {t:dp} {f g:aU} {ag:List V} {D ai:am} {r:i3×List V×am} (h:t ag D=some (true,ai)) (k:f ag ai=some r):a7 t f g ag D=some r:=(dw h).trans k
theorem aak {t:dp} {f g:aU} {ag:List V} {D ai:am} {r:i3×List V×am} (h:t ag D=some (false,ai)) (k:g ag ai=some r):a7 t f g ag D=some r:=(ch h).trans k
theorem Uf {f g:aU} {ag cc:List V} {D ai:am} {r:i3×List V×am} (h:f ag D=some (.nx,cc,ai)) (k:g cc ai=some r):af f g ag D=some r:=(aF h).trans k
theorem Ug {f g:aU} {ag cc:List V} {D ai:am} {v:V} (h:f ag D=some (.ret v,cc,ai)):af f g ag D=some (.ret v,cc,ai):=b6 h
theorem Uh {f g:aU} {ag cc:List V} {D ai:am} (h:f ag D=some (.gX,cc,ai)):af f g ag D=some (.gX,cc,ai):=JK h
theorem Ui (ag:List V) (D:am):aq ag D=some (.nx,ag,D):=rfl
theorem Wp {f:bK} {ag:List V} {D ai:am} {v:V} (h:f ag D=some (v,ai)):aR f ag D=some (.ret v,ag,ai):=c4 h
theorem Vm {x:Option (i3×List V×am)} {ag:List V} {D:am} {v:V} (h:x=some (.ret v,ag,D)):outF x=some (v,D):=congrArg outF h
theorem Vl {x:Option (i3×List V×am)} {ag:List V} {D:am} (h:x=some (.nx,ag,D)):outF x=some (.none,D):=congrArg outF h
theorem LU {t bA:dp} {ag:List V} {D:am} {r:Bool×am} (h:gP t bA fD ag D=some r):bp t bA ag D=some r:=h
theorem Vc {t bA:dp} {ag:List V} {D:am} {r:Bool×am} (h:gP t bW bA ag D=some r):dI t bA ag D=some r:=h
theorem Ze (ag:List V) (D:am):bW ag D=some (true,D):=rfl
theorem Zd (ag:List V) (D:am):fD ag D=some (false,D):=rfl
theorem Io (D:am) (a b:Int):cV D (.int a) (.int b)=some (.int (a+b)):=rfl
theorem UB (D:am) (a b:Int):hG D (.int a) (.int b)=some (.int (a+b)):=rfl
theorem U3 (D:am) (a b:Int):eA D (.int a) (.int b)=some (.int (a - b)):=rfl
theorem UR (D:am) (a b:Int):oLt D (.int a) (.int b)=some (.bool (decide (a < b))):=rfl
theorem CH (D:am) (a b:Int):eZ D (.int a) (.int b)=some (.bool (decide (b < a))):=rfl
theorem UO (D:am) (a b:Int):oLe D (.int a) (.int b)=some (.bool (decide (a<=b))):=rfl
theorem UI (D:am) (a b:Int):hl D (.int a) (.int b)=some (.bool (decide (b<=a))):=rfl
theorem UX (D:am) (a:Int):ej D (.int a)=some (.int (-a)):=rfl
theorem n9 (D:am) (b:Bool):jG D (.bool b)=some b:=rfl
theorem ZC (D:am):jG D .none=some false:=rfl
theorem ZB (D:am) (i:Int):jG D (.int i)=some (i != 0):=rfl
theorem ZE (D:am) (l:List Nat):jG D (.str l)=some (l.length != 0):=rfl
theorem ZA (D:am) (l:List V):jG D (.ap l)=some (l.length != 0):=rfl
theorem ZD (D:am) (i:Nat):jG D (.ref i)=(fx D (.ref i)).map λl=>l.length != 0:=rfl
theorem jn (D:am) (l:List V):bG [.ap l] D=some (.int l.length,D):=rfl
theorem Qi (D:am) (l:List V):bG [.tup l] D=some (.int l.length,D):=rfl
theorem Gf (D:am) (l:List Nat):bG [.str l] D=some (.int l.length,D):=rfl
theorem v2 (D:am) (l:List V):fx D (.ap l)=some l:=rfl
theorem UT (D:am) (a b:List Nat):oLt D (.str a) (.str b)=some (.bool (decide (a < b))):=rfl
theorem CE (D:am) (l:List Nat) (k:Nat):g3 D (.str l) k=some ((l[k]?).map λhu=>.str [hu]):=rfl
theorem Il (D:am) (i k:Nat):g3 D (.ref i) k=(fx D (.ref i)).map λl=>l[k]? :=rfl
theorem Uv (D:am) (a b c:Int) (k:Nat):g3 D (.de a b c) k=some (if (k:Int) < Builtin.Range.rangeSize a b c then some (.int (a+c * k)) else none):=rfl
theorem BS {l:List Nat} (h:(l.all λhu=>decide (hu < 128))=true) (D:am):jd D (.str l)=true:=by
 show ((if (l.all λhu=>decide (hu < 128))=true then some () else none).or _).isSome=true;rw [if_pos h];rfl
theorem Hz {a b c:Int} (h:Builtin.Range.small a b c=true) (D:am):jd D (.de a b c)=true:=by
 show ((if Builtin.Range.small a b c=true then some () else none).or _).isSome=true;rw [if_pos h];rfl
theorem wZ {D:am} {i:Nat} {l:List V} (h:D[i]? =some (.list l)):jd D (.ref i)=true:=by
 show ((fx D (.ref i)).map _).isSome=true;rw [my h];rfl
theorem Gg {D:am} {i:Nat} (h:D[i]? =some (.dict [])):p9 [.ref i] D=some (.ref D.length,D++[.list []]):=by
 show lA (λ_ l=>fI (some (V.ref D.length,D++[az.list []])) (λ_ _=>none) l) D (.ref i)=_;rw [Jo h];rfl
theorem Qj {D:am} {i:Nat} {l:List V} (h:D[i]? =some (.list l)):lQ [.ref i] D=some (.ref D.length,D++[.list l]):=by
 show (fx D (.ref i)).map _=_;rw [my h];rfl
theorem Qh {D:am} {i:Nat} {l:List (V×V)} (h:D[i]? =some (.dict l)):t1 [.ref i] D=some (.ref D.length,D++[.dict l]):=by
 show (nr D (.ref i)).map _=_;rw [rO h];rfl
theorem sI {C:Nat} {F:bf} {args:List V} {D al:am} (h:F (.ref D.length::args) (D++[.inst C []])=some (.none,al)):dO C F args D=some (.ref D.length,al):=by unfold dO;rw [h];rfl
theorem Gi (D:am) (a b:Int):oB [.int a,.int b] D=some (.int (if b < a then b else a),D):=rfl
theorem t7 {D:am} {ag:List V} {k j:Nat} {l:List V} (h:ag[k]? =some (.ref j)) (aX:D[j]? =some (.list l)):ib (G k) ag D=some (.ap l,D.set j .bB):=by
 unfold ib;rw [ff,h];show (kN _ D (.ref j)).or _=_;rw [sZ aX];rfl
theorem QG (ks:List Nat) (ag l:List V):f9 ks ag (.tup l)=kQ ks l ag:=rfl
theorem YO (k:Nat) (ks:List Nat) (v:V) (vs ag:List V):kQ (k::ks) (v::vs) ag=kQ ks vs (ag.set k v):=rfl
theorem YQ (ag:List V):kQ [] [] ag=some ag:=rfl
theorem CJ {b:Int} (h:g5 b=true) (D:am) (a:Int):gM D (.int a) (.int b)=some (.int (a * b)):=if_pos h
theorem UF {b:Int} (h:(decide (0 < b) && g5 b)=true) (D:am) (a:Int):u2 D (.int a) (.int b)=some (.int (a.fdiv b)):=if_pos h
theorem Ip {a b:List Nat} (h:a.length+b.length<=big) (D:am):cV D (.str a) (.str b)=some (.str (a++b)):=if_pos h
theorem Gj (n:Int) (D:am):dX [.int n] D=some (.de 0 n 1,D):=rfl
theorem Qm {c:Int} (h:(decide (0 < c) && g5 c)=true) (a b:Int) (D:am):dX [.int a,.int b,.int c] D=some (.de a b c,D):=if_pos h
theorem Qk {a b c:Int} (h:(Builtin.Range.small a b c && decide (Builtin.Range.rangeSize a b c<=big) && decide (0<=Builtin.Range.rangeSize a b c))=true) (D:am):lQ [.de a b c] D=some (.ref D.length,D++[.list (n6 a b c)]):=by
 unfold lQ;show Option.or (if _ then some (V.ref D.length,D++[az.list (n6 a b c)]) else none) _=_;rw [if_pos h];rfl
theorem SG {D:am} {l:List V} {i:Int} {k:Nat} {x:V} (h:seqIndex? i l.length=some k) (hk:l[k]? =some x):item D (.ap l) (.int i)=some x:=by
 show (seqIndex? i l.length).bind _=_;rw [h];exact hk
theorem Kj {a0:Type} (f:Value->Option a0) (v:Value):tg f (.con v)=f v:=rfl
theorem ZU {a0:Type} (f:Int->Option a0) (i:Int):fV f (.int i)=f i:=rfl
theorem AN (c:Nat) (D:am):hd [.str [c]] D=some (.int (c:Int),D):=rfl
theorem BP (D:am) (l:List Nat):ik D (.str l)=true:=rfl
theorem CK (D:am) (l:List V):gw D (.ap l) (.ap [])=some (.bool (!l.isEmpty)):=rfl
theorem It {D:am} {i j:Nat} (aJ:mL D i=true) (aX:mL D j=true):pg D (.ref i) (.ref j)=some (i == j):=if_pos (by rw [aJ,aX];rfl)
theorem uv (i:Int):eX (.int i)=i:=rfl
theorem Zv (a:V) (l:List V):tk 0 (.tup (a::l))=a:=rfl
theorem Zw (a b:V) (l:List V):tk 1 (.tup (a::b::l))=b:=rfl
theorem ZV {a0:Type} (x:Option a0):mg x .none=x:=rfl
end
open Lean in
local macro_rules
 | `(tactic| simp! only [$xs,*])=>do
  let ids (s:String):List Ident:=(s.splitOn " ").map λx=>mkIdent ((x.splitOn ".").foldl (λ(n:Name) y=>.str n y) .anonymous)
  let mut fs:Array (TSyntax `Lean.Parser.Tactic.tacticSeq):=#[]
  let mut hV:=true
  let mut cs:Array (TSyntax `Lean.Parser.Tactic.tacticSeq):=#[]
  for x in xs.getElems do
   match x with
   | `(Lean.Parser.Tactic.simpLemma| $t:term)=>
    let n:=t.raw.getId.toString
    if n == "noFB" then hV:=false
    else if t.raw.isIdent && ("decide_true decide_false if_true if_false or_true true_or or_self decide_eq_true_eq beq_self_eq_true".splitOn " ").contains n then pure ()
    else if t.raw.isIdent && ("List. Option. Bool. Nat. Int.".splitOn " ").any (n.startsWith ·) then pure ()
    else
     fs:=fs.push (<- `(tacticSeq| with_reducible apply $t))
     let (s,d,f):=(mkIdent `congrArg,mkIdent `decide_eq_true,mkIdent `decide_eq_false)
     let q4:=mkIdent `some
     cs:=cs.push (<- `(tacticSeq| exact $s $q4 $t)) |>.push (<- `(tacticSeq| exact $s $q4 ($d $t))) |>.push (<- `(tacticSeq| exact $s $q4 ($f $t)))
   | _=>pure ()
  for f in ids "G ab aa iV jG List.set" do fs:=fs.push (<- `(tacticSeq| exact (rfl:$f:ident .. =_)))
  fs:=fs.push (<- `(tacticSeq| exact (rfl:(_:List V)[_]? =_)))
  fs:=fs.push (<- `(tacticSeq| exact (Nat.le_of_ble_eq_true rfl:List.length _<=big)))
  for f in ids "M0 LN ZW Qo R9 Uz Uy TQ Zf ci Tc Zc J9 Zx WQ aai YS Wp Ui Ze Zd LU Vc" do fs:=fs.push (<- `(tacticSeq| with_reducible apply $f:ident))
  for f in ids "cV hG eA oLt eZ oLe hl ej dX bG" do fs:=fs.push (<- `(tacticSeq| exact (rfl:$f:ident .. =_)))
  fs:=fs++cs
  let Uo:=mkIdent `noFB
  let Us <- `(Lean.Parser.Tactic.simpLemma| $Uo:ident)
  let cL:=xs.push ⟨Us⟩
  for f in ids "Wm Wl R6 R5 aal aak Uf Ug Uh Vm Vl" do fs:=fs.push (<- `(tacticSeq| (with_reducible apply $f:ident);focus simp! only [$cL,*]))
  if hV then
   let ev:=(ids "bC outF aq af a7 aR b9 a1 pn bI l9 jC jj eB ab ff dU aM cn nt p6 p5 iI a' aD ek gP bp dI bW fD ak bS aN aT bM ef cM hc la aa H lw ed cx QG YO YQ dO uv Zv Zw ZV Kj ZU Gj BP n9 ZC ZB ZE ZA ZD Io UB U3 UR UT CH UO UI UX jn Qi Gf v2 iU pg mT x' xZ s7 qX yb n5 ir x6 x2 ya Option.bind_some Option.map_some List.getElem?_cons_zero List.getElem?_cons_succ List.set_cons_zero List.set_cons_succ if_true if_false reduceIte Bool.false_eq_true Bool.not_true Bool.not_false").toArray
   `(tactic| first | ((repeat' (first $[| $fs]*));done) | (simp only [$[$ev:ident],*,$xs,*]))
  else `(tactic| ((repeat' (first $[| $fs]*));done))
section
open PySem
theorem xO (a b:Int) (D:am):gd [.int a,.int b] D=some (.int (if a < b then -1 else if b < a then 1 else 0),D):=by
 rw [PS];unfold z7
 by_cases h:a < b
 .simp! only [h,decide_true]
 .by_cases ao:b < a
  .simp! only [h,ao,decide_true,decide_false]
  .simp! only [h,ao,decide_true,decide_false]
noncomputable def ck:V->Bool | .none=>true | .bool _=>true | .int _=>true | .str _=>true | _=>false
theorem iu {v:V} (h:ck v=true):ez v=true:=by cases v <;> first | rfl | (cases h;done)
theorem YC {v:V} (h:ck v=true):uz v=true:=by cases v <;> first | rfl | (cases h;done)
noncomputable def kindOf:V->List Nat
 | .none=>[110,117,108,108]
 | .bool _=>[98,111,111,108]
 | .int _=>[105,110,116]
 | _=>[115,116,114,105,110,103]
theorem sQ (v:V) (h:ck v=true) (D:am):gc [v] D=some (.str (kindOf v),D):=by
 cases v <;> first | (cases h;done) | rfl
theorem VT (v:V) (h:ck v=true) (D:am):o6 [v] D=some (v,D):=by
 cases v <;> first | (cases h;done) | rfl
theorem VJ (v:V) (h:ck v=true) (D:am):xp [v] D=some (v,D):=by
 cases v <;> first | (cases h;done) | rfl
theorem wY {v:V} (h:ck v=true) (D:am) (C:Nat):qt D C v=some false:=by
 cases v <;> first | (cases h;done) | rfl
theorem uB {D:am} {r:Nat} {fs:List V} (h:D[r]? =some (.inst 181 fs)) (C:Nat):qt D C (.ref r)=some (181 == C):=by
 have e:=BO h;unfold qt CO;rw [e];refine (if_pos (by simp)).trans ?_;show (mG D (.ref r)).map _=_;rw [e];rfl
theorem Sx (D:am):qt D 203 .hole=some true:=rfl
theorem ny (v:V) (C:Nat) (dC:pY.contains C=true) (D:am):ey [v,.con (.ref C)] D=(qt D C v).map λb=>(.bool b,D):=by
 exact if_pos dC
theorem IG (v:V) (h:ck v=true) (D:am):hj [v] D=some (v,D):=by
 cases v <;> first | (cases h;done) | rfl
theorem Vz {D:am} {r:Nat} {v:V} {fs:List V} (h:D[r]? =some (.inst 181 (v::fs))) (aI:ck v=true):hj [.ref r] D=some (v,D):=by
 rw [Pu];unfold zR
 simp! only [ny _ 181 rfl,uB h,gq (k:=0) h rfl (YC aI),ny _ 203 rfl,wY aI,cG (iu aI),beq_self_eq_true]
noncomputable def Slot (D:am) (v:V):Prop:=ck v=true\/v=.hole\/∃r fs,v=.ref r/\D[r]? =some (.inst 181 fs)
noncomputable def uA:V->Bool | .hole=>true | _=>false
theorem Slot.mI {D:am} {v:V} (h:Slot D v):qt D 203 v=some (uA v):=by
 rcases h with h | h | ⟨r,fs,h,e⟩
 .rw [wY h];cases v <;> first | (cases h;done) | rfl
 .subst h;rfl
 .subst h;rw [uB e];rfl
theorem Slot.set {D:am} {v:V} (h:Slot D v):ez v=true:=by
 rcases h with h | h | ⟨r,fs,h,e⟩
 .exact iu h
 .subst h;rfl
 .subst h;rfl
structure d6 where
 pk:Bool
 ks:List V
 vs:List V
 hs:List V
 nx:List V
 size:Int
 count:Int
 next:Int
 at_:Int
 sh:Bool
structure ee where
 a:Nat
 k:Nat
 v:Nat
 h:Nat
 n:Nat
 w:Nat
noncomputable def cR (o:ee) (j:Nat):Prop:=j=o.a\/j=o.k\/j=o.v\/j=o.h\/j=o.n\/j=o.w
noncomputable def cf (o:ee) (R:d6):az:=.inst 316 [.bool R.pk,.ref o.k,.ref o.v,.ref o.h,.ref o.n,.int R.size,.int R.count,.int R.next,.int R.at_,.bool R.sh,.ref o.w]
structure a8 (D:am) (o:ee) (R:d6):Prop where
 a:D[o.a]? =some (cf o R)
 k:D[o.k]? =some (.list R.ks)
 v:D[o.v]? =some (.list R.vs)
 h:D[o.h]? =some (.list R.hs)
 n:D[o.n]? =some (.list R.nx)
 w:D[o.w]? =some (.dict [])
 dA:o.k≠o.v
 kC:o.k≠o.h
 fC:o.k≠o.n
 kR:o.v≠o.h
 kS:o.v≠o.n
 a3:o.h≠o.n
end
section
open PySem
variable {D al:am} {o:ee} {R:d6}
theorem a8.rC (A:a8 D o R):o.a≠o.k:=λq=>by have:=A.a;rw [q,A.k] at this;cases this
theorem a8.rD (A:a8 D o R):o.a≠o.v:=λq=>by have:=A.a;rw [q,A.v] at this;cases this
theorem a8.i9 (A:a8 D o R):o.a≠o.h:=λq=>by have:=A.a;rw [q,A.h] at this;cases this
theorem a8.an (A:a8 D o R):o.a≠o.n:=λq=>by have:=A.a;rw [q,A.n] at this;cases this
theorem a8.tQ (A:a8 D o R):o.a≠o.w:=λq=>by have:=A.a;rw [q,A.w] at this;cases this
theorem a8.kw (A:a8 D o R):o.k≠o.w:=λq=>by have:=A.k;rw [q,A.w] at this;cases this
theorem a8.pB (A:a8 D o R):o.v≠o.w:=λq=>by have:=A.v;rw [q,A.w] at this;cases this
theorem a8.hw (A:a8 D o R):o.h≠o.w:=λq=>by have:=A.h;rw [q,A.w] at this;cases this
theorem a8.nw (A:a8 D o R):o.n≠o.w:=λq=>by have:=A.n;rw [q,A.w] at this;cases this
theorem a8.fr {W:Nat->Prop} (A:a8 D o R) (F:Fr W D al) (h:∀j,cR o j->¬W j):a8 al o R:=
 ⟨F.at A.a (h _ (.inl rfl)),F.at A.k (h _ (.inr (.inl rfl))),F.at A.v (h _ (.inr (.inr (.inl rfl)))),F.at A.h (h _ (.inr (.inr (.inr (.inl rfl))))),F.at A.n (h _ (.inr (.inr (.inr (.inr (.inl rfl)))))),F.at A.w (h _ (.inr (.inr (.inr (.inr (.inr rfl)))))),A.dA,A.kC,A.fC,A.kR,A.kS,A.a3⟩
theorem a8.app (A:a8 D o R) (g:am):a8 (D++g) o R:=A.fr (Fr.app (W:=dx) D g) λ_ _ h=>h
theorem a8.lt (A:a8 D o R) {j:Nat} (h:cR o j):j < D.length:=by
 rcases h with rfl | rfl | rfl | rfl | rfl | rfl
 .exact fQ A.a
 .exact fQ A.k
 .exact fQ A.v
 .exact fQ A.h
 .exact fQ A.n
 .exact fQ A.w
theorem cK {D:am} {i j:Nat} {x:az} (h:i≠j):(D.set i x)[j]? =D[j]? :=List.getElem?_set_ne h
theorem gh {D:am} {i:Nat} {x o:az} (h:D[i]? =some o):(D.set i x)[i]? =some x:=List.getElem?_set_self (fQ h)
theorem a8.YJ (A:a8 D o R) (l:List V):a8 (D.set o.k (.list l)) o {R with ks:=l}:=
 ⟨(cK A.rC.symm).trans A.a,gh A.k,(cK A.dA).trans A.v,(cK A.kC).trans A.h,(cK A.fC).trans A.n,(cK A.kw).trans A.w,A.dA,A.kC,A.fC,A.kR,A.kS,A.a3⟩
theorem a8.Do (A:a8 D o R) (l:List V):a8 (D.set o.v (.list l)) o {R with vs:=l}:=
 ⟨(cK A.rD.symm).trans A.a,(cK A.dA.symm).trans A.k,gh A.v,(cK A.kR).trans A.h,(cK A.kS).trans A.n,(cK A.pB).trans A.w,A.dA,A.kC,A.fC,A.kR,A.kS,A.a3⟩
theorem a8.JL (A:a8 D o R) (l:List V):a8 (D.set o.h (.list l)) o {R with hs:=l}:=
 ⟨(cK A.i9.symm).trans A.a,(cK A.kC.symm).trans A.k,(cK A.kR.symm).trans A.v,gh A.h,(cK A.a3).trans A.n,(cK A.hw).trans A.w,A.dA,A.kC,A.fC,A.kR,A.kS,A.a3⟩
theorem a8.yl (A:a8 D o R) (l:List V):a8 (D.set o.n (.list l)) o {R with nx:=l}:=
 ⟨(cK A.an.symm).trans A.a,(cK A.fC.symm).trans A.k,(cK A.kS.symm).trans A.v,(cK A.a3.symm).trans A.h,gh A.n,(cK A.nw).trans A.w,A.dA,A.kC,A.fC,A.kR,A.kS,A.a3⟩
theorem a8.mb (A:a8 D o R) (pk:Bool) (size count next at_:Int) (sh:Bool):a8 (D.set o.a (cf o {R with pk:=pk,size:=size,count:=count,next:=next,at_:=at_,sh:=sh})) o {R with pk:=pk,size:=size,count:=count,next:=next,at_:=at_,sh:=sh}:=
 ⟨gh A.a,(cK A.rC).trans A.k,(cK A.rD).trans A.v,(cK A.i9).trans A.h,(cK A.an).trans A.n,(cK A.tQ).trans A.w,A.dA,A.kC,A.fC,A.kR,A.kS,A.a3⟩
theorem a8.Dg (A:a8 D o R) {j:Nat} {l:List V} (aX:D[j]? =some (.list l)) (aj:j≠o.v) (ao:j≠o.h) (aL:j≠o.n):a8 (D.set o.a (cf {o with k:=j} R)) {o with k:=j} {R with ks:=l}:=
 have nJ:o.a≠j:=λq=>by have:=A.a;rw [q,aX] at this;cases this
 ⟨gh A.a,(cK nJ).trans aX,(cK A.rD).trans A.v,(cK A.i9).trans A.h,(cK A.an).trans A.n,(cK A.tQ).trans A.w,aj,ao,aL,A.kR,A.kS,A.a3⟩
theorem a8.Jq (A:a8 D o R) {j:Nat} {l:List V} (aX:D[j]? =some (.list l)) (aj:j≠o.k) (ao:j≠o.h) (aL:j≠o.n):a8 (D.set o.a (cf {o with v:=j} R)) {o with v:=j} {R with vs:=l}:=
 have nJ:o.a≠j:=λq=>by have:=A.a;rw [q,aX] at this;cases this
 ⟨gh A.a,(cK A.rC).trans A.k,(cK nJ).trans aX,(cK A.i9).trans A.h,(cK A.an).trans A.n,(cK A.tQ).trans A.w,aj.symm,A.kC,A.fC,ao,aL,A.a3⟩
theorem a8.Wq (A:a8 D o R) {j:Nat} {l:List V} (aX:D[j]? =some (.list l)) (aj:j≠o.k) (ao:j≠o.v) (aL:j≠o.n):a8 (D.set o.a (cf {o with h:=j} R)) {o with h:=j} {R with hs:=l}:=
 have nJ:o.a≠j:=λq=>by have:=A.a;rw [q,aX] at this;cases this
 ⟨gh A.a,(cK A.rC).trans A.k,(cK A.rD).trans A.v,(cK nJ).trans aX,(cK A.an).trans A.n,(cK A.tQ).trans A.w,A.dA,aj.symm,A.fC,ao.symm,A.kS,aL⟩
theorem a8.Wr (A:a8 D o R) {j:Nat} {l:List V} (aX:D[j]? =some (.list l)) (aj:j≠o.k) (ao:j≠o.v) (aL:j≠o.h):a8 (D.set o.a (cf {o with n:=j} R)) {o with n:=j} {R with nx:=l}:=
 have nJ:o.a≠j:=λq=>by have:=A.a;rw [q,aX] at this;cases this
 ⟨gh A.a,(cK A.rC).trans A.k,(cK A.rD).trans A.v,(cK A.i9).trans A.h,(cK nJ).trans aX,(cK A.tQ).trans A.w,A.dA,A.kC,aj.symm,A.kR,ao.symm,aL.symm⟩
theorem a8.f0 (A:a8 D o R):fld 316 0 D (.ref o.a)=some (.bool R.pk):=gq A.a rfl rfl
theorem a8.f1 (A:a8 D o R):fld 316 1 D (.ref o.a)=some (.ref o.k):=gq A.a rfl rfl
theorem a8.f2 (A:a8 D o R):fld 316 2 D (.ref o.a)=some (.ref o.v):=gq A.a rfl rfl
theorem a8.wy (A:a8 D o R):fld 316 3 D (.ref o.a)=some (.ref o.h):=gq A.a rfl rfl
theorem a8.f4 (A:a8 D o R):fld 316 4 D (.ref o.a)=some (.ref o.n):=gq A.a rfl rfl
theorem a8.gH (A:a8 D o R):fld 316 5 D (.ref o.a)=some (.int R.size):=gq A.a rfl rfl
theorem a8.gZ (A:a8 D o R):fld 316 6 D (.ref o.a)=some (.int R.count):=gq A.a rfl rfl
theorem a8.mB (A:a8 D o R):fld 316 7 D (.ref o.a)=some (.int R.next):=gq A.a rfl rfl
theorem a8.f8 (A:a8 D o R):fld 316 8 D (.ref o.a)=some (.int R.at_):=gq A.a rfl rfl
theorem a8.Qg (A:a8 D o R):fld 316 9 D (.ref o.a)=some (.bool R.sh):=gq A.a rfl rfl
theorem a8.AJ (A:a8 D o R):fld 316 10 D (.ref o.a)=some (.ref o.w):=gq A.a rfl rfl
theorem a8.ok (A:a8 D o R):eT 316 D (.ref o.a)=true:=xL A.a
theorem a8.s0 (A:a8 D o R) (b:Bool):g0 316 0 D (.ref o.a) (.bool b)=some (D.set o.a (cf o {R with pk:=b})):=jp _ A.a (by simp)
theorem a8.s1 (A:a8 D o R) (j:Nat):g0 316 1 D (.ref o.a) (.ref j)=some (D.set o.a (cf {o with k:=j} R)):=jp _ A.a (by simp)
theorem a8.s2 (A:a8 D o R) (j:Nat):g0 316 2 D (.ref o.a) (.ref j)=some (D.set o.a (cf {o with v:=j} R)):=jp _ A.a (by simp)
theorem a8.s3 (A:a8 D o R) (j:Nat):g0 316 3 D (.ref o.a) (.ref j)=some (D.set o.a (cf {o with h:=j} R)):=jp _ A.a (by simp)
theorem a8.s4 (A:a8 D o R) (j:Nat):g0 316 4 D (.ref o.a) (.ref j)=some (D.set o.a (cf {o with n:=j} R)):=jp _ A.a (by simp)
theorem a8.s5 (A:a8 D o R) (x:Int):g0 316 5 D (.ref o.a) (.int x)=some (D.set o.a (cf o {R with size:=x})):=jp _ A.a (by simp)
theorem a8.j0 (A:a8 D o R) (x:Int):g0 316 6 D (.ref o.a) (.int x)=some (D.set o.a (cf o {R with count:=x})):=jp _ A.a (by simp)
theorem a8.kO (A:a8 D o R) (x:Int):g0 316 7 D (.ref o.a) (.int x)=some (D.set o.a (cf o {R with next:=x})):=jp _ A.a (by simp)
theorem a8.iX (A:a8 D o R) (x:Int):g0 316 8 D (.ref o.a) (.int x)=some (D.set o.a (cf o {R with at_:=x})):=jp _ A.a (by simp)
theorem a8.JB (A:a8 D o R) (b:Bool):g0 316 9 D (.ref o.a) (.bool b)=some (D.set o.a (cf o {R with sh:=b})):=jp _ A.a (by simp)
theorem IM (A:a8 D o R) {k:Nat} {v:V} (aI:R.vs[k]? =some v) (hs:Slot D v):hE [.ref o.a,.int (k:Int)] D=some (.bool (!uA v),D):=by
 have cY:=(List.getElem?_eq_some_iff.mp aI).1;rw [F5];unfold v7;have h0:(0:Int)<=(k:Int):=by lia
 have aj:(k:Int) < (R.vs.length:Int):=by lia
 simp! only [A.f2,len_list A.v,h0,aj,decide_true,item_list A.v aI,ny _ 203 rfl,hs.mI]
theorem VG (A:a8 D o R) {k:Int} (hk:k < 0\/(R.vs.length:Int)<=k):hE [.ref o.a,.int k] D=some (.bool false,D):=by
 rw [F5];unfold v7
 by_cases h0:(0:Int)<=k
 .have aj:¬k < (R.vs.length:Int):=by lia
  simp! only [A.f2,len_list A.v,h0,aj,decide_true,decide_false]
 .simp! only [A.f2,len_list A.v,h0,decide_false]
theorem Gc (a b:Int) (D:am):kJ D (.int a) (.int b)=some (decide (a=b)):=by
 show some (a == b)=_
 by_cases h:a=b
 .subst h;simp
 .simp [h]
noncomputable def asc (l:List Nat):Bool:=l.all λc=>decide (c < 128)
theorem tP {l:List Nat} (h:asc l=true) (D:am):ox D (.str l)=some (.str ⟨l.toArray⟩):=by
 have:l.all (λn=>decide (n < 0x110000))=true:=by
  unfold asc at h;rw [List.all_eq_true] at h ⊢;intro x ax;have:=h x ax;simp only [decide_eq_true_eq] at this ⊢;lia
 show hT D (.str l)=_;exact if_pos this
theorem T4 {l m:List Nat}:(({cps:=l.toArray}:Str) == {cps:=m.toArray})=decide (l=m):=by
 by_cases h:l=m
 .subst h;simp
 .rw [decide_eq_false h,beq_eq_false_iff_ne];intro q;injection q with q;exact h (by simpa using congrArg Array.toList q)
theorem Gd {l m:List Nat} (aW:asc l=true) (aP:asc m=true) (D:am):kJ D (.str l) (.str m)=some (decide (l=m)):=by
 unfold kJ;rw [tP aW,tP aP];show some (({cps:=l.toArray}:Str) == {cps:=m.toArray})=_;rw [T4]
theorem Qa {l:List Nat} (aW:asc l=true) (i:Int) (D:am):kJ D (.str l) (.int i)=some false:=by
 unfold kJ;rw [tP aW];rfl
theorem Qb {l:List Nat} (aW:asc l=true) (i:Int) (D:am):kJ D (.int i) (.str l)=some false:=by
 unfold kJ;rw [tP aW];rfl
theorem h2 (a b:Int) (D:am):oEq D (.int a) (.int b)=some (.bool (decide (a=b))):=by simp only [oEq,Gc,Option.map_some]
theorem CL (a b:Int) (D:am):ec D (.int a) (.int b)=some (.bool (!decide (a=b))):=by simp only [ec,Gc,Option.map_some]
theorem xJ {l m:List Nat} (aW:asc l=true) (aP:asc m=true) (D:am):oEq D (.str l) (.str m)=some (.bool (decide (l=m))):=by simp only [oEq,Gd aW aP,Option.map_some]
noncomputable def ho (k:V):Prop:=(∃i,k=.int i)\/∃l,k=.str l/\asc l=true/\l.length<=20
theorem ho.set {k:V} (h:ho k):ez k=true:=by rcases h with ⟨i,rfl⟩ | ⟨l,rfl,_⟩ <;> rfl
theorem ho.sc {k:V} (h:ho k):ck k=true:=by rcases h with ⟨i,rfl⟩ | ⟨l,rfl,_⟩ <;> rfl
theorem ho.ne {k w0:V} (h:ho k) (h':ho w0) (a3:k≠w0) (D:am):ec D k w0=some (.bool true):=by
 rcases h with ⟨i,rfl⟩ | ⟨l,rfl,O,_⟩ <;> obtain ⟨j,rfl⟩ | ⟨m,rfl,ah,_⟩:=h'
 .rw [CL,decide_eq_false λq=>a3 (by rw [q])];rfl
 .simp only [ec,Qb ah,Option.map_some];rfl
 .simp only [ec,Qa O,Option.map_some];rfl
 .simp only [ec,Gd O ah,Option.map_some];rw [decide_eq_false λq=>a3 (by rw [q])];rfl
theorem IK {k:V} (h:ho k) (D:am):∃z,qG [k] D=some (.int z,D):=by
 obtain ⟨i,rfl⟩ | ⟨l,rfl,O,ah⟩:=h
 .exact ⟨_,rfl⟩
 .rw [Px];unfold zT;refine fZ (kr (v:=.str l) (l:=l.map λc=>.str [c]) (g:=cx 2) (f:=(af (a1 1 (aM fH (aM cV (aM gM (G 1) (ab (.int 33))) (ak hd (H (G 2) aa))) (aM kL (ab (.int 2)) (ab (.int 64))))) aq))
   (λk ag ai=>(∃z s,ag=[.str l,.int z,s,.u,.u,.u])/\ai=D) (λk ag ai _=>by rw [CE,List.getElem?_map]) (λk x ag ai aw ax=>by
    revert aw;refine gT λbd bl=>?_;revert bd;refine mo λz s aV=>?_;subst aV;subst bl;rw [List.getElem?_map] at ax;refine a2 (Option.map_eq_some_iff.mp ax) λc bj aV=>?_;subst aV;refine ⟨_,_,_,rfl,rfl,⟨_,_,rfl⟩,rfl⟩) 100 0 (by simp;lia) (by simp) [.str l,.int 5381,.u,.u,.u,.u] D ⟨⟨_,_,rfl⟩,rfl⟩) λbX al e dh fK=>?_;revert dh;refine mo λz s aV=>?_;subst aV;subst fK
  have ih:jd al (.str l)=true:=BS O _;rw [aF (cc:=[.str l,.u,.u,.u,.u,.u]) (ai:=al) rfl,aF (cc:=[.str l,.int 5381,.u,.u,.u,.u]) (ai:=al) rfl,aF (ja (v:=.str l) (ai:=al) rfl ih e)];exact ⟨_,rfl⟩
structure ka (n:Nat) (hs nx:List V):Prop where
 h:∀(c:Nat) (x:V),hs[c]? =some x->∃z:Int,x=.int z/\ -1<=z/\z < n
 n:∀(j:Nat) (x:V),nx[j]? =some x->∃z:Int,x=.int z/\ -1<=z/\z < j
theorem wz (a:Int) {b:Int} (h:0 < b):0<=a.fmod b/\a.fmod b < b:=by
 rw [Int.fmod_eq_emod_of_nonneg _ (by lia)];exact ⟨Int.emod_nonneg _ (by lia),Int.emod_lt_of_pos _ h⟩
theorem IL (A:a8 D o R) {p:Nat} {key:V} (hk:R.ks[p]? =some key) (K:ho key) (aw:p < R.nx.length) (hsz:0 < R.size) (fa:(R.hs.length:Int)=R.size) (a3:ka p R.hs R.nx):
  ∃iL l3,o3 [.ref o.a,.int (p:Int)] D=some (.none,(D.set o.n (.list l3)).set o.h (.list iL))/\ka (p+1) iL l3/\iL.length=R.hs.length/\l3.length=R.nx.length:=by
 refine cH (IK K D) λz hz=>?_;refine cH (Int.eq_ofNat_of_zero_le (wz z hsz).1) λc bj=>?_;have jU:c < R.hs.length:=by have:=(wz z hsz).2;lia
 have hh:R.hs[c]? =some R.hs[c]:=List.getElem?_eq_getElem jU;refine gk (a3.h c _ hh) λy dr vx yE=>?_;rw [dr] at hh;refine ⟨R.hs.set c (.int (p:Int)),R.nx.set p (.int y),?_,⟨λfN x e=>?_,λj x e=>?_⟩,by simp,by simp⟩
 .rw [PC];unfold zW;have cu:=A.yl (R.nx.set p (.int y));rw [aF (cc:=[.ref o.a,.int (p:Int),.int (c:Int),.u]) (ai:=D) (by simp! only [A.f1,item_list A.k hk,hz,A.gH,sJ D hsz,bj])];rw [aF (cc:=[.ref o.a,.int (p:Int),.int (c:Int),.u]) (ai:=D.set o.n (.list (R.nx.set p (.int y)))) (by simp! only [A.wy,item_list A.h hh,A.f4,Dn _ A.n aw])];rw [aF (cc:=[.ref o.a,.int (p:Int),.int (c:Int),.u]) (ai:=(D.set o.n (.list (R.nx.set p (.int y)))).set o.h (.list (R.hs.set c (.int (p:Int))))) (by simp! only [cu.wy,Dn _ cu.h jU])]
  rfl
 .rw [List.getElem?_set] at e;split at e
  .revert e;refine s1 λbd=>?_;subst bd;exact ⟨_,rfl,by lia,by lia⟩
  .refine gk (a3.h fN x e) λaam c6 dt hH=>?_;exact ⟨aam,c6,dt,by lia⟩
 .rw [List.getElem?_set] at e;split at e
  .revert e;refine s1 λbd=>?_;subst bd;exact ⟨_,rfl,vx,by lia⟩
  .exact a3.n j x e
theorem iZ {W:Nat->Prop} {v:V} (h:Slot D v) (F:Fr W D al) (hw:∀j fs,D[j]? =some (.inst 181 fs)->¬W j):Slot al v:=by
 rcases h with h | h | ⟨r,fs,h,e⟩
 .exact .inl h
 .exact .inr (.inl h)
 .exact .inr (.inr ⟨r,fs,h,F.at e (hw r fs e)⟩)
theorem a8.iS (A:a8 D o R):∀j fs,D[j]? =some (.inst 181 fs)->¬cR o j:=by
 intro j fs e w;rcases w with rfl | rfl | rfl | rfl | rfl | rfl
 .rw [A.a] at e;cases e
 .rw [A.k] at e;cases e
 .rw [A.v] at e;cases e
 .rw [A.h] at e;cases e
 .rw [A.n] at e;cases e
 .rw [A.w] at e;cases e
theorem qu {D:am} {n:Nat} (h:n<=1000):jd D (.de 0 (n:Int) 1)=true:=Hz (small_one (by decide) (by decide) (by lia) (by lia)) D
theorem Vw (A:a8 D o R) (hk:R.ks.length=R.vs.length) (e4:∀k∈R.ks,ho k) (aI:∀v∈R.vs,Slot D v/\v≠.hole) {z:Nat} (hz:R.size=(z:Int)) (tm:0 < z) (hK:z<=64) (aW:R.vs.length<=64):
  ∃al h n hs nx,sv [.ref o.a] D=some (.none,al)/\a8 al {o with h:=h,n:=n} {R with hs:=hs,nx:=nx}/\ka R.vs.length hs nx/\hs.length=z/\nx.length=R.vs.length/\Fr (cR o) D al/\D.length<=h/\D.length<=n:=by
 have Ky:z<=big:=by unfold big;lia
 have DK:=A.app [az.list [V.int (-1)]];have DL:=DK.app [az.list (List.replicate z (V.int (-1)))];have r1:=Js (l:=cM (H (dU ej (ab (.int 1))) aa)) (r:=aN 316 5 (G 0)) (ag:=[.ref o.a,.u,.u,.u,.u,.u]) (D:=D) (x:=.int (-1)) (n:=z) rfl
  (by simp! only [DK.gH,hz]) Ky
 have iO:(D++[az.list [V.int (-1)]]).length=D.length+1:=by simp
 have ic:(D++[az.list [V.int (-1)]]++[az.list (List.replicate z (V.int (-1)))])[D.length+1]? =some (az.list (List.replicate z (V.int (-1)))):=by rw [<- iO];exact eL _ _
 have bk:=A.lt (.inr (.inl rfl));have E8:=A.lt (.inr (.inr (.inl rfl)));have E6:=A.lt (.inr (.inr (.inr (.inr (.inl rfl)))));have cu:=DL.Wq ic (by lia) (by lia) (by lia);generalize BB:((D++[az.list [V.int (-1)]]++[az.list (List.replicate z (V.int (-1)))]):am).set o.a (cf {o with h:=D.length+1} R)=ai at cu;have e1:Fr (cR o) D ai:=by
  rw [<- BB];exact ((Fr.app _ _).t (Fr.app _ _)).t (Fr.set _ _ _ (.inl rfl))
 have hQ:ai.length=D.length+2:=by rw [<- BB];simp
 have cP:bI 316 3 (G 0) (oz (cM (H (dU ej (ab (.int 1))) aa)) (aN 316 5 (G 0))) [.ref o.a,.u,.u,.u,.u,.u] D=some (.nx,[.ref o.a,.u,.u,.u,.u,.u],ai):=by
  simp! only [r1,DL.s3,<- BB]
 have yI:=cu.app [az.list [V.int (-1)]];have DO:=yI.app [az.list (List.replicate R.vs.length (V.int (-1)))];have cp:=Js (l:=cM (H (dU ej (ab (.int 1))) aa)) (r:=ak bG (H (aN 316 2 (G 0)) aa)) (ag:=[.ref o.a,.u,.u,.u,.u,.u]) (D:=ai) (x:=.int (-1)) (n:=R.vs.length) rfl
  (by simp! only [yI.f2,len_list yI.v]) (by unfold big;lia)
 have eb:(ai++[az.list [V.int (-1)]]).length=ai.length+1:=by simp
 have gr:(ai++[az.list [V.int (-1)]]++[az.list (List.replicate R.vs.length (V.int (-1)))])[ai.length+1]? =some (az.list (List.replicate R.vs.length (V.int (-1)))):=by rw [<- eb];exact eL _ _
 have dK:=DO.Wr gr (by dsimp only;lia) (by dsimp only;lia) (by dsimp only;lia);generalize mF:((ai++[az.list [V.int (-1)]]++[az.list (List.replicate R.vs.length (V.int (-1)))]):am).set o.a (cf {o with h:=D.length+1,n:=ai.length+1} {R with hs:=List.replicate z (V.int (-1))})=aY at dK;have dF:bI 316 4 (G 0) (oz (cM (H (dU ej (ab (.int 1))) aa)) (ak bG (H (aN 316 2 (G 0)) aa))) [.ref o.a,.u,.u,.u,.u,.u] ai=some (.nx,[.ref o.a,.u,.u,.u,.u,.u],aY):=by
  simp! only [cp,DO.s4,<- mF]
 have eR:Fr (cR o) D aY:=by
  rw [<- mF];exact e1.t (((Fr.app _ _).t (Fr.app _ _)).t (Fr.set _ _ _ (.inl rfl)))
 have y7:aY.length=ai.length+2:=by rw [<- mF];simp
 have h0:ka 0 (List.replicate z (V.int (-1))) (List.replicate R.vs.length (V.int (-1))):=
  ⟨λc x e=>by rw [List.getElem?_replicate] at e;split at e <;> cases e;exact ⟨_,rfl,by lia,by lia⟩,λc x e=>by rw [List.getElem?_replicate] at e;split at e <;> cases e;exact ⟨_,rfl,by lia,by lia⟩⟩
 refine fZ (kr (v:=.de 0 (R.vs.length:Int) 1) (l:=gO R.vs.length) (g:=cx 1)
  (f:=(af (a7 (a' (ak hE (H (G 0) (H (G 1) aa)))) (af (b9 (ak o3 (H (G 0) (H (G 1) aa)))) aq) aq) aq))
  (λk ag a6=>(∃b,ag=[.ref o.a,b,.u,.u,.u,.u])/\∃hs nx,a8 a6 {o with h:=D.length+1,n:=ai.length+1} {R with hs:=hs,nx:=nx}/\Fr (cR {o with h:=D.length+1,n:=ai.length+1}) aY a6/\ka k hs nx/\hs.length=z/\nx.length=R.vs.length/\Fr (cR o) D a6)
  (λk ag a6 _=>qO _ _ _) (λk x ag a6 aw ax=>by
   revert aw;refine gT λbd ci=>?_;revert bd;refine d7 λb bl=>?_;subst bl;revert ci;refine vH λhs nx eP gm Bo cz dB i2=>?_;unfold gO at ax;rw [List.getElem?_map] at ax;refine a2 (Option.map_eq_some_iff.mp ax) λc bj aV=>?_;subst aV;have kv:=(List.getElem?_eq_some_iff.mp bj).1;simp only [List.length_range] at kv;rw [List.getElem?_range kv] at bj;revert bj;refine s1 λbd=>?_;subst bd;have RW:R.vs[k]? =some R.vs[k]:=List.getElem?_eq_getElem kv;have lU:R.ks[k]? =some R.ks[k]:=List.getElem?_eq_getElem (by lia);refine cq (aI _ (List.getElem_mem kv)) λs1 s2=>?_;have s3:Slot a6 R.vs[k]:=iZ s1 i2 A.iS;have pl:=IM eP RW s3;have hh:uA R.vs[k]=false:=by revert s2;cases R.vs[k] <;> intro s2 <;> first | rfl | exact absurd rfl s2
   refine fj (IL eP lU (e4 _ (List.getElem_mem _)) (by simp only [dB];exact kv) (by simp only [hz];lia) (by simp only [cz,hz]) Bo) λiL l3 av uq nI il=>?_;have m7:=(eP.yl l3).JL iL;have Ef:Fr (cR {o with h:=D.length+1,n:=ai.length+1}) a6 ((a6.set (ai.length+1) (.list l3)).set (D.length+1) (.list iL)):=
    (Fr.set _ _ _ (.inr (.inr (.inr (.inr (.inl rfl)))))).t (Fr.set _ _ _ (.inr (.inr (.inr (.inl rfl)))))
   refine ⟨_,[.ref o.a,.int (k:Int),.u,.u,.u,.u],_,rfl,?_,⟨_,rfl⟩,iL,l3,m7,gm.t Ef,uq,by rw [nI];exact cz,by rw [il];exact dB,i2.trans Ef (λ_ h=>h) λj aX w=>?_⟩
   .have t0:a' (ak hE (H (G 0) (H (G 1) aa))) [.ref o.a,.int (k:Int),.u,.u,.u,.u] a6=some (true,a6):=by simp! only [pl,hh]
    have wx:b9 (ak o3 (H (G 0) (H (G 1) aa))) [.ref o.a,.int (k:Int),.u,.u,.u,.u] a6=some (.nx,[.ref o.a,.int (k:Int),.u,.u,.u,.u],(a6.set (ai.length+1) (.list l3)).set (D.length+1) (.list iL)):=by simp! only [av]
    exact aF ((dw t0).trans (aF wx))
   .rcases w with w | w | w | w | w | w
    .exact .inl w
    .exact .inr (.inl w)
    .exact .inr (.inr (.inl w))
    .dsimp only at w;lia
    .dsimp only at w;lia
    .exact .inr (.inr (.inr (.inr (.inr w))))) 100 0 (by simp [gO];lia) (Nat.zero_le _) [.ref o.a,.u,.u,.u,.u,.u] aY ⟨⟨_,rfl⟩,_,_,dK,Fr.refl _,h0,by simp,by simp,eR⟩) λbX al e dh ci=>?_;revert dh;refine d7 λb bl=>?_;subst bl;revert ci;refine vH λhs nx pG aau uq cz dB gm=>?_
 refine ⟨al,D.length+1,ai.length+1,hs,nx,?_,pG,by simpa [gO] using uq,cz,dB,gm,by lia,by lia⟩;rw [Pr];unfold zO;rw [aF cP,aF dF,aF (ja (v:=.de 0 (R.vs.length:Int) 1) (ai:=aY) (by simp! only [dK.f2,len_list dK.v,dX]) (qu (by lia)) e)]
 rfl
theorem pZ {i:bK} {pl:List (Option Nat)} {g:f5} {t:dp} {f:bK} {N:Nat} {ag:List V} {v:V} {out:List V} (aJ:i ag D=some (v,D)) (cd:jd D v=true)
  (h:iE v g t f D.length N 0 (gR pl ag) (D++[.list []])=some (D++[.list out])):e' true i pl g t f N ag D=some (.ap out,D++[.bB]):=by
 simp only [e',aJ,Option.bind_some,cd,if_true,h,fin,sZ (eL _ _),j1]
theorem FF {i:bK} {pl:List (Option Nat)} {g:f5} {t:dp} {f:bK} {N:Nat} {ag:List V} {v:V} {out:List V} (aJ:i ag D=some (v,D)) (cd:jd D v=true)
  (h:iE v g t f D.length N 0 (gR pl ag) (D++[.list []])=some (D++[.list out])):e' false i pl g t f N ag D=some (.ref D.length,D++[.list out]):=by
 simp only [e',aJ,Option.bind_some,cd,if_true,h,fin]
theorem Qs {aS:Type} (l:List aS):l.filter (λ_=>false)=[]:=by simp
theorem t5 {aS:Type} (l:List aS):l.filter (λ_=>true)=l:=by simp
noncomputable def h1 (vs:List V) (k:Nat):Bool:=!uA (vs[k]?.getD .hole)
noncomputable def sj (vs:List V):V->Bool | .int k=>h1 vs k.toNat | _=>false
noncomputable def cN (vs:List V):List Nat:=(List.range vs.length).filter (h1 vs)
noncomputable def bu (k:Nat):V:=.int (k:Int)
theorem Jv (vs:List V) (n:Nat):(gO n).filter (sj vs)=((List.range n).filter (h1 vs)).map bu:=by
 unfold gO bu;rw [List.filter_map]
 rfl
theorem sH {n:Nat} {x:V} (h:x∈gO n):∃k,k < n/\x=bu k:=by
 unfold gO at h;refine a2 (List.mem_map.mp h) λk hk aV=>?_;subst aV;exact ⟨k,List.mem_range.mp hk,rfl⟩
theorem jA (n:Nat):(gO n).length=n:=by simp [gO]
noncomputable def SL (D:am) (vs:List V):Prop:=∀v∈vs,Slot D v
theorem SL.fr {W:Nat->Prop} {vs:List V} (h:SL D vs) (F:Fr W D al) (hw:∀j fs,D[j]? =some (.inst 181 fs)->¬W j):SL al vs:=λv aI=>iZ (h v aI) F hw
theorem SL.app {vs:List V} (h:SL D vs) (g:am):SL (D++g) vs:=h.fr (Fr.app (W:=dx) D g) λ_ _ _ q=>q
theorem C1 (A:a8 D o R) (hs:SL D R.vs) {k:Nat} (hk:k < R.vs.length):hE [.ref o.a,.int (k:Int)] D=some (.bool (h1 R.vs k),D):=by
 have aI:R.vs[k]? =some R.vs[k]:=List.getElem?_eq_getElem hk;rw [IM A aI (hs _ (List.getElem_mem hk))];unfold h1;rw [aI];rfl
theorem B6 (A:a8 D o R) (hs:SL D R.vs) (aW:R.vs.length<=64) {i:bK} {pl:List (Option Nat)} {ag:List V} (aJ:i ag D=some (.de 0 (R.vs.length:Int) 1,D)) (aw:gR pl ag=[.u,.u,.u,.ref o.a]):
  e' true i pl (cx 1) (a' (ak hE (H (G 3) (H (G 1) aa)))) (G 1) 100 ag D=some (.ap ((cN R.vs).map bu),D++[.bB]):=by
 refine pZ aJ (qu (by lia)) ?_;rw [aw];have:=mz (v:=.de 0 (R.vs.length:Int) 1) (l:=gO R.vs.length) (g:=cx 1) (t:=a' (ak hE (H (G 3) (H (G 1) aa)))) (f:=G 1) (D:=D) (ρb:=[.u,.u,.u,.ref o.a])
  (λx=>[.u,x,.u,.ref o.a]) (sj R.vs) id (qO _) (λ_ _=>rfl) (λ_ _ _ _=>rfl) (λx ax bi=>by
   refine a2 (sH ax) λk hk aV=>?_;subst aV;have av:=C1 (A.app [az.list bi]) (hs.app _) hk
   simp! only [bu,av,sj,Int.toNat_natCast]) (λx ax _ bi=>by
   refine a2 (sH ax) λk hk aV=>?_;subst aV
   rfl) (by rw [jA];unfold big;lia) 100 (by rw [jA];lia)
 rw [this,Jv,List.map_id];rfl
theorem VI (l:List Nat) (aW:l.length<=64):mP [.ap (l.map bu),.int 0] D=some (.int 0,D++[.bB]):=by
 rw [PF];unfold zZ;have:=mz (v:=.ap (l.map bu)) (l:=l.map bu) (g:=cx 1) (t:=aD oLt (G 1) (G 2)) (f:=G 1) (D:=D) (ρb:=[.u,.u,.int 0])
  (λx=>[.u,x,.int 0]) (λ_=>false) id (l2 _) (λ_ _=>rfl) (λ_ _ _ _=>rfl) (λx ax bi=>by
   refine a2 (List.mem_map.mp ax) λk hk aV=>?_;subst aV;have:¬((k:Int) < 0):=by lia
   simp! only [bu,this,decide_false]) (λx ax h bi=>by cases h) (by simp;unfold big;lia) 100 (by simp;lia)
 have c:=pZ (i:=G 0) (pl:=[none,none,some 1]) (ag:=[.ap (l.map bu),.int 0,.u]) rfl (by rfl) this;simp only [Qs,List.map_nil] at c;rw [b6 (c4 (v:=.int 0) (ai:=D++[.bB]) (by rw [eS (l:=[.ap []]) (ai:=D++[.bB]) (by simp only [H,aa,c,Option.bind_some,Option.map_some])];rfl))]
 rfl
theorem Wy (A:a8 D o R) {l:List Nat} (aW:l.length<=64) (hk:∀k∈l,k < R.ks.length) {ag:List V} (aw:gR [none,none,some 0] ag=[.u,.u,.ref o.a]) (aj:ag[1]? =some (.ap (l.map bu))):
  e' false (G 1) [none,none,some 0] (cx 1) bW (aT (aN 316 1 (G 2)) (G 1)) 100 ag D=some (.ref D.length,D++[.list (l.map λk=>R.ks[k]?.getD .none)]):=by
 refine FF (v:=.ap (l.map bu)) (by simp only [ff,aj,Option.bind_some,n5]) (by rfl) ?_;rw [aw];have:=mz (v:=.ap (l.map bu)) (l:=l.map bu) (g:=cx 1) (t:=bW) (f:=aT (aN 316 1 (G 2)) (G 1)) (D:=D) (ρb:=[.u,.u,.ref o.a])
  (λx=>[.u,x,.ref o.a]) (λ_=>true) (λx=>R.ks[(eX x).toNat]?.getD .none) (l2 _) (λ_ _=>rfl) (λ_ _ _ _=>rfl) (λx ax bi=>rfl) (λx ax h bi=>by
   refine a2 (List.mem_map.mp ax) λk ii aV=>?_;subst aV;have lU:=hk k ii;have aI:R.ks[k]? =some R.ks[k]:=List.getElem?_eq_getElem lU;have cu:=A.app [az.list bi]
   simp! only [bu,cu.f1,item_list cu.k aI,Int.toNat_natCast,aI,Option.getD_some]) (by simp;unfold big;lia) 100 (by simp;lia)
 rw [this,t5,List.map_map];rfl
theorem Wz (A:a8 D o R) {l:List Nat} (aW:l.length<=64) (hk:∀k∈l,k < R.vs.length) {ag:List V} (aw:gR [none,none,some 0] ag=[.u,.u,.ref o.a]) (aj:ag[1]? =some (.ap (l.map bu))):
  e' false (G 1) [none,none,some 0] (cx 1) bW (aT (aN 316 2 (G 2)) (G 1)) 100 ag D=some (.ref D.length,D++[.list (l.map λk=>R.vs[k]?.getD .none)]):=by
 refine FF (v:=.ap (l.map bu)) (by simp only [ff,aj,Option.bind_some,n5]) (by rfl) ?_;rw [aw];have:=mz (v:=.ap (l.map bu)) (l:=l.map bu) (g:=cx 1) (t:=bW) (f:=aT (aN 316 2 (G 2)) (G 1)) (D:=D) (ρb:=[.u,.u,.ref o.a])
  (λx=>[.u,x,.ref o.a]) (λ_=>true) (λx=>R.vs[(eX x).toNat]?.getD .none) (l2 _) (λ_ _=>rfl) (λ_ _ _ _=>rfl) (λx ax bi=>rfl) (λx ax h bi=>by
   refine a2 (List.mem_map.mp ax) λk ii aV=>?_;subst aV;have lU:=hk k ii;have aI:R.vs[k]? =some R.vs[k]:=List.getElem?_eq_getElem lU;have cu:=A.app [az.list bi]
   simp! only [bu,cu.f2,item_list cu.v aI,Int.toNat_natCast,aI,Option.getD_some]) (by simp;unfold big;lia) 100 (by simp;lia)
 rw [this,t5,List.map_map];rfl
theorem IV (A:a8 D o R) (hs:SL D R.vs) (hk:R.ks.length=R.vs.length) (e4:∀k∈R.ks,ho k) (qi:R.at_=0) {z:Nat} (hz:R.size=(z:Int)) (tm:0 < z) (hK:z<=64) (aW:R.vs.length<=64):
  ∃al k v h n hs nx,o5 [.ref o.a] D=some (.none,al)/\
   a8 al {o with k:=k,v:=v,h:=h,n:=n} {R with ks:=(cN R.vs).map λk=>R.ks[k]?.getD .none,vs:=(cN R.vs).map λk=>R.vs[k]?.getD .none,hs:=hs,nx:=nx}/\
   ka (cN R.vs).length hs nx/\hs.length=z/\nx.length=(cN R.vs).length/\Fr (cR o) D al/\D.length<=k/\D.length<=v/\D.length<=h/\D.length<=n:=by
 have pl:(cN R.vs).length<=R.vs.length:=by
  unfold cN;exact Nat.le_trans (List.length_filter_le _ _) (by simp)
 have c3:∀k∈cN R.vs,k < R.vs.length/\h1 R.vs k=true:=λk hk=>by
  unfold cN at hk;rw [List.mem_filter] at hk;exact ⟨List.mem_range.mp hk.1,hk.2⟩
 have bk:=A.lt (.inr (.inl rfl));have E8:=A.lt (.inr (.inr (.inl rfl)));have MF:=A.lt (.inr (.inr (.inr (.inl rfl))));have E6:=A.lt (.inr (.inr (.inr (.inr (.inl rfl)))));have cP:=B6 (i:=ak dX (H (ak bG (H (aN 316 2 (G 0)) aa)) aa)) (pl:=[none,none,none,some 0]) (ag:=[.ref o.a,.u,.u,.u,.u,.u,.u,.u]) A hs aW (by simp! only [A.f2,len_list A.v,dX]) rfl;have cu:=A.app [az.bB];have dF:=VI (D:=D++[az.bB]) (cN R.vs) (by lia);have dK:=cu.app [az.bB];have tq:=dK.mb R.pk R.size R.count R.next 0 R.sh;have js:({R with pk:=R.pk,size:=R.size,count:=R.count,next:=R.next,at_:=0,sh:=R.sh}:d6)=R:=by cases R;cases qi;rfl
 rw [js] at tq;generalize qq:((D++[az.bB]++[az.bB]):am).set o.a (cf o R)=a6 at tq;have gm:Fr (cR o) D a6:=by rw [<- qq];exact ((Fr.app _ _).t (Fr.app _ _)).t (Fr.set _ _ _ (.inl rfl))
 have kY:a6.length=D.length+2:=by rw [<- qq];simp
 have c8:bI 316 8 (G 0) (ak mP (H (G 1) (H (aN 316 8 (G 0)) aa))) [.ref o.a,.ap ((cN R.vs).map bu),.u,.u,.u,.u,.u,.u] (D++[az.bB])=some (.nx,[.ref o.a,.ap ((cN R.vs).map bu),.u,.u,.u,.u,.u,.u],a6):=by
  simp! only [cu.f8,qi,dF,dK.iX,<- qq]
  rw [show ({R with at_:=0}:d6)=R from by cases R;cases qi;rfl]
 have c9:e7 (ak p9 (H (aN 316 10 (G 0)) aa)) (cx 2) (af (kP (aN 316 10 (G 0)) (G 2) (ak mP (H (G 1) (H (nu (aN 316 10 (G 0)) (G 2)) aa)))) aq) 100 [.ref o.a,.ap ((cN R.vs).map bu),.u,.u,.u,.u,.u,.u] a6=some (.nx,[.ref o.a,.ap ((cN R.vs).map bu),.u,.u,.u,.u,.u,.u],a6++[.list []]):=by
  refine ja (v:=.ref a6.length) (ai:=a6++[.list []]) (by simp! only [tq.AJ,Gg tq.w]) (wZ (eL a6 (.list []))) ?_;exact Gw (n:=99) (Ik (eL _ _) 0)
 have eP:=tq.app [az.list []];have vS:(a6++[az.list []]).length=D.length+3:=by simp [kY]
 have jK:=Wy (l:=cN R.vs) (ag:=[.ref o.a,.ap ((cN R.vs).map bu),.u,.u,.u,.u,.u,.u]) eP (by lia) (λk h=>by rw [hk];exact (c3 k h).1) rfl rfl;have m7:=eP.app [az.list ((cN R.vs).map λk=>R.ks[k]?.getD .none)];have tr:=m7.Dg (eL _ _) (by lia) (by lia) (by lia);generalize BC:((a6++[az.list []]++[az.list ((cN R.vs).map λk=>R.ks[k]?.getD .none)]):am).set o.a (cf {o with k:=(a6++[az.list []]).length} R)=dZ at tr;have gD:bI 316 1 (G 0) (e' false (G 1) [none,none,some 0] (cx 1) bW (aT (aN 316 1 (G 2)) (G 1)) 100) [.ref o.a,.ap ((cN R.vs).map bu),.u,.u,.u,.u,.u,.u] (a6++[az.list []])=some (.nx,[.ref o.a,.ap ((cN R.vs).map bu),.u,.u,.u,.u,.u,.u],dZ):=by
  simp only [bI,jK,Option.bind_some,ff,List.getElem?_cons_zero,ir,m7.s1,Option.map_some,<- BC]
 have mq:Fr (cR o) D dZ:=by rw [<- BC];exact gm.t (((Fr.app _ _).t (Fr.app _ _)).t (Fr.set _ _ _ (.inl rfl)))
 have kZ:dZ.length=D.length+4:=by rw [<- BC];simp [kY]
 have m8:=Wz (l:=cN R.vs) (ag:=[.ref o.a,.ap ((cN R.vs).map bu),.u,.u,.u,.u,.u,.u]) tr (by lia) (λk h=>(c3 k h).1) rfl rfl;have iy:=tr.app [az.list ((cN R.vs).map λk=>R.vs[k]?.getD .none)];have mn:=iy.Jq (eL _ _) (by dsimp only;lia) (by dsimp only;lia) (by dsimp only;lia);generalize BD:((dZ++[az.list ((cN R.vs).map λk=>R.vs[k]?.getD .none)]):am).set o.a (cf {o with k:=(a6++[az.list []]).length,v:=dZ.length} {R with ks:=(cN R.vs).map λk=>R.ks[k]?.getD .none})=e8 at mn;have k2:bI 316 2 (G 0) (e' false (G 1) [none,none,some 0] (cx 1) bW (aT (aN 316 2 (G 2)) (G 1)) 100) [.ref o.a,.ap ((cN R.vs).map bu),.u,.u,.u,.u,.u,.u] dZ=some (.nx,[.ref o.a,.ap ((cN R.vs).map bu),.u,.u,.u,.u,.u,.u],e8):=by
  simp only [bI,m8,Option.bind_some,ff,List.getElem?_cons_zero,ir,iy.s2,Option.map_some,<- BD]
 have rp:Fr (cR o) D e8:=by rw [<- BD];exact mq.t ((Fr.app _ _).t (Fr.set _ _ _ (.inl rfl)))
 have aax:e8.length=D.length+5:=by rw [<- BD];simp [kZ]
 have QK:∀k∈cN R.vs,∃v,R.vs[k]? =some v/\v∈R.vs/\v≠.hole:=λk h=>by
  refine cq (c3 k h) λaj ao=>?_;refine ⟨R.vs[k],List.getElem?_eq_getElem aj,List.getElem_mem aj,λq=>?_⟩;unfold h1 at ao;rw [List.getElem?_eq_getElem aj,Option.getD_some,q] at ao
  cases ao
 refine KQ (Vw (z:=z) mn (by simp) (λx ax=>by
  refine a2 (List.mem_map.mp ax) λk ii aV=>?_;subst aV;have:=(c3 k ii).1;rw [List.getElem?_eq_getElem (by lia),Option.getD_some];exact e4 _ (List.getElem_mem _)) (λx ax=>by
  refine a2 (List.mem_map.mp ax) λk ii aV=>?_;subst aV;refine gk (QK k ii) λv av aC bN=>?_;rw [av];exact ⟨iZ (hs v aC) rp A.iS,bN⟩) hz tm hK (by simp;lia)) λal h n iL nx e pG c6 dt hH Ln k5 jP=>?_
 refine ⟨al,(a6++[az.list []]).length,dZ.length,h,n,iL,nx,?_,pG,by simpa using c6,dt,by simpa using hH,rp.trans Ln (λ_ w=>w) λj aX w=>?_,by lia,by lia,by lia,by lia⟩
 .rw [PQ];unfold z6;rw [aF (cc:=[.ref o.a,.ap ((cN R.vs).map bu),.u,.u,.u,.u,.u,.u]) (hI cP),aF c8,aF c9,aF gD,aF k2,aF (fP (v:=.none) (ai:=al) (by rw [eS (l:=[.ref o.a]) (ai:=e8) rfl];exact e))]
  rfl
 .rcases w with w | w | w | w | w | w
  .exact .inl w
  .dsimp only at w;lia
  .dsimp only at w;lia
  .exact .inr (.inr (.inr (.inl w)))
  .exact .inr (.inr (.inr (.inr (.inl w))))
  .exact .inr (.inr (.inr (.inr (.inr w))))
noncomputable def gu (vs:List V):List (V×V):=(cN vs).map λk=>(bu k,vs[k]?.getD .none)
noncomputable def g2 (n:Int):V->Int | .int k=>if n<=k then k+1 else n | _=>n
structure Good (D:am) (R:d6) (ps:List (V×V)):Prop where
 cnt:R.count=ps.length
 nj:R.at_=0
 key:∀p∈ps,ho p.1
 slot:SL D R.vs
 cS:ps.length<=7
 pack:R.pk=true->ps=gu R.vs/\((R.size=8/\R.vs.length<=7)\/(R.size=16/\R.vs.length<=10))
 hash:R.pk=false->(R.size=8\/R.size=16)/\R.ks=ps.map (·.1)/\R.vs=ps.map (·.2)/\(∀v∈R.vs,v≠.hole)/\ka R.vs.length R.hs R.nx/\(R.hs.length:Int)=R.size/\R.nx.length=R.vs.length
theorem B5 {vs:List V} {k:Nat} {v:V} (h:vs[k]? =some v) (a3:v≠.hole):h1 vs k=true:=by
 unfold h1;rw [h,Option.getD_some]
 cases v <;> first | rfl | exact absurd rfl a3
theorem Jc {vs:List V} (h:∀v∈vs,v≠.hole):cN vs=List.range vs.length:=by
 unfold cN;rw [List.filter_eq_self];intro k hk;have hk:=List.mem_range.mp hk;exact B5 (List.getElem?_eq_getElem hk) (h _ (List.getElem_mem hk))
theorem Df {aS:Type} (l:List aS) (d:aS):(List.range l.length).map (λk=>l[k]?.getD d)=l:=by
 refine List.ext_getElem (by simp) λi aj ao=>?_;simp [ao]
theorem HS {vs:List V} {k:Nat} (v:V) (hk:k < vs.length):h1 (vs++[v]) k=h1 vs k:=by
 unfold h1;rw [List.getElem?_append_left hk]
theorem Wd (vs:List V) (v:V) (a3:v≠.hole):cN (vs++[v])=cN vs++[vs.length]:=by
 unfold cN;rw [List.length_append,List.length_singleton,List.range_succ,List.filter_append];congr 1
 .refine List.filter_congr λk hk=>?_;exact HS v (List.mem_range.mp hk)
 .rw [List.filter_cons,if_pos (B5 (v:=v) (by simp) a3)];rfl
theorem Wb (vs:List V):cN (vs++[.hole])=cN vs:=by
 unfold cN;rw [List.length_append,List.length_singleton,List.range_succ,List.filter_append];have:List.filter (h1 (vs++[.hole])) [vs.length]=[]:=by
  rw [List.filter_cons];have:h1 (vs++[.hole]) vs.length=false:=by unfold h1;simp [uA]
  rw [this];rfl
 rw [this,List.append_nil];exact List.filter_congr λk hk=>HS _ (List.mem_range.mp hk)
theorem sT {vs:List V} {k:Nat} (h:k∈cN vs):k < vs.length:=by
 unfold cN at h;rw [List.mem_filter] at h;exact List.mem_range.mp h.1
theorem Tu (vs:List V) (v:V) (a3:v≠.hole):gu (vs++[v])=gu vs++[(bu vs.length,v)]:=by
 unfold gu;rw [Wd vs v a3,List.map_append];congr 1
 .refine List.map_congr_left λk hk=>?_;rw [List.getElem?_append_left (sT hk)]
 .simp
theorem Tt (vs:List V):gu (vs++[.hole])=gu vs:=by
 unfold gu;rw [Wb];refine List.map_congr_left λk hk=>?_;rw [List.getElem?_append_left (sT hk)]
theorem Wc (vs:List V):(cN vs).length<=vs.length:=by
 unfold cN;exact Nat.le_trans (List.length_filter_le _ _) (by simp)
theorem JQ (n:Nat):Builtin.Range.rangeSize 0 (n:Int) 1=n:=by
 unfold Builtin.Range.rangeSize;split
 .lia
 .split <;> lia
theorem WI (n:Nat):n6 0 (n:Int) 1=(List.range n).map bu:=by
 unfold n6 bu;rw [JQ,Int.toNat_natCast];refine List.map_congr_left λk _=>?_;simp
theorem Ql {n:Nat} (h:n<=1000):lQ [.de 0 (n:Int) 1] D=some (.ref D.length,D++[.list ((List.range n).map bu)]):=by
 have q3:Builtin.Range.small 0 (n:Int) 1=true:=small_one (by decide) (by decide) (by lia) (by lia);have aj:(n:Int)<=(big:Int):=by unfold big;lia
 have ao:(0:Int)<=(n:Int):=by lia
 rw [Qk (by simp only [q3,JQ,aj,ao,decide_true,Bool.and_self]),WI]
theorem S9 (A:a8 D o R) (aW:R.vs.length<=64):ak lQ (H (ak dX (H (ak bG (H (aN 316 2 (G 0)) aa)) aa)) aa) [.ref o.a,.u,.u,.u,.u] D=some (.ref D.length,D++[.list ((List.range R.vs.length).map bu)]):=by
 rw [eS (l:=[.de 0 (R.vs.length:Int) 1]) (ai:=D) (by simp! only [A.f2,len_list A.v,dX])];exact Ql (by lia)
theorem VV (A:a8 D o R) (hs:SL D R.vs) (qi:R.at_=0) {z:Nat} (hz:R.size=(z:Int)) (tm:0 < z) (hK:z<=64) (aW:R.vs.length<=64):
  ∃al k v h n hs nx,qL [.ref o.a] D=some (.none,al)/\
   a8 al {o with k:=k,v:=v,h:=h,n:=n} {R with pk:=false,ks:=(gu R.vs).map (·.1),vs:=(gu R.vs).map (·.2),hs:=hs,nx:=nx}/\
   ka (cN R.vs).length hs nx/\hs.length=z/\nx.length=(cN R.vs).length/\Fr (cR o) D al/\D.length<=k/\D.length<=v/\D.length<=h/\D.length<=n:=by
 have bk:=A.lt (.inr (.inl rfl));have E8:=A.lt (.inr (.inr (.inl rfl)));have MF:=A.lt (.inr (.inr (.inr (.inl rfl))));have E6:=A.lt (.inr (.inr (.inr (.inr (.inl rfl)))));have cP:=S9 A aW;have cu:=A.app [az.list ((List.range R.vs.length).map bu)];have dK:=cu.Dg (eL _ _) (by lia) (by lia) (by lia);have eP:=dK.mb false R.size R.count R.next R.at_ R.sh;generalize mF:((D++[az.list ((List.range R.vs.length).map bu)]):am).set o.a (cf {o with k:=D.length} R)=aY at dK eP;have eR:Fr (cR o) D aY:=by rw [<- mF];exact (Fr.app _ _).t (Fr.set _ _ _ (.inl rfl))
 have y7:aY.length=D.length+1:=by rw [<- mF];simp
 have dT:bI 316 1 (G 0) (ak lQ (H (ak dX (H (ak bG (H (aN 316 2 (G 0)) aa)) aa)) aa)) [.ref o.a,.u,.u,.u,.u] D=some (.nx,[.ref o.a,.u,.u,.u,.u],aY):=by
  simp only [bI,cP,Option.bind_some,ff,List.getElem?_cons_zero,ir,cu.s1,Option.map_some,<- mF]
 generalize qq:aY.set o.a (cf {o with k:=D.length} {R with ks:=(List.range R.vs.length).map bu,pk:=false})=a6 at eP;have c8:bI 316 0 (G 0) (ab (.bool false)) [.ref o.a,.u,.u,.u,.u] aY=some (.nx,[.ref o.a,.u,.u,.u,.u],a6):=by
  have:=dK.s0 false;dsimp only at this
  simp! only [this,<- qq]
 have gm:Fr (cR o) D a6:=by rw [<- qq];exact eR.t (Fr.set _ _ _ (.inl rfl))
 have kY:a6.length=D.length+1:=by rw [<- qq];simp [y7]
 refine yO (IV eP (hs.fr gm A.iS) (by simp) (λx ax=>by
  refine a2 (List.mem_map.mp ax) λk _ aV=>?_;subst aV;exact .inl ⟨_,rfl⟩) qi hz tm hK aW) λal k v h n iL nx e pG c6 dt hH i2 k5 jP L6 L7=>?_
 refine ⟨al,k,v,h,n,iL,nx,?_,?_,c6,dt,hH,gm.trans i2 (λ_ w=>w) λj aX w=>?_,by lia,by lia,by lia,by lia⟩
 .rw [PX];unfold z';rw [aF dT,aF c8,aF (fP (v:=.none) (ai:=al) (by rw [eS (l:=[.ref o.a]) (ai:=a6) rfl];exact e))]
  rfl
 .have av:((cN R.vs).map λk=>((List.range R.vs.length).map bu)[k]?.getD .none)=(gu R.vs).map (·.1):=by
   unfold gu;rw [List.map_map];refine List.map_congr_left λk hk=>?_;rw [List.getElem?_map,List.getElem?_range (sT hk)];rfl
  have aC:((cN R.vs).map λk=>R.vs[k]?.getD .none)=(gu R.vs).map (·.2):=by
   unfold gu;rw [List.map_map];rfl
  dsimp only at pG;rw [av,aC] at pG;exact pG
 .rcases w with w | w | w | w | w | w
  .exact .inl w
  .dsimp only at w;lia
  .exact .inr (.inr (.inl w))
  .exact .inr (.inr (.inr (.inl w)))
  .exact .inr (.inr (.inr (.inr (.inl w))))
  .exact .inr (.inr (.inr (.inr (.inr w))))
theorem rW (i:Int) (D:am):ey [.int i,.con (.type "int")] D=some (.bool true,D):=rfl
theorem AL (l:List Nat) (D:am):ey [.str l,.con (.type "int")] D=some (.bool false,D):=rfl
theorem IJ (D:am):o1 [] D=some (.int 9223372036854775807,D):=rfl
theorem C0 (D:am):o2 [] D=some (.int (-9223372036854775808),D):=rfl
theorem Qw (A:a8 D o R) (hs:SL D R.vs) (aw:R.pk=true) {key:V} (K:ho key) (a3:∀p∈gu R.vs,p.1≠key):nN [.ref o.a,key] D=some (.int (-1),D):=by
 rw [F2];unfold v3;obtain ⟨i,rfl⟩ | ⟨l,rfl,_⟩:=K
 .have aW:hE [.ref o.a,.int i] D=some (.bool false,D):=by
   by_cases h:0<=i/\i < (R.vs.length:Int)
   .refine cH (Int.eq_ofNat_of_zero_le h.1) λk bl=>?_;subst bl;have hk:k < R.vs.length:=by lia
    rw [C1 A hs hk]
    cases aI:h1 R.vs k with
    | false=>rfl
    | true=>
     refine absurd rfl (a3 (bu k,R.vs[k]?.getD .none) ?_);unfold gu;exact List.mem_map.mpr ⟨k,by unfold cN;rw [List.mem_filter];exact ⟨List.mem_range.mpr hk,aI⟩,rfl⟩
   .exact VG A (by lia)
  simp! only [A.f0,aw,rW,aW]
 .simp! only [A.f0,aw,AL]
theorem Qt (A:a8 D o R) (aw:R.pk=false) (hz:0 < R.size) (aW:(R.hs.length:Int)=R.size) (a3:ka R.ks.length R.hs R.nx) (ax:R.nx.length=R.ks.length) (cS:R.ks.length<=64) (e4:∀k∈R.ks,ho k) {key:V} (K:ho key) (fB:∀k∈R.ks,k≠key):
  nN [.ref o.a,key] D=some (.int (-1),D):=by
 refine cH (IK K D) λz hh=>?_;refine cH (Int.eq_ofNat_of_zero_le (wz z hz).1) λc bj=>?_;have jU:c < R.hs.length:=by have:=(wz z hz).2;lia
 have cr:R.hs[c]? =some R.hs[c]:=List.getElem?_eq_getElem jU;refine gk (a3.h c _ cr) λy dr vx yE=>?_;rw [dr] at cr;refine fZ (vw (t:=bp (aD hl (G 2) (ab (.int 0))) (bp (aD ec (aT (aN 316 1 (G 0)) (G 2)) (G 1)) bW)) (f:=af (a1 2 (aT (aN 316 4 (G 0)) (G 2))) aq)
  (λn ag ai=>(∃y:Int,ag=[.ref o.a,key,.int y,.u,.u,.u,.u]/\ -1<=y/\y < R.ks.length/\y < n)/\ai=D) (λag ai=>(∃y:Int,ag=[.ref o.a,key,.int y,.u,.u,.u,.u]/\y=-1)/\ai=D) (λn ag ai dv=>by
   revert dv;refine gT λbd bl=>?_;revert bd;refine rl λy bl O ah au=>?_;subst bl;subst bl
   by_cases h0:y=-1
   .subst h0
    left
    refine ⟨ai,?_,⟨_,rfl,rfl⟩,rfl⟩;have:¬(0<=(-1:Int)):=by decide
    simp! only [this,decide_false]
   .right;right
    refine cH (Int.eq_ofNat_of_zero_le (by lia:0<=y)) λk bl=>?_;subst bl;have hk:k < R.ks.length:=by lia
    have wL:R.ks[k]? =some R.ks[k]:=List.getElem?_eq_getElem hk;have Bq:R.nx[k]? =some R.nx[k]:=List.getElem?_eq_getElem (by lia);refine gk (a3.n k _ Bq) λw hw yD pC=>?_;rw [hw] at Bq;have ne:=(e4 _ (List.getElem_mem hk)).ne K (fB _ (List.getElem_mem hk)) ai;have GW:(0:Int)<=(k:Int):=by lia
    refine ⟨ai,[.ref o.a,key,.int w,.u,.u,.u,.u],ai,n - 1,?_,?_,by lia,⟨_,rfl,yD,by lia,by lia⟩,rfl⟩
    .simp! only [GW,decide_true,A.f1,item_list A.k wL,cG K.set,ne]
    .simp! only [A.f4,item_list A.n Bq]) 100 (R.ks.length+1) (by lia) [.ref o.a,key,.int y,.u,.u,.u,.u] D ⟨⟨y,rfl,vx,yE,by lia⟩,rfl⟩) λbX aY e dh fK=>?_;revert dh;refine eQ λaaY bl R0=>?_;subst bl;subst fK
 subst R0;rw [F2];unfold v3;have cP:a7 (a' (aN 316 0 (G 0))) (af (aR (cn (bp (a' (ak ey (H (G 1) (H (ab (.con (.type "int"))) aa)))) (bp (a' (ak hE (H (G 0) (H (G 1) aa)))) bW)) (G 1) (dU ej (ab (.int 1))))) aq) aq [.ref o.a,key,.u,.u,.u,.u,.u] aY=some (.nx,[.ref o.a,key,.u,.u,.u,.u,.u],aY):=by
  simp! only [A.f0,aw]
 have dF:a1 2 (aT (aN 316 3 (G 0)) (aM fH (ak qG (H (G 1) aa)) (aN 316 5 (G 0)))) [.ref o.a,key,.u,.u,.u,.u,.u] aY=some (.nx,[.ref o.a,key,.int y,.u,.u,.u,.u],aY):=by
  simp! only [A.wy,cG K.set,hh,A.gH,sJ aY hz,bj,item_list A.h cr]
 rw [aF cP,aF dF,aF e]
 rfl
noncomputable def iA (k:V):Prop:=ho k/\∀i,k=.int i-> -3<=i/\(i<=6\/i=9)
theorem ym (a:Int) (D:am):mU D (.int a) (.int 1)=some (.int (a.fdiv 2)):=rfl
theorem VU (A:a8 D o R) {key:V} (K:iA key) (hsz:(R.size=8/\R.vs.length<=7)\/(R.size=16/\R.vs.length<=10)):
  ∃b z al,nT [.ref o.a,key] D=some (.bool b,al)/\a8 al o {R with size:=z}/\Fr (cR o) D al/\al.length=D.length/\((z=8/\R.size=8)\/z=16)/\
   (b=true->∃k:Nat,key=bu k/\R.vs.length<=k/\(k:Int) < z/\(k<=6\/k=9)):=by
 have js:∀z,z=R.size->({R with size:=z}:d6)=R:=λz h=>by subst h;rfl
 revert K;refine gT λy3 y4=>?_;obtain ⟨i,rfl⟩ | ⟨l,rfl,_⟩:=y3
 .refine cq (y4 i rfl) λa9 eE=>?_
  by_cases aj:i < (R.vs.length:Int)
  .refine ⟨false,R.size,D,?_,A,Fr.refl _,rfl,by lia,by intro q;cases q⟩;rw [ww];unfold rE
   simp! only [rW,A.f2,len_list A.v,aj,decide_true]
  .refine cH (Int.eq_ofNat_of_zero_le (by lia:0<=i)) λk bl=>?_;subst bl
   by_cases ao:(R.size<=(k:Int)/\Int.fdiv (k:Int) 2 < R.size)/\Int.fdiv R.size 2 < R.count
   .have hz:R.size=8:=by
     rcases hsz with h | h
     .exact h.1
     .lia
    have cu:=A.mb R.pk 16 R.count R.next R.at_ R.sh;refine ⟨decide ((k:Int) < 16),16,D.set o.a (cf o {R with size:=16}),?_,cu,Fr.set _ _ _ (.inl rfl),by simp,.inr rfl,λh=>⟨k,rfl,by lia,of_decide_eq_true h,by lia⟩⟩;rw [ww];unfold rE;have s5:=A.s5 16;have qC:gM D (.int R.size) (.int 2)=some (.int 16):=by rw [hz];rfl
    have av:a7 (bp (aD hl (G 1) (aN 316 5 (G 0))) (bp (aD oLt (aM mU (G 1) (ab (.int 1))) (aN 316 5 (G 0))) (bp (aD oLt (aM mU (aN 316 5 (G 0)) (ab (.int 1))) (aN 316 6 (G 0))) bW))) (af (bI 316 5 (G 0) (aM gM (aN 316 5 (G 0)) (ab (.int 2)))) aq) aq [.ref o.a,.int (k:Int),.u,.u,.u] D=some (.nx,[.ref o.a,.int (k:Int),.u,.u,.u],D.set o.a (cf o {R with size:=16})):=by
     simp! only [A.gH,A.gZ,ym,ao.1.1,ao.1.2,ao.2,decide_true,qC,s5]
    rw [aF (cc:=[.ref o.a,.int (k:Int),.u,.u,.u]) (ai:=D) (by simp! only [rW,A.f2,len_list A.v,aj,decide_false]),aF av]
    simp! only [cu.gH]
   .refine ⟨decide ((k:Int) < R.size),R.size,D,?_,A,Fr.refl _,rfl,by lia,λh=>⟨k,rfl,by lia,of_decide_eq_true h,by lia⟩⟩;rw [ww];unfold rE;have av:a7 (bp (aD hl (G 1) (aN 316 5 (G 0))) (bp (aD oLt (aM mU (G 1) (ab (.int 1))) (aN 316 5 (G 0))) (bp (aD oLt (aM mU (aN 316 5 (G 0)) (ab (.int 1))) (aN 316 6 (G 0))) bW))) (af (bI 316 5 (G 0) (aM gM (aN 316 5 (G 0)) (ab (.int 2)))) aq) aq [.ref o.a,.int (k:Int),.u,.u,.u] D=some (.nx,[.ref o.a,.int (k:Int),.u,.u,.u],D):=by
     by_cases c6:R.size<=(k:Int)
     .by_cases dt:Int.fdiv (k:Int) 2 < R.size
      .have hH:¬Int.fdiv R.size 2 < R.count:=λq=>ao ⟨⟨c6,dt⟩,q⟩
       simp! only [A.gH,A.gZ,ym,c6,dt,hH,decide_true,decide_false]
      .simp! only [A.gH,A.gZ,ym,c6,dt,decide_true,decide_false]
     .simp! only [A.gH,A.gZ,ym,c6,decide_false]
    rw [aF (cc:=[.ref o.a,.int (k:Int),.u,.u,.u]) (ai:=D) (by simp! only [rW,A.f2,len_list A.v,aj,decide_false]),aF av]
    simp! only [A.gH]
 .refine ⟨false,R.size,D,?_,A,Fr.refl _,rfl,by lia,by intro q;cases q⟩;rw [ww];unfold rE
  simp! only [AL]
theorem ID (ag:List V) (D:am):la (ak (dO 203 mM) aa) ag D=some (.hole,D++[.bB]):=by
 have aj:=Gq (D:=D++[az.inst 203 []]) (i:=D.length) (C:=203) (k:=0) (fs:=[]) (.bool false) (eL _ _) rfl;have e:mM [.ref D.length] (D++[az.inst 203 []])=some (.none,D++[az.inst 203 [.bool false]]):=by
  rw [OZ];unfold zp
  simp! only [aj,j1,List.nil_append]
 simp only [la,ak,aa,Option.bind_some,sI e,xW (eL _ _),if_true,j1]
theorem Vr (A:a8 D o R) {k:Nat} (hk:R.vs.length<=k) (GZ:k<=64) {slot:V} (hs:ez slot=true):
  ∃al,oX [.ref o.a,.int (k:Int),slot] D=some (.none,al)/\a8 al o {R with vs:=R.vs++List.replicate (k - R.vs.length) .hole++[slot]}/\Fr (cR o) D al:=by
 refine fZ (vw (t:=aD oLt (ak bG (H (aN 316 2 (G 0)) aa)) (G 1)) (f:=af (b9 (bS c2 c0 (aN 316 2 (G 0)) (H (la (ak (dO 203 mM) aa)) aa))) aq)
  (λn ag ai=>ag=[.ref o.a,.int (k:Int),slot,.u,.u]/\∃mh,a8 ai o {R with vs:=mh}/\Fr (cR o) D ai/\(∃m,mh=R.vs++List.replicate m .hole/\m+n=k - R.vs.length)/\mh.length<=k)
  (λag ai=>ag=[.ref o.a,.int (k:Int),slot,.u,.u]/\∃mh,a8 ai o {R with vs:=mh}/\Fr (cR o) D ai/\mh=R.vs++List.replicate (k - R.vs.length) .hole/\mh.length<=k) (λn ag ai dv=>by
   revert dv;refine gT λbd ci=>?_;subst bd;revert ci;refine rl λmh cu e1 dh aW=>?_;revert dh;refine eQ λm bl aP=>?_;subst bl;have fa:(R.vs++List.replicate m V.hole).length=R.vs.length+m:=by simp
   cases n with
   | zero=>
    left
    have ql:m=k - R.vs.length:=by lia
    subst ql;have:¬(((R.vs++List.replicate (k - R.vs.length) V.hole).length:Int) < (k:Int)):=by lia
    exact ⟨ai,by simp! only [cu.f2,len_list cu.v,this,decide_false],rfl,_,cu,e1,rfl,aW⟩
   | succ n=>
    right;right
    have aj:((R.vs++List.replicate m V.hole).length:Int) < (k:Int):=by lia
    have dK:=cu.app [az.bB];have eP:=dK.Do ((R.vs++List.replicate m V.hole)++[.hole]);refine ⟨ai,_,(ai++[az.bB]).set o.v (.list ((R.vs++List.replicate m V.hole)++[.hole])),n,by simp! only [cu.f2,len_list cu.v,aj,decide_true],?_,by lia,rfl,_,eP,e1.t ((Fr.app _ _).t (Fr.set _ _ _ (.inr (.inr (.inl rfl))))),⟨m+1,?_,by lia⟩,?_⟩
    .have av:bS c2 c0 (aN 316 2 (G 0)) (H (la (ak (dO 203 mM) aa)) aa) [.ref o.a,.int (k:Int),slot,.u,.u] ai=some (.none,(ai++[az.bB]).set o.v (.list ((R.vs++List.replicate m V.hole)++[.hole]))):=by
      rw [nW (v:=.ref o.v) (ai:=ai) (l:=[.hole]) (aY:=ai++[.bB]) (by simp! only [cu.f2]) (ip cu.v) (by simp only [H,ID,Option.bind_some,aa,Option.map_some])];exact ht _ dK.v (by simp only [fa];unfold big;lia)
     exact aF (fP av)
    .rw [List.append_assoc,List.replicate_succ']
    .simp;lia) 100 (k - R.vs.length) (by lia) [.ref o.a,.int (k:Int),slot,.u,.u] D ⟨rfl,R.vs,A,Fr.refl _,⟨0,by simp,by lia⟩,hk⟩) λbX aY e dh ci=>?_;subst dh;revert ci;refine rl λmh dK eR dh y7=>?_;subst dh
 have eP:=dK.Do ((R.vs++List.replicate (k - R.vs.length) .hole)++[slot]);refine ⟨aY.set o.v (.list ((R.vs++List.replicate (k - R.vs.length) .hole)++[slot])),?_,eP,eR.t (Fr.set _ _ _ (.inr (.inr (.inl rfl))))⟩;rw [Po];unfold zN;have aC:b9 (bS c2 c0 (aN 316 2 (G 0)) (H (G 2) aa)) [.ref o.a,.int (k:Int),slot,.u,.u] aY=some (.nx,[.ref o.a,.int (k:Int),slot,.u,.u],aY.set o.v (.list ((R.vs++List.replicate (k - R.vs.length) .hole)++[slot]))):=by
  simp! only [dK.f2,ip dK.v,cG hs,ht slot dK.v (by dsimp only;unfold big;lia)]
 rw [aF e,aF aC]
 rfl
theorem Vq (A:a8 D o R) {key slot:V} (K:ho key) (hs:ez slot=true) (aj:R.ks.length=R.vs.length) (ao:R.nx.length=R.vs.length) (aL:(R.vs.length:Int) < R.size) (cm:(R.hs.length:Int)=R.size) (eg:R.vs.length<=64) (a3:ka R.vs.length R.hs R.nx):
  ∃al hs nx,oW [.ref o.a,key,slot] D=some (.none,al)/\a8 al o {R with ks:=R.ks++[key],vs:=R.vs++[slot],hs:=hs,nx:=nx}/\ka (R.vs.length+1) hs nx/\hs.length=R.hs.length/\nx.length=R.vs.length+1/\Fr (cR o) D al:=by
 have ge:¬(R.size<=(R.vs.length:Int)):=by lia
 have cu:=A.YJ (R.ks++[key]);have dK:=cu.Do (R.vs++[slot]);have eP:=dK.yl (R.nx++[.int (-1)]);have Bo:ka R.vs.length R.hs (R.nx++[.int (-1)]):=⟨a3.h,λj x e=>by
  rw [List.getElem?_append] at e;split at e
  .exact a3.n j x e
  .rename_i q;have:j - R.nx.length=0:=by
    have:=(List.getElem?_eq_some_iff.mp e).1;simp at this;lia
   rw [this] at e;revert e;refine s1 λbd=>?_;subst bd;exact ⟨_,rfl,by lia,by lia⟩⟩
 refine fj (IL eP (p:=R.vs.length) (key:=key) (by dsimp only;rw [<- aj];simp) K (by dsimp only;simp;lia) (by dsimp only;lia) cm Bo) λiL l3 e c6 dt hH=>?_;refine ⟨_,iL,l3,?_,(eP.yl l3).JL iL,c6,dt,by rw [hH];dsimp only;simp [ao],((Fr.set _ _ _ (.inr (.inl rfl))).t (Fr.set _ _ _ (.inr (.inr (.inl rfl))))).t ((Fr.set _ _ _ (.inr (.inr (.inr (.inr (.inl rfl)))))).t ((Fr.set _ _ _ (.inr (.inr (.inr (.inr (.inl rfl)))))).t (Fr.set _ _ _ (.inr (.inr (.inr (.inl rfl)))))))⟩;rw [Pn];unfold zM;have fY:a1 3 (ak bG (H (aN 316 2 (G 0)) aa)) [.ref o.a,key,slot,.u,.u,.u,.u,.u] D=some (.nx,[.ref o.a,key,slot,.int R.vs.length,.u,.u,.u,.u],D):=by
  simp! only [A.f2,len_list A.v]
 have dW:aD hl (G 3) (aN 316 5 (G 0)) [.ref o.a,key,slot,.int R.vs.length,.u,.u,.u,.u] D=some (false,D):=by
  simp! only [A.gH,ge,decide_false]
 have dF:b9 (bS c2 c0 (aN 316 1 (G 0)) (H (G 1) aa)) [.ref o.a,key,slot,.int R.vs.length,.u,.u,.u,.u] D=some (.nx,[.ref o.a,key,slot,.int R.vs.length,.u,.u,.u,.u],D.set o.k (.list (R.ks++[key]))):=by
  simp! only [A.f1,ip A.k,cG K.set,ht key A.k (by unfold big;lia)]
 have h9:b9 (bS c2 c0 (aN 316 2 (G 0)) (H (G 2) aa)) [.ref o.a,key,slot,.int R.vs.length,.u,.u,.u,.u] (D.set o.k (.list (R.ks++[key])))=some (.nx,[.ref o.a,key,slot,.int R.vs.length,.u,.u,.u,.u],(D.set o.k (.list (R.ks++[key]))).set o.v (.list (R.vs++[slot]))):=by
  simp! only [cu.f2,ip cu.v,cG hs,ht slot cu.v (by dsimp only;unfold big;lia)]
 have jK:b9 (bS c2 c0 (aN 316 4 (G 0)) (H (dU ej (ab (.int 1))) aa)) [.ref o.a,key,slot,.int R.vs.length,.u,.u,.u,.u] ((D.set o.k (.list (R.ks++[key]))).set o.v (.list (R.vs++[slot])))=some (.nx,[.ref o.a,key,slot,.int R.vs.length,.u,.u,.u,.u],((D.set o.k (.list (R.ks++[key]))).set o.v (.list (R.vs++[slot]))).set o.n (.list (R.nx++[.int (-1)]))):=by
  simp! only [dK.f4,ip dK.n,ht (.int (-1)) dK.n (by dsimp only;unfold big;lia)]
 have w3:((R.vs++[slot]).length:Int) - 1=(R.vs.length:Int):=by simp
 have aQ:H (G 0) (H (aM eA (ak bG (H (aN 316 2 (G 0)) aa)) (ab (.int 1))) aa) [.ref o.a,key,slot,.int R.vs.length,.u,.u,.u,.u] (((D.set o.k (.list (R.ks++[key]))).set o.v (.list (R.vs++[slot]))).set o.n (.list (R.nx++[.int (-1)])))=some ([.ref o.a,.int R.vs.length],((D.set o.k (.list (R.ks++[key]))).set o.v (.list (R.vs++[slot]))).set o.n (.list (R.nx++[.int (-1)]))):=by
  simp! only [eP.f2,len_list eP.v,w3]
 rw [aF fY,aF (ch dW),aF dF,aF h9,aF jK,aF (fP ((eS aQ).trans e))]
 rfl
noncomputable def rB:aU:=af (l9 316 6 hG (G 0) (ab (.int 1))) (af (a7 (bp (a' (ak ey (H (G 1) (H (ab (.con (.type "int"))) aa)))) (bp (aD hl (G 1) (aN 316 7 (G 0))) bW)) (af (bI 316 7 (G 0) (ak oB (H (aM cV (G 1) (ab (.int 1))) (H (ak o1 aa) aa)))) aq) aq) aq)
theorem EM (A:a8 D o R) {key slot:V} (K:iA key):
  ∃al,rB [.ref o.a,key,slot,.u,.u,.u,.u,.u,.u,.u,.u,.u] D=some (.nx,[.ref o.a,key,slot,.u,.u,.u,.u,.u,.u,.u,.u,.u],al)/\a8 al o {R with count:=R.count+1,next:=g2 R.next key}/\Fr (cR o) D al:=by
 have cu:=A.mb R.pk R.size (R.count+1) R.next R.at_ R.sh;have cP:l9 316 6 hG (G 0) (ab (.int 1)) [.ref o.a,key,slot,.u,.u,.u,.u,.u,.u,.u,.u,.u] D=some (.nx,[.ref o.a,key,slot,.u,.u,.u,.u,.u,.u,.u,.u,.u],D.set o.a (cf o {R with count:=R.count+1})):=by
  simp! only [A.gZ,A.j0]
 revert K;refine gT λy3 y4=>?_;obtain ⟨i,rfl⟩ | ⟨l,rfl,_⟩:=y3
 .refine cq (y4 i rfl) λa9 eE=>?_
  by_cases h:R.next<=i
  .have dK:=cu.mb R.pk R.size (R.count+1) (i+1) R.at_ R.sh;have kO:=cu.kO (i+1);refine ⟨_,?_,by simp only [g2,h,if_true];exact dK,(Fr.set _ _ _ (.inl rfl)).t (Fr.set _ _ _ (.inl rfl))⟩;unfold rB;have aP:¬((9223372036854775807:Int) < i+1):=by lia
   rw [aF cP]
   simp! only [rW,cu.mB,h,decide_true,IJ,Gi,aP,kO]
  .refine ⟨_,?_,by simp only [g2,h,if_false];exact cu,Fr.set _ _ _ (.inl rfl)⟩;unfold rB;rw [aF cP]
   simp! only [rW,cu.mB,h,decide_false]
 .refine ⟨_,?_,by simp only [g2];exact cu,Fr.set _ _ _ (.inl rfl)⟩;unfold rB;rw [aF cP]
  simp! only [AL]
theorem HR (vs:List V):∀m,gu (vs++List.replicate m .hole)=gu vs
 | 0=>by simp
 | m+1=>by
  rw [List.replicate_succ',<- List.append_assoc,Tt,HR vs m]
structure vA (D:am) (o:ee) (R:d6) (ps:List (V×V)) (key slot:V) (al:am) (b8:ee) (bo:d6):Prop where
 arr:a8 al b8 bo
 good:Good al bo (ps++[(key,slot)])
 next:bo.next=g2 R.next key
 sh:bo.sh=R.sh
 a:b8.a=o.a
 fr:Fr (cR o) D al
 own:∀j,cR b8 j->cR o j\/D.length<=j
theorem IE (A:a8 D o R) {ps:List (V×V)} (bD:Good D R ps) {key slot:V} (K:iA key) (hs:Slot D slot) (hh:slot≠.hole) (cS:ps.length < 7):
  ∃al b8 bo,oV [.ref o.a,key,slot] D=some (.none,al)/\vA D o R ps key slot al b8 bo:=by
 have A2:zL=af (a7 (bp (a' (aN 316 0 (G 0))) (bp (ek (a' (ak nT (H (G 0) (H (G 1) aa))))) bW)) (af (a7 (aD hl (ak bG (H (aN 316 2 (G 0)) aa)) (aN 316 5 (G 0))) (af (bI 316 5 (G 0) (aM gM (aN 316 5 (G 0)) (ab (.int 2)))) aq) aq) (af (b9 (ak qL (H (G 0) aa))) aq)) aq)
  (af (a7 (a' (aN 316 0 (G 0))) (af (b9 (ak oX (H (G 0) (H (G 1) (H (G 2) aa))))) aq) (af (b9 (ak oW (H (G 0) (H (G 1) (H (G 2) aa))))) aq)) rB):=rfl
 rw [Pm,A2];have vQ:=K.1.set;have HG:∀p∈ps++[(key,slot)],ho p.1:=λp aw=>by
  rcases List.mem_append.mp aw with h | h
  .exact bD.key p h
  .rw [List.mem_singleton.mp h];exact K.1
 have GN:∀(ai:am) (c1:ee) (d8:d6),a8 ai c1 d8->d8.pk=false->d8.ks=ps.map (·.1)->d8.vs=ps.map (·.2)->(∀v∈d8.vs,v≠.hole)->SL ai d8.vs->ka d8.vs.length d8.hs d8.nx->(d8.hs.length:Int)=d8.size->d8.nx.length=d8.vs.length->(d8.size=8\/d8.size=16)->d8.at_=0->d8.count=ps.length->d8.next=R.next->d8.sh=R.sh->c1.a=o.a->Fr (cR o) D ai->(∀j,cR c1 j->cR o j\/D.length<=j)->
   ∃al b8 bo,outF (af (a7 (a' (aN 316 0 (G 0))) (af (b9 (ak oX (H (G 0) (H (G 1) (H (G 2) aa))))) aq) (af (b9 (ak oW (H (G 0) (H (G 1) (H (G 2) aa))))) aq)) rB [.ref o.a,key,slot,.u,.u,.u,.u,.u,.u,.u,.u,.u] ai)=some (.none,al)/\vA D o R ps key slot al b8 bo:=by
  intro ai c1 d8 cu Ja ij BF Up YV Ry G3 RY Zb L2 Ot xG Dq CN e1 u7;have B9:d8.vs.length=ps.length:=by rw [BF];simp
  refine vE (Vq cu (key:=key) (slot:=slot) K.1 hs.set (by rw [ij,BF];simp) RY (by lia) G3 (by lia) Ry) λaY mF xH aC dK c6 dt hH eR=>?_;refine gk (EM (key:=key) (slot:=slot) dK K) λa6 bN eP gm=>?_;have tv:Fr (cR c1) ai a6:=eR.t gm;have YW:SL a6 (d8.vs++[slot]):=λv aI=>by
   rcases List.mem_append.mp aI with h | h
   .exact iZ (YV v h) tv cu.iS
   .rw [List.mem_singleton.mp h];exact iZ (iZ hs e1 A.iS) tv cu.iS
  refine ⟨a6,c1,{d8 with ks:=d8.ks++[key],vs:=d8.vs++[slot],hs:=mF,nx:=xH,count:=d8.count+1,next:=g2 d8.next key},?_,eP,⟨by dsimp only;rw [Ot];simp,L2,HG,YW,by simp;lia,λh=>(by dsimp only at h;rw [Ja] at h;cases h),λ_=>?_⟩,by dsimp only;rw [xG],Dq,CN,e1.trans tv (λ_ w=>w) λj aX w=>?_,u7⟩
  .rw [CN] at aC bN;have f0:=cu.f0;rw [CN] at f0;have vi:a' (aN 316 0 (G 0)) [.ref o.a,key,slot,.u,.u,.u,.u,.u,.u,.u,.u,.u] ai=some (false,ai):=by simp! only [f0,Ja]
   have i9:H (G 0) (H (G 1) (H (G 2) aa)) [.ref o.a,key,slot,.u,.u,.u,.u,.u,.u,.u,.u,.u] ai=some ([.ref o.a,key,slot],ai):=by simp! only [cG vQ,cG hs.set]
   have lP:b9 (ak oW (H (G 0) (H (G 1) (H (G 2) aa)))) [.ref o.a,key,slot,.u,.u,.u,.u,.u,.u,.u,.u,.u] ai=some (.nx,[.ref o.a,key,slot,.u,.u,.u,.u,.u,.u,.u,.u,.u],aY):=fP ((eS i9).trans aC);rw [aF ((ch vi).trans (aF lP)),bN]
   rfl
  .refine ⟨Zb,by dsimp only;rw [ij];simp,by dsimp only;rw [BF];simp,λv aI=>?_,by dsimp only;simpa using c6,by dsimp only;rw [dt];exact G3,by dsimp only;rw [hH];simp⟩;rcases List.mem_append.mp aI with h | h
   .exact Up v h
   .rw [List.mem_singleton.mp h];exact hh
  .rcases u7 j w with h | h
   .exact h
   .lia
 cases mD:R.pk with
 | false=>
  refine yL (bD.hash mD) λJ1 hk aI sM a3 aW ax=>?_;have vi:bp (a' (aN 316 0 (G 0))) (bp (ek (a' (ak nT (H (G 0) (H (G 1) aa))))) bW) [.ref o.a,key,slot,.u,.u,.u,.u,.u,.u,.u,.u,.u] D=some (false,D):=by simp! only [A.f0,mD]
  rw [aF (cc:=[.ref o.a,key,slot,.u,.u,.u,.u,.u,.u,.u,.u,.u]) (ai:=D) (ch vi)];exact GN D o R A mD hk aI sM bD.slot a3 aW ax J1 bD.nj bD.cnt rfl rfl rfl (Fr.refl _) λj w=>.inl w
 | true=>
  refine cq (bD.pack mD) λqo hsz=>?_;refine vE (VU A K hsz) λb z ai av cu e1 hQ hz aA=>?_
  cases b with
  | true=>
   refine vD (aA rfl) λk bl cz dB lj=>?_;subst bl;have vi:bp (a' (aN 316 0 (G 0))) (bp (ek (a' (ak nT (H (G 0) (H (G 1) aa))))) bW) [.ref o.a,bu k,slot,.u,.u,.u,.u,.u,.u,.u,.u,.u] D=some (false,ai):=by simp! only [A.f0,mD,cG vQ,av]
   rw [aF (cc:=[.ref o.a,bu k,slot,.u,.u,.u,.u,.u,.u,.u,.u,.u]) (ai:=ai) (ch vi)];refine gk (Vr cu (k:=k) cz (by lia) hs.set) λaY aC dK eR=>?_;refine gk (EM (key:=bu k) (slot:=slot) dK K) λa6 bN eP gm=>?_;have tv:Fr (cR o) ai a6:=eR.t gm;have F:=e1.t tv;have fa:(R.vs++List.replicate (k - R.vs.length) V.hole).length=k:=by simp;lia
   refine ⟨a6,o,_,?_,eP,⟨by dsimp only;rw [bD.cnt];simp,bD.nj,HG,λv aI=>?_,by simp;lia,λ_=>⟨?_,?_⟩,λh=>(by dsimp only at h;rw [mD] at h;cases h)⟩,rfl,rfl,rfl,F,λj w=>.inl w⟩
   .have dR:a' (aN 316 0 (G 0)) [.ref o.a,bu k,slot,.u,.u,.u,.u,.u,.u,.u,.u,.u] ai=some (true,ai):=by simp! only [cu.f0,mD]
    have i9:H (G 0) (H (G 1) (H (G 2) aa)) [.ref o.a,bu k,slot,.u,.u,.u,.u,.u,.u,.u,.u,.u] ai=some ([.ref o.a,bu k,slot],ai):=by simp! only [cG vQ,cG hs.set]
    have lP:b9 (ak oX (H (G 0) (H (G 1) (H (G 2) aa)))) [.ref o.a,bu k,slot,.u,.u,.u,.u,.u,.u,.u,.u,.u] ai=some (.nx,[.ref o.a,bu k,slot,.u,.u,.u,.u,.u,.u,.u,.u,.u],aY):=fP ((eS i9).trans aC);rw [aF ((dw dR).trans (aF lP)),bN]
    rfl
   .dsimp only at aI;rcases List.mem_append.mp aI with h | h
    .rcases List.mem_append.mp h with h | h
     .exact iZ (bD.slot v h) F A.iS
     .rw [List.eq_of_mem_replicate h];exact .inr (.inl rfl)
    .rw [List.mem_singleton.mp h];exact iZ hs F A.iS
   .dsimp only;rw [Tu _ _ hh,HR,<- qo,fa]
   .dsimp only;rw [List.length_append,fa];simp only [List.length_singleton];rcases hz with ⟨h,_⟩ | h
    .left;exact ⟨h,by lia⟩
    .right;exact ⟨h,by lia⟩
  | false=>
   have lt:¬(z<=(R.vs.length:Int)):=by lia
   refine yO (VV cu (bD.slot.fr e1 A.iS) bD.nj (z:=z.toNat) (by dsimp only;lia) (by lia) (by lia) (by dsimp only;lia)) λaY k v h n mF xH aC dK c6 dt hH eR k5 jP L6 L7=>?_;have D3:=e1.t eR;have dR:bp (a' (aN 316 0 (G 0))) (bp (ek (a' (ak nT (H (G 0) (H (G 1) aa))))) bW) [.ref o.a,key,slot,.u,.u,.u,.u,.u,.u,.u,.u,.u] D=some (true,ai):=by simp! only [A.f0,mD,cG vQ,av]
   have fT:aD hl (ak bG (H (aN 316 2 (G 0)) aa)) (aN 316 5 (G 0)) [.ref o.a,key,slot,.u,.u,.u,.u,.u,.u,.u,.u,.u] ai=some (false,ai):=by simp! only [cu.f2,len_list cu.v,cu.gH,lt,decide_false]
   have i9:H (G 0) aa [.ref o.a,key,slot,.u,.u,.u,.u,.u,.u,.u,.u,.u] ai=some ([.ref o.a],ai):=by simp! only []
   have lP:b9 (ak qL (H (G 0) aa)) [.ref o.a,key,slot,.u,.u,.u,.u,.u,.u,.u,.u,.u] ai=some (.nx,[.ref o.a,key,slot,.u,.u,.u,.u,.u,.u,.u,.u,.u],aY):=fP ((eS i9).trans aC);rw [aF (cc:=[.ref o.a,key,slot,.u,.u,.u,.u,.u,.u,.u,.u,.u]) (ai:=aY) ((dw dR).trans ((aF (ch fT)).trans (aF lP)))];have HW:(gu R.vs).length=(cN R.vs).length:=by simp [gu]
   have Ic:∀v∈(gu R.vs).map (·.2),v≠.hole/\v∈R.vs:=λv aI=>by
    refine a2 (List.mem_map.mp aI) λp aw aV=>?_;subst aV;unfold gu at aw;refine a2 (List.mem_map.mp aw) λk hk aV=>?_;subst aV;have cY:=sT hk;have cr:=List.getElem?_eq_getElem cY;dsimp only;rw [cr,Option.getD_some];refine ⟨λq=>?_,List.getElem_mem cY⟩;unfold cN at hk;rw [List.mem_filter] at hk;have:=hk.2;unfold h1 at this;rw [cr,Option.getD_some,q] at this
    cases this
   refine GN aY _ _ dK rfl (by rw [qo]) (by rw [qo]) (λv aI=>(Ic v aI).1) (λv aI=>iZ (bD.slot v (Ic v aI).2) D3 A.iS) (by dsimp only;rw [List.length_map,HW];exact c6) (by dsimp only;rw [dt];lia) (by dsimp only;rw [hH,List.length_map,HW]) (by dsimp only;lia) bD.nj bD.cnt rfl rfl rfl D3 λj w=>?_;rcases w with w | w | w | w | w | w
   .exact .inl (.inl w)
   .dsimp only at w;right;lia
   .dsimp only at w;right;lia
   .dsimp only at w;right;lia
   .dsimp only at w;right;lia
   .exact .inl (.inr (.inr (.inr (.inr (.inr w)))))
theorem VC (A:a8 D o R) {ps:List (V×V)} (bD:Good D R ps) {key:V} (K:ho key) (a3:∀p∈ps,p.1≠key):nN [.ref o.a,key] D=some (.int (-1),D):=by
 cases aw:R.pk with
 | true=>
  refine cq (bD.pack aw) λaj _=>?_;subst aj;exact Qw A bD.slot aw K a3
 | false=>
  refine yL (bD.hash aw) λJ1 hk aI sM hh aW ax=>?_;have e:R.ks.length=R.vs.length:=by rw [hk,aI];simp
  have cS:=bD.cS;have lk:R.ks.length=ps.length:=by rw [hk];simp
  refine Qt A aw (by lia) aW (by rw [e];exact hh) (by rw [e];exact ax) (by lia) (λk aP=>?_) K (λk aP=>?_)
  .rw [hk] at aP;refine a2 (List.mem_map.mp aP) λp aw aV=>?_;subst aV;exact bD.key p aw
  .rw [hk] at aP;refine a2 (List.mem_map.mp aP) λp aw aV=>?_;subst aV;exact a3 p aw
theorem VQ (A:a8 D o R) {ps:List (V×V)} (bD:Good D R ps) {key slot:V} (K:iA key) (hs:Slot D slot) (hh:slot≠.hole) (cS:ps.length < 7) (a3:∀p∈ps,p.1≠key):
  ∃al b8 bo,qE [.ref o.a,key,slot] D=some (.none,al)/\vA D o R ps key slot al b8 bo:=by
 refine kW (IE A bD K hs hh cS) λal b8 bo e h=>?_;refine ⟨al,b8,bo,?_,h⟩;rw [O4];unfold zt;have av:=VC A bD K.1 a3;have cP:a1 3 (bS (eT 316) nN (G 0) (H (G 1) aa)) [.ref o.a,key,slot,.u,.u] D=some (.nx,[.ref o.a,key,slot,.int (-1),.u],D):=by
  simp! only [A.ok,cG K.1.set,av]
 have dW:aD hl (G 3) (ab (.int 0)) [.ref o.a,key,slot,.int (-1),.u] D=some (false,D):=by
  have:¬((0:Int)<= -1):=by decide
  simp! only [this,decide_false]
 have i9:H (G 0) (H (G 1) (H (G 2) aa)) [.ref o.a,key,slot,.int (-1),.u] D=some ([.ref o.a,key,slot],D):=by simp! only [cG K.1.set,cG hs.set]
 have lP:b9 (ak oV (H (G 0) (H (G 1) (H (G 2) aa)))) [.ref o.a,key,slot,.int (-1),.u] D=some (.nx,[.ref o.a,key,slot,.int (-1),.u],al):=fP ((eS i9).trans e);rw [aF cP,aF ((ch dW).trans (aF lP))]
 rfl
noncomputable def jY:Int:= -9223372036854775808
theorem Vs (A:a8 D o R) {ps:List (V×V)} (bD:Good D R ps) {slot:V} (hs:Slot D slot) (hh:slot≠.hole) (cS:ps.length < 7) (ax:R.next=if ps.length=0 then jY else (ps.length:Int)):
  ∃al b8 bo,qD [.ref o.a,slot] D=some (bu ps.length,al)/\vA D o R ps (bu ps.length) slot al b8 bo:=by
 have K:iA (bu ps.length):=⟨.inl ⟨_,rfl⟩,λi h=>by cases h;lia⟩;refine kW (IE A bD K hs hh cS) λal b8 bo e h=>?_;refine ⟨al,b8,bo,?_,h⟩;rw [O0];unfold zq;have cP:a1 2 (cn (aD oEq (aN 316 7 (G 0)) (ak o2 aa)) (ab (.int 0)) (aN 316 7 (G 0))) [.ref o.a,slot,.u,.u,.u,.u,.u] D=some (.nx,[.ref o.a,slot,bu ps.length,.u,.u,.u,.u],D):=by
  by_cases h0:ps.length=0
  .rw [if_pos h0] at ax;have:(R.next=(-9223372036854775808:Int)):=ax
   simp! only [A.mB,C0,h2,this,decide_true,h0,bu] <;> rfl
  .rw [if_neg h0] at ax;have:¬((ps.length:Int)=(-9223372036854775808:Int)):=by lia
   simp! only [A.mB,C0,h2,ax,this,decide_false,bu]
 have dW:bp (aD oEq (G 2) (ak o1 aa)) (bp (a' (bS (eT 316) xg (G 0) (H (G 2) aa))) bW) [.ref o.a,slot,bu ps.length,.u,.u,.u,.u] D=some (false,D):=by
  have:¬((ps.length:Int)=9223372036854775807):=by lia
  simp! only [bu,IJ,h2,this,decide_false]
 have i9:H (G 0) (H (G 2) (H (G 1) aa)) [.ref o.a,slot,bu ps.length,.u,.u,.u,.u] D=some ([.ref o.a,bu ps.length,slot],D):=by simp! only [bu,cG hs.set]
 have lP:b9 (ak oV (H (G 0) (H (G 2) (H (G 1) aa)))) [.ref o.a,slot,bu ps.length,.u,.u,.u,.u] D=some (.nx,[.ref o.a,slot,bu ps.length,.u,.u,.u,.u],al):=fP ((eS i9).trans e);rw [aF cP,aF (ch dW),aF lP]
 rfl
theorem qd (D g:am) (x:az):(D++(x::g))[D.length]? =some x:=by rw [List.getElem?_append_right (Nat.le_refl _),Nat.sub_self];rfl
theorem Dp (D g:am) (x y:az):(D++(x::g)).set D.length y=D++(y::g):=by rw [List.set_append_right _ _ (Nat.le_refl _),Nat.sub_self];rfl
theorem Sj {C k:Nat} {fv:bK} {ag:List V} {fs:List V} {g g':am} {w:V} (aI:fv ag (D++(.inst C fs::g))=some (w,D++(.inst C fs::g'))) (aZ:ag[0]? =some (.ref D.length)) (hk:k=fs.length):
  bI C k (G 0) fv ag (D++(.inst C fs::g))=some (.nx,ag,D++(.inst C (fs++[w])::g')):=by
 simp only [bI,aI,Option.bind_some,ff,aZ,ir,Gq w (qd D g' (.inst C fs)) hk,Dp,Option.map_some]
theorem hi {C k:Nat} {fv:bK} {fJ:aU} {ag:List V} {fs:List V} {g g':am} {w:V} (aI:fv ag (D++(.inst C fs::g))=some (w,D++(.inst C fs::g'))) (aZ:ag[0]? =some (.ref D.length)) (hk:k=fs.length):
  af (bI C k (G 0) fv) fJ ag (D++(.inst C fs::g))=fJ ag (D++(.inst C (fs++[w])::g')):=aF (Sj aI aZ hk)
theorem qz (ag:List V) (D g:am) (x:az):cM aa ag (D++(x::g))=some (.ref (D.length+1+g.length),D++(x::(g++[.list []]))):=by
 simp only [cM,aa,Option.bind_some,List.length_nil,Nat.zero_le,if_true];simp;lia
theorem Ar (ag:List V) (D g:am) (x:az):hc ag (D++(x::g))=some (.ref (D.length+1+g.length),D++(x::(g++[.dict []]))):=by
 simp only [hc];simp;lia
noncomputable def fR (n:Nat):ee:=⟨n,n+1,n+2,n+3,n+4,n+5⟩
noncomputable def cy (z:Int):d6:=⟨true,[],[],[],[],z,0,jY,0,false⟩
theorem IB (z:Int) (D:am):v4 [.ref D.length,.int z,.u] (D++[.inst 316 []])=some (.nx,[.ref D.length,.int z,.u],D++[cf (fR D.length) (cy z),.list [],.list [],.list [],.list [],.dict []]):=by
 unfold v4;refine (hi (g':=[]) (w:=.bool true) rfl rfl rfl).trans ?_;refine (hi (qz _ D _ _) rfl rfl).trans ?_;refine (hi (qz _ D _ _) rfl rfl).trans ?_;refine (hi (qz _ D _ _) rfl rfl).trans ?_;refine (hi (qz _ D _ _) rfl rfl).trans ?_;refine (hi (w:=.int z) rfl rfl rfl).trans ?_;refine (hi (w:=.int 0) rfl rfl rfl).trans ?_;refine (hi (w:=.int jY) (by simp! only [C0] <;> rfl) rfl rfl).trans ?_;refine (hi (w:=.int 0) rfl rfl rfl).trans ?_;refine (hi (w:=.bool false) rfl rfl rfl).trans ?_;refine (hi (Ar _ D _ _) rfl rfl).trans ?_
 rfl
theorem Vn (z:Int) (D:am):zr [.ref D.length,.int z,.u] (D++[.inst 316 []])=some (.nx,[.ref D.length,.int z,.u],D++[cf (fR D.length) (cy z),.list [],.list [],.list [],.list [],.dict []]):=IB z D
theorem zn (D:am) (z:Int):a8 (D++[cf (fR D.length) (cy z),.list [],.list [],.list [],.list [],.dict []]) (fR D.length) (cy z):=by
 have g:∀k (x:az),([cf (fR D.length) (cy z),.list [],.list [],.list [],.list [],.dict []]:am)[k]? =some x->(D++[cf (fR D.length) (cy z),.list [],.list [],.list [],.list [],.dict []])[D.length+k]? =some x:=λk x h=>by
  rw [List.getElem?_append_right (by lia)];rw [show D.length+k - D.length=k from by lia];exact h
 exact ⟨g 0 _ rfl,g 1 _ rfl,g 2 _ rfl,g 3 _ rfl,g 4 _ rfl,g 5 _ rfl,by simp [fR],by simp [fR],by simp [fR],by simp [fR],by simp [fR],by simp [fR]⟩
theorem GH (D:am):Good D (cy 8) []:=
 ⟨rfl,rfl,λp h=>by simp at h,λv h=>by simp [cy] at h,by simp,λ_=>⟨rfl,.inl ⟨rfl,by simp [cy]⟩⟩,λh=>by cases h⟩
theorem H9 (ag:List V) (D:am):ak (dO 316 oQ) aa ag D=some (.ref D.length,D++[cf (fR D.length) (cy 8),.list [],.list [],.list [],.list [],.dict []]):=by
 have e:oQ [.ref D.length] (D++[.inst 316 []])=some (.none,D++[cf (fR D.length) (cy 8),.list [],.list [],.list [],.list [],.dict []]):=by
  rw [O1,IB 8 D];rfl
 simp only [ak,aa,Option.bind_some,sI e]
theorem CW {n j:Nat} (h:cR (fR n) j):n<=j:=by
 rcases h with rfl | rfl | rfl | rfl | rfl | rfl <;> simp [fR]
noncomputable def iR (ps:List (V×V)):Int:=ps.foldl (λn p=>g2 n p.1) jY
structure Ee (D al:am) (o:ee) (R:d6) (ps:List (V×V)):Prop where
 arr:a8 al o R
 good:Good al R ps
 sh:R.sh=false
 fr:Fr dx D al
 own:∀j,cR o j->D.length<=j
theorem II {v:V} {ps:List (V×V)} (sb:ez v=true) (aI:∀al,Fr dx D al->jd al v=true/\∀k,g3 al v k=some (ps.map aH)[k]?) (e4:∀p∈ps,iA p.1) (hs:∀p∈ps,Slot D p.2/\p.2≠.hole) (cS:ps.length<=7) (cX:(ps.map (·.1)).Nodup):
  ∃al o R,mN [v] D=some (.ref o.a,al)/\Ee D al o R ps/\R.next=iR ps:=by
 have pJ:Fr dx D (D++[cf (fR D.length) (cy 8),.list [],.list [],.list [],.list [],.dict []]):=Fr.app _ _;refine fZ (kr (v:=v) (l:=ps.map aH) (g:=f9 [2,3]) (f:=af (b9 (bS (eT 316) qE (G 1) (H (G 2) (H (G 3) aa)))) aq)
  (λk ag ai=>(∃x y,ag=[v,.ref D.length,x,y,.u])/\∃o R,o.a=D.length/\a8 ai o R/\Good ai R (ps.take k)/\R.sh=false/\Fr dx D ai/\(∀j,cR o j->D.length<=j)/\R.next=iR (ps.take k))
  (λk ag ai dv=>by revert dv;refine gT λ_ ci=>?_;revert ci;refine vH λo R _ _ _ _ F _=>?_;exact (aI ai F).2 k) (λk x ag ai dv ax=>by
   revert dv;refine gT λbd ci=>?_;revert bd;refine mo λx0 aaZ aV=>?_;subst aV;revert ci;refine rm λo R l4 A bD sh F n2 nx=>?_;rw [List.getElem?_map] at ax;refine a2 (Option.map_eq_some_iff.mp ax) λp aw aV=>?_;subst aV;have lg:=List.mem_of_getElem? aw;have cY:=(List.getElem?_eq_some_iff.mp aw).1;have jc:ps.take (k+1)=ps.take k++[p]:=by rw [List.take_add_one,aw];rfl
   have RA:∀q∈ps.take k,q.1≠p.1:=λq bL RG=>by
    rw [List.mem_take_iff_getElem] at bL;revert bL;refine d7 λi ci=>?_;obtain ⟨aJ,rfl⟩:=ci;have Bd:i < k/\i < ps.length:=by lia
    have aj:(ps.map (·.1))[i]'(by simp;lia)=(ps.map (·.1))[k]'(by simpa using cY):=by
     simp only [List.getElem_map];rw [RG];have:=List.getElem?_eq_getElem cY;rw [aw] at this;revert this;refine s1 λbd=>?_;subst bd;rfl
    have:=(List.getElem_inj cX).mp aj;lia
   refine kW (VQ A bD (e4 p lg) (iZ (hs p lg).1 F (λ_ _ _ w=>w)) (hs p lg).2 (by rw [List.length_take];lia) RA) λaY a4 bV aC ao=>?_;refine ⟨[v,.ref D.length,p.1,p.2,.u],[v,.ref D.length,p.1,p.2,.u],aY,rfl,?_,⟨_,_,rfl⟩,a4,bV,ao.a.trans l4,ao.arr,by rw [jc];exact ao.good,ao.sh.trans sh,F.trans ao.fr (λ_ w=>w) (λj aX w=>?_),λj w=>?_,?_⟩
   .rw [l4] at aC;have ok:=A.ok;rw [l4] at ok;have bN:bS (eT 316) qE (G 1) (H (G 2) (H (G 3) aa)) [v,.ref D.length,p.1,p.2,.u] ai=some (.none,aY):=by
     simp! only [ok,cG (e4 p lg).1.set,cG (hs p lg).1.set,aC]
    exact aF (fP bN)
   .exact absurd (n2 j w) (by lia)
   .rcases ao.own j w with h | h
    .exact n2 j h
    .have:=F.1;lia
   .rw [ao.next,nx,jc];unfold iR;rw [List.foldl_append];rfl) 100 0 (by simp;lia) (Nat.zero_le _) [v,.ref D.length,.u,.u,.u] _ ⟨⟨_,_,rfl⟩,fR D.length,cy 8,rfl,zn D 8,GH _,rfl,pJ,λj w=>CW w,rfl⟩) λbX al e dh ci=>?_;revert dh;refine mo λx y aV=>?_;subst aV;revert ci;refine rm λo R l4 A bD sh F n2 nx=>?_
 rw [List.length_map,List.take_length] at bD nx;refine ⟨al,o,R,?_,⟨A,bD,sh,F,n2⟩,nx⟩;rw [Pw];unfold zS;rw [aF (cc:=[v,.ref D.length,.u,.u,.u]) (hI (H9 _ D)),aF (ja (v:=v) (by simp! only [cG sb]) (aI _ pJ).1 e),l4]
 rfl
noncomputable def gG (l:List V):List (V×V):=(List.range l.length).map λk=>(bu k,l[k]?.getD .none)
theorem P8 (l:List V) (x:V):gG (l++[x])=gG l++[(bu l.length,x)]:=by
 unfold gG;rw [List.length_append,List.length_singleton,List.range_succ,List.map_append];congr 1
 .refine List.map_congr_left λk hk=>?_;rw [List.getElem?_append_left (List.mem_range.mp hk)]
 .simp
theorem tZ (l:List V):(gG l).length=l.length:=by simp [gG]
noncomputable def pb (n:Nat):Int:=if n=0 then jY else (n:Int)
theorem Ul (k:Nat):g2 (pb k) (bu k)=pb (k+1):=by
 unfold pb g2 bu jY;dsimp only;rw [if_neg (by lia:¬(k+1=0))]
 by_cases h0:k=0
 .subst h0;rfl
 .rw [if_neg h0,if_pos (by lia)];push_cast;rfl
theorem VF {l:List V} (hs:∀v∈l,Slot D v/\v≠.hole) (cS:l.length<=7):
  ∃al o R,qH [.ap l] D=some (.ref o.a,al)/\Ee D al o R (gG l)/\R.next=pb l.length:=by
 have pJ:Fr dx D (D++[cf (fR D.length) (cy 8),.list [],.list [],.list [],.list [],.dict []]):=Fr.app _ _;refine fZ (kr (v:=.ap l) (l:=l) (g:=cx 2) (f:=af (b9 (bS (eT 316) qD (G 1) (H (G 2) aa))) aq)
  (λk ag ai=>(∃x,ag=[.ap l,.ref D.length,x,.u])/\∃o R,o.a=D.length/\a8 ai o R/\Good ai R (gG (l.take k))/\R.sh=false/\Fr dx D ai/\(∀j,cR o j->D.length<=j)/\R.next=pb (l.take k).length)
  (λk ag ai dv=>l2 l ai k) (λk x ag ai dv ax=>by
   revert dv;refine gT λbd ci=>?_;revert bd;refine d7 λx0 bl=>?_;subst bl;revert ci;refine rm λo R l4 A bD sh F n2 nx=>?_;have lg:=List.mem_of_getElem? ax;have cY:=(List.getElem?_eq_some_iff.mp ax).1;have jc:l.take (k+1)=l.take k++[x]:=by rw [List.take_add_one,ax];rfl
   have jW:(l.take k).length=k:=by rw [List.length_take];lia
   refine kW (Vs A bD (iZ (hs x lg).1 F (λ_ _ _ w=>w)) (hs x lg).2 (by rw [tZ,jW];lia) (by rw [tZ];exact nx)) λaY a4 bV aC ao=>?_;rw [tZ] at aC ao;refine ⟨[.ap l,.ref D.length,x,.u],[.ap l,.ref D.length,x,.u],aY,rfl,?_,⟨_,rfl⟩,a4,bV,ao.a.trans l4,ao.arr,by rw [jc,P8];exact ao.good,ao.sh.trans sh,F.trans ao.fr (λ_ w=>w) (λj aX w=>?_),λj w=>?_,?_⟩
   .rw [l4] at aC;have ok:=A.ok;rw [l4] at ok;have bN:bS (eT 316) qD (G 1) (H (G 2) aa) [.ap l,.ref D.length,x,.u] ai=some (bu (l.take k).length,aY):=by
     simp! only [ok,cG (hs x lg).1.set,aC]
    exact aF (fP bN)
   .exact absurd (n2 j w) (by lia)
   .rcases ao.own j w with h | h
    .exact n2 j h
    .have:=F.1;lia
   .rw [ao.next,nx,jW,jc,List.length_append,jW,List.length_singleton];exact Ul k) 100 0 (by lia) (Nat.zero_le _) [.ap l,.ref D.length,.u,.u] _ ⟨⟨_,rfl⟩,fR D.length,cy 8,rfl,zn D 8,GH _,rfl,pJ,λj w=>CW w,rfl⟩) λbX al e dh ci=>?_;revert dh;refine d7 λx bl=>?_;subst bl;revert ci;refine rm λo R l4 A bD sh F n2 nx=>?_
 rw [List.take_length] at bD nx;refine ⟨al,o,R,?_,⟨A,bD,sh,F,n2⟩,nx⟩;rw [PD];unfold zX;rw [aF (cc:=[.ap l,.ref D.length,.u,.u]) (hI (H9 _ D)),aF (ja (v:=.ap l) (by simp! only []) rfl e),l4]
 rfl
theorem t4 {ps:List (V×V)} (bD:Good D R ps):R.vs.length<=64:=by
 cases aw:R.pk with
 | true=>have:=(bD.pack aw).2;lia
 | false=>
  refine vC (bD.hash aw) λ_ _ aI _=>?_;have:=bD.cS;rw [aI];simp;lia
theorem C3 (A:a8 D o R) {ps:List (V×V)} (bD:Good D R ps):lq [.ref o.a] D=some (.ap (ps.map aH),D++[.bB]):=by
 have aW:=t4 bD;have fa:∀k,k∈cN R.vs->k < R.vs.length:=λk h=>sT h
 let y:V->V:=λx=>.tup [if R.pk then x else R.ks[(eX x).toNat]?.getD .none,R.vs[(eX x).toNat]?.getD .none]
 have hk:R.pk=false->R.ks.length=R.vs.length/\∀k∈R.ks,ez k=true:=λaw=>by
  refine vC (bD.hash aw) λ_ hk aI _=>?_;refine ⟨by rw [hk,aI];simp,λk aP=>?_⟩;rw [hk] at aP;refine a2 (List.mem_map.mp aP) λp aw aV=>?_;subst aV;exact (bD.key p aw).set
 have comp:=mz (v:=.de 0 (R.vs.length:Int) 1) (l:=gO R.vs.length) (g:=cx 1) (t:=a' (ak hE (H (G 3) (H (G 1) aa)))) (f:=bM (H (bS (eT 316) sk (G 3) (H (G 1) aa)) (H (aT (aN 316 2 (G 3)) (G 1)) aa))) (D:=D) (ρb:=[.u,.u,.u,.ref o.a])
  (λx=>[.u,x,.u,.ref o.a]) (sj R.vs) y (qO _) (λ_ _=>rfl) (λ_ _ _ _=>rfl) (λx ax bi=>by
   refine a2 (sH ax) λk hk aV=>?_;subst aV;have av:=C1 (A.app [az.list bi]) (bD.slot.app _) hk
   simp! only [bu,av,sj,Int.toNat_natCast]) (λx ax _ bi=>by
   refine a2 (sH ax) λk kv aV=>?_;subst aV;have aI:R.vs[k]? =some R.vs[k]:=List.getElem?_eq_getElem kv;have cu:=A.app [az.list bi];have tY:sk [.ref o.a,.int (k:Int)] (D++[az.list bi])=some (if R.pk then .int (k:Int) else R.ks[k]?.getD .none,D++[az.list bi]):=by
    rw [O3];unfold zs
    cases aw:R.pk with
    | true=>simp! only [cu.f0,aw]
    | false=>
     refine cq (hk aw) λaj ao=>?_;have wL:R.ks[k]? =some R.ks[k]:=List.getElem?_eq_getElem (by lia)
     simp! only [cu.f0,aw,cu.f1,item_list cu.k wL,wL,Option.getD_some]
   have jP:([if R.pk then V.int (k:Int) else R.ks[k]?.getD .none,R.vs[k]]:List V).length<=big:=by unfold big;simp
   simp only [bM,H,bS,ff,List.getElem?_cons_zero,List.getElem?_cons_succ,Option.bind_some,ir,cu.ok,if_true,bu,s7,aa,Option.map_some,tY,aT,aN,cu.f2,item_list cu.v aI,jP,y,uv,Int.toNat_natCast,aI,Option.getD_some]) (by rw [jA];unfold big;lia) 100 (by rw [jA];lia)
 have out:((gO R.vs.length).filter (sj R.vs)).map y=ps.map aH:=by
  rw [Jv,List.map_map]
  cases aw:R.pk with
  | true=>
   refine cq (bD.pack aw) λaj _=>?_;rw [aj];unfold gu;rw [List.map_map];refine List.map_congr_left λk hk=>?_;simp only [Function.comp,y,bu,aw,if_true,uv,Int.toNat_natCast,aH]
  | false=>
   refine DR (bD.hash aw) λ_ aj ao sM _=>?_;rw [show (List.range R.vs.length).filter (h1 R.vs)=List.range R.vs.length from Jc sM];have:R.vs.length=ps.length:=by rw [ao];simp
   rw [this];refine List.ext_getElem (by simp) λi eE ky=>?_;simp only [List.getElem_map,List.getElem_range,Function.comp,y,bu,aw,uv,Int.toNat_natCast,aH];simp only [List.length_map,List.length_range] at eE;rw [aj,ao];simp [eE]
 rw [out] at comp;rw [PT];unfold z8;have c:=pZ (i:=ak dX (H (ak bG (H (aN 316 2 (G 0)) aa)) aa)) (pl:=[none,none,none,some 0]) (ag:=[.ref o.a,.u,.u]) (by simp! only [A.f2,len_list A.v,dX]) (qu (by lia)) comp;rw [b6 (c4 c)]
 rfl
theorem VH (A:a8 D o R) {ps:List (V×V)} (bD:Good D R ps):nS [.ref o.a] D=some (.ap ((cN R.vs).map bu),D++[.bB]):=by
 have c:=B6 (i:=ak dX (H (ak bG (H (aN 316 2 (G 0)) aa)) aa)) (pl:=[none,none,none,some 0]) (ag:=[.ref o.a,.u,.u]) A bD.slot (t4 bD) (by simp! only [A.f2,len_list A.v,dX]) rfl;rw [F6];unfold v8;rw [b6 (c4 c)]
 rfl
theorem VR {a4:ee} {bV:d6} {ps sV:List (V×V)} {h:Nat} {Kg:V} {fs:List V} (A:a8 D o R) (bD:Good D R ps) (dK:a8 D a4 bV) (jk:Good D bV sV) (hh:D[h]? =some (.inst 181 (Kg::fs))):
  ∃g,qK [.ref h,.ref o.a,.ref a4.a] D=some (.none,(D++g).set h (.inst 181 (.ref a4.a::fs))):=by
 have av:=VH A bD;have vz:=dK.app [az.bB];have Lr:SL (D++[az.bB]) bV.vs:=jk.slot.app _;have aC:nS [.ref a4.a] (D++[az.bB])=some (.ap ((cN bV.vs).map bu),D++[az.bB]++[.bB]):=by
  have c:=B6 (i:=ak dX (H (ak bG (H (aN 316 2 (G 0)) aa)) aa)) (pl:=[none,none,none,some 0]) (ag:=[.ref a4.a,.u,.u]) vz Lr (t4 jk) (by simp! only [vz.f2,len_list vz.v,dX]) rfl;rw [F6];unfold v8;rw [b6 (c4 c)]
  rfl
 have eP:=vz.app [az.bB];have DN:=(A.app [az.bB]).app [az.bB];have pl:=Wc bV.vs;have fv:=t4 jk;have cP:a1 6 (ak nS (H (G 1) aa)) [.ref h,.ref o.a,.ref a4.a,.int 0,.int 0,.int 0,.u,.u,.u,.u,.u,.u,.u,.u,.u,.u] D=some (.nx,[.ref h,.ref o.a,.ref a4.a,.int 0,.int 0,.int 0,.ap ((cN R.vs).map bu),.u,.u,.u,.u,.u,.u,.u,.u,.u],D++[.bB]):=by
  simp! only [av]
 have dF:a1 7 (aM pe (ak nS (H (G 2) aa)) (ef (H (ak bG (H (aN 316 2 (G 2)) aa)) aa))) [.ref h,.ref o.a,.ref a4.a,.int 0,.int 0,.int 0,.ap ((cN R.vs).map bu),.u,.u,.u,.u,.u,.u,.u,.u,.u] (D++[az.bB])=some (.nx,[.ref h,.ref o.a,.ref a4.a,.int 0,.int 0,.int 0,.ap ((cN R.vs).map bu),.ap ((cN bV.vs).map bu++[.int bV.vs.length]),.u,.u,.u,.u,.u,.u,.u,.u],D++[az.bB]++[az.bB]):=by
  have k5:([V.int (bV.vs.length:Int)]:List V).length<=big:=by unfold big;simp
  have jP:((cN bV.vs).map bu).length+([V.int (bV.vs.length:Int)]:List V).length<=big:=by unfold big;simp;lia
  simp! only [aC,eP.f2,len_list eP.v,k5,pe,v2,jP]
 have h9:e7 (ak p9 (H (aN 316 10 (G 1)) aa)) (cx 8) (af (a1 9 (ak mP (H (G 6) (H (nu (aN 316 10 (G 1)) (G 8)) aa)))) (af (a7 (aD hl (G 9) (G 3)) (af (a1 9 (aM cV (aM eA (ak rX (H (G 9) (H (aM cV (G 3) (G 4)) aa))) (G 4)) (G 5))) aq) aq) (af (kP (aN 316 10 (G 2)) (G 8) (aT (G 7) (ak oB (H (G 9) (H (aM eA (ak bG (H (G 7) aa)) (ab (.int 1))) aa))))) aq))) 100 [.ref h,.ref o.a,.ref a4.a,.int 0,.int 0,.int 0,.ap ((cN R.vs).map bu),.ap ((cN bV.vs).map bu++[.int bV.vs.length]),.u,.u,.u,.u,.u,.u,.u,.u] (D++[az.bB]++[az.bB])=some (.nx,[.ref h,.ref o.a,.ref a4.a,.int 0,.int 0,.int 0,.ap ((cN R.vs).map bu),.ap ((cN bV.vs).map bu++[.int bV.vs.length]),.u,.u,.u,.u,.u,.u,.u,.u],D++[az.bB]++[az.bB]++[.list []]):=by
  refine ja (v:=.ref (D++[az.bB]++[az.bB]).length) (ai:=D++[az.bB]++[az.bB]++[.list []]) (by simp! only [DN.AJ,Gg DN.w]) (wZ (eL _ (.list []))) ?_;exact Gw (n:=99) (Ik (eL _ _) 0)
 have Rl:=jq [az.list []] (jq [az.bB] (jq [az.bB] hh));refine ⟨[az.bB,az.bB,az.list []],?_⟩;rw [PO];unfold z4;rw [aF cP,aF dF,aF h9];have hf:=jp (k:=0) (.ref a4.a) Rl (by simp)
 simp! only [hf]
 simp
noncomputable def hr (D:am) (v:V):Prop:=ck v=true\/v=.hole\/∃(r:Nat) (x:V) (h:Int) (t:V),v=.ref r/\D[r]? =some (.inst 181 [x,.int h,t])/\2<=h
theorem hr.slot {v:V} (h:hr D v):Slot D v:=by
 rcases h with h | h | ⟨r,x,h,t,e,q,_⟩
 .exact .inl h
 .exact .inr (.inl h)
 .exact .inr (.inr ⟨r,_,e,q⟩)
structure e2 (vs:List V) (D al:am):Prop where
 len:D.length<=al.length
 same:∀j,j < D.length->V.ref j∉vs->al[j]? =D[j]?
 up:∀(j:Nat) (x:V) (h:Int) (t:V),V.ref j∈vs->D[j]? =some (.inst 181 [x,.int h,t])->2<=h->∃h',2<=h'/\al[j]? =some (.inst 181 [x,.int h',t])
theorem e2.refl (vs:List V) (D:am):e2 vs D D:=⟨Nat.le_refl _,λ_ _ _=>rfl,λj x h t _ e q=>⟨h,q,e⟩⟩
theorem e2.trans {vs:List V} {D al j7:am} (a:e2 vs D al) (b:e2 vs al j7):e2 vs D j7:=
 ⟨Nat.le_trans a.len b.len,λj aX a3=>(b.same j (Nat.lt_of_lt_of_le aX a.len) a3).trans (a.same j aX a3),λj x h t aP e q=>by
  refine a2 (a.up j x h t aP e q) λh' lz bH=>?_;exact b.up j x h' t aP bH lz⟩
theorem e2.lu {vs:List V} {W:Nat->Prop} {D al:am} (a:Fr W D al) (hw:∀j,j < D.length->¬W j):e2 vs D al:=
 ⟨a.1,λj aX _=>a.2 j aX (hw j aX),λj x h t _ e q=>⟨h,q,a.at e (hw j (fQ e))⟩⟩
theorem e2.slot {vs:List V} (a:e2 vs D al) {v:V} (h:hr D v):hr al v:=by
 rcases h with h | h | ⟨r,x,h,t,e,q,p⟩
 .exact .inl h
 .exact .inr (.inl h)
 .by_cases aP:V.ref r∈vs
  .refine a2 (a.up r x h t aP q p) λh' u8 lz=>?_;exact .inr (.inr ⟨r,x,h',t,e,lz,u8⟩)
  .exact .inr (.inr ⟨r,x,h,t,e,(a.same r (fQ q) aP).trans q,p⟩)
theorem e2.arr {vs:List V} (a:e2 vs D al) (A:a8 D o R) (h:∀j,V.ref j∈vs->∃fs,D[j]? =some (.inst 181 fs)):a8 al o R:=by
 have key:∀j dz,D[j]? =some dz->(∀fs,dz≠az.inst 181 fs)->al[j]? =some dz:=λj dz e n=>by
  by_cases aP:V.ref j∈vs
  .refine cH (h j aP) λfs bH=>?_;rw [e] at bH;revert bH;refine s1 λbd=>?_;subst bd;exact absurd rfl (n fs)
  .exact (a.same j (fQ e) aP).trans e
 exact ⟨key _ _ A.a (λfs q=>by cases q),key _ _ A.k (λfs q=>by cases q),key _ _ A.v (λfs q=>by cases q),key _ _ A.h (λfs q=>by cases q),key _ _ A.n (λfs q=>by cases q),key _ _ A.w (λfs q=>by cases q),A.dA,A.kC,A.fC,A.kR,A.kS,A.a3⟩
theorem hr.refs {vs:List V} (h:∀v∈vs,hr D v) (j:Nat) (aX:V.ref j∈vs):∃fs,D[j]? =some (.inst 181 fs):=by
 rcases h _ aX with h | h | ⟨r,x,h,t,e,q,p⟩
 .cases h
 .cases h
 .cases e;exact ⟨_,q⟩
theorem Vx {x:V} (h:hr D x):∃ai,qF [x] D=some (x,ai)/\e2 [x] D ai:=by
 rcases h with h | h | ⟨r,y,h,t,rfl,q,p⟩
 .refine ⟨D,?_,e2.refl _ _⟩;rw [AA];unfold tR
  simp! only [ny _ 203 rfl,ny _ 181 rfl,wY h,cG (iu h),VJ x h]
 .subst h;refine ⟨D++[.bB],?_,e2.lu (W:=dx) (Fr.app _ _) λ_ _ w=>w⟩;rw [AA];unfold tR;have dW:a' (ak ey (H (G 0) (H (ab (.con (.ref 203))) aa))) [.hole,.u,.u,.u,.u,.u] D=some (true,D):=by simp! only [ny _ 203 rfl,Sx]
  rw [b6 ((dw dW).trans (b6 (c4 (ID _ D))))]
  rfl
 .refine ⟨D.set r (.inst 181 [y,.int (h+1),t]),?_,⟨by simp,λj aX a3=>?_,λj lC h' md aP e lz=>?_⟩⟩
  .have dW:a' (ak ey (H (G 0) (H (ab (.con (.ref 203))) aa))) [.ref r,.u,.u,.u,.u,.u] D=some (false,D):=by
    have:=uB q 203
    simp! only [ny _ 203 rfl,this] <;> rfl
   have fT:a' (ak ey (H (G 0) (H (ab (.con (.ref 181))) aa))) [.ref r,.u,.u,.u,.u,.u] D=some (true,D):=by
    have:=uB q 181
    simp! only [ny _ 181 rfl,this] <;> rfl
   have f1:=gq (k:=1) q rfl (w:=.int h) rfl;have j3:aD eZ (aN 181 1 (G 0)) (ab (.int 1)) [.ref r,.u,.u,.u,.u,.u] D=some (true,D):=by
    have:(1:Int) < h:=by lia
    simp! only [f1,this,decide_true]
   have lP:uT [.ref r] D=some (.ref r,D.set r (.inst 181 [y,.int (h+1),t])):=by
    rw [Py];unfold zU;have fs:=jp (k:=1) (.int (h+1)) q (by simp);have E:l9 181 1 hG (G 0) (ab (.int 1)) [.ref r] D=some (.nx,[.ref r],D.set r (.inst 181 [y,.int (h+1),t])):=by
     simp! only [f1,fs]
    rw [aF E]
    rfl
   rw [AA];unfold tR;have O:H (G 0) aa [.ref r,.u,.u,.u,.u,.u] D=some ([.ref r],D):=by simp! only []
   rw [aF (cc:=[.ref r,.u,.u,.u,.u,.u]) (ai:=D) (ch dW),b6 (cc:=[.ref r,.u,.u,.u,.u,.u]) (v:=.ref r) (ai:=D.set r (.inst 181 [y,.int (h+1),t])) ((dw fT).trans (b6 ((dw j3).trans (b6 (c4 ((eS O).trans lP))))))]
   rfl
  .refine cK λz=>?_;subst z;exact a3 (List.mem_singleton_self _)
  .cases List.mem_singleton.mp aP
   rw [q] at e;cases e;exact ⟨h+1,by lia,gh q⟩
theorem Ok {v:V} {l:List V} {g:f5} {f:bK} {j:Nat} {ρb:List V} (P:am->Prop) (E:V->List V) (h0:∀D k,P D->g3 D v k=some l[k]?)
  (Ba:∀x∈l,g ρb x=some (E x)) (wI:∀x∈l,∀lC∈l,g (E lC) x=some (E x))
  (hf:∀x∈l,∀D bi,P D->D[j]? =some (.list bi)->∃ai,f (E x) D=some (x,ai)/\ai[j]? =some (.list bi)/\P ai)
  (sb:∀D bi lI,P D->D[j]? =some (.list bi)->P (D.set j (.list lI))) (aA:l.length < big) (N:Nat) (d3:l.length < N) (D:am) (dv:P D) (aX:D[j]? =some (.list [])):
  ∃al,iE v g bW f j N 0 ρb D=some al/\al[j]? =some (.list l)/\P al:=by
 have key:∀N k ag bi D,l.length - k < N->k<=l.length->bi=l.take k->(∀x∈l,g ag x=some (E x))->P D->D[j]? =some (.list bi)->∃al,iE v g bW f j N k ag D=some al/\al[j]? =some (.list l)/\P al:=by
  intro N
  induction N with
  | zero=>intro k ag bi D h;lia
  | succ N bJ=>
   intro k ag bi D d3 hk bw cr dv aX;simp only [FD,h0 D k dv,Option.bind_some]
   cases ax:l[k]? with
   | none=>
    rw [List.getElem?_eq_none_iff] at ax;rw [bw,List.take_of_length_le ax] at aX;exact ⟨D,rfl,aX,dv⟩
   | some x=>
    have cY:=(List.getElem?_eq_some_iff.mp ax).1;have aP:=List.mem_of_getElem? ax;refine gk (hf x aP D bi dv aX) λai av nI aE=>?_;have aaL:bi.length=k:=by rw [bw,List.length_take];lia
    simp only [cr x aP,bW,Option.bind_some,if_true,av,ht x nI (by lia)];refine bJ (k+1) _ (bi++[x]) _ (by lia) (by lia) (by rw [bw,List.take_add_one,ax];rfl) (λlC ql=>wI lC ql x aP) (sb ai bi _ aE nI) (gh nI)
 exact key N 0 ρb [] D (by lia) (by lia) (by simp) Ba dv aX
structure Kz (D al:am) (R:d6) (b8:ee) (bo:d6) (ps:List (V×V)):Prop where
 arr:a8 al b8 bo
 good:Good al bo ps
 sh:bo.sh=false
 next:bo.next=R.next
 e6:e2 R.vs D al
 own:∀j,cR b8 j->D.length<=j
theorem e2.set {vs:List V} {fX:am} (a:e2 vs fX D) {j:Nat} (x:az) (aX:fX.length<=j):e2 vs fX (D.set j x):=
 ⟨by simp;exact a.len,λi aJ a3=>(cK (by lia)).trans (a.same i aJ a3),λi y h t aP e q=>by
  refine a2 (a.up i y h t aP e q) λh' lz bH=>?_;exact ⟨h',lz,(cK (by have:=fQ e;lia)).trans bH⟩⟩
theorem e2.app {vs:List V} {fX:am} (a:e2 vs fX D) (g:am):e2 vs fX (D++g):=a.trans (e2.lu (W:=dx) (Fr.app _ _) λ_ _ w=>w)
theorem e2.mono {vs Kq:List V} (a:e2 vs D al) (h:∀v∈vs,v∈Kq):e2 Kq D al:=
 ⟨a.len,λj aX a3=>a.same j aX λm=>a3 (h _ m),λj x z t aP e q=>by
  by_cases m:V.ref j∈vs
  .exact a.up j x z t m e q
  .exact ⟨z,q,(a.same j (fQ e) m).trans e⟩⟩
theorem q2 {C k m:Nat} {fv:bK} {ag:List V} {ai aY:am} {w:V} (aI:fv ag D=some (w,ai)) (aZ:ag[1]? =some (.ref m)) (hs:g0 C k ai (.ref m) w=some aY):bI C k (G 1) fv ag D=some (.nx,ag,aY):=by
 simp only [bI,aI,Option.bind_some,ff,aZ,ir,hs,Option.map_some]
theorem a8.Ws (A:a8 D o R) {j:Nat} (aX:D[j]? =some (.dict [])):a8 (D.set o.a (cf {o with w:=j} R)) {o with w:=j} R:=
 have nJ:o.a≠j:=λq=>by have:=A.a;rw [q,aX] at this;cases this
 ⟨gh A.a,(cK A.rC).trans A.k,(cK A.rD).trans A.v,(cK A.i9).trans A.h,(cK A.an).trans A.n,(cK nJ).trans aX,A.dA,A.kC,A.fC,A.kR,A.kS,A.a3⟩
theorem a8.vc (A:a8 D o R) (j:Nat):g0 316 10 D (.ref o.a) (.ref j)=some (D.set o.a (cf {o with w:=j} R)):=jp _ A.a (by simp)
structure Made (fX D:am) (vs:List V) (o:ee) (R:d6):Prop where
 arr:a8 D o R
 a:o.a=fX.length
 e6:e2 vs fX D
 own:∀j,cR o j->fX.length<=j
theorem Op {fX:am} {vs:List V} (c8:∀v∈vs,hr fX v) (A:a8 fX o R) (aI:R.vs=vs) (aW:vs.length<=64) {xN:ee} {zd:d6} (M:Made fX D vs xN zd) (U:List V):
  ∃al,e' false (aN 316 2 (G 0)) [none,none,none] (cx 1) bW (ak qF (H (G 1) aa)) 100 (.ref o.a::U) D=some (.ref D.length,al)/\al[D.length]? =some (.list vs)/\Made fX al vs xN zd:=by
 have refs:=hr.refs c8;have DM:=M.e6.arr A refs;have aX:∀j,cR xN j->j < D.length:=λj w=>M.arr.lt w;refine vD (Ok (v:=.ref o.v) (l:=vs) (g:=cx 1) (f:=ak qF (H (G 1) aa)) (j:=D.length) (ρb:=[.u,.u,.u]) (λai=>Made fX ai vs xN zd/\D.length < ai.length) (λx=>[.u,x,.u])
  (λai k dv=>by
   have:=(dv.1.e6.arr A refs).v;simp only [Il,my this,Option.map_some,aI]) (λ_ _=>rfl) (λ_ _ _ _=>rfl) (λx ax ai bi dv nD=>by
   have s2:=dv.1.e6.slot (c8 x ax);refine a2 (Vx s2) λaY aC yd=>?_;have mZ:∀j,V.ref j∈[x]->∃fs,ai[j]? =some (.inst 181 fs):=hr.refs λv aI=>by rw [List.mem_singleton.mp aI];exact s2
   have hs:ez x=true:=s2.slot.set;refine ⟨aY,?_,?_,⟨yd.arr dv.1.arr mZ,dv.1.a,dv.1.e6.trans (yd.mono λv aI=>by rw [List.mem_singleton.mp aI];exact ax),dv.1.own⟩,Nat.lt_of_lt_of_le dv.2 yd.len⟩
   .simp! only [cG hs,aC]
   .by_cases aP:V.ref D.length∈[x]
    .refine cH (mZ _ aP) λfs q=>?_;rw [nD] at q;cases q
    .exact (yd.same _ dv.2 aP).trans nD) (λai bi lI dv nD=>by
   refine ⟨⟨dv.1.arr.fr (W:=λj=>j=D.length) (Fr.set _ _ _ rfl) λj w z=>?_,dv.1.a,dv.1.e6.set _ M.e6.len,dv.1.own⟩,by simpa using dv.2⟩;have:=aX j w;lia) (by unfold big;lia) 100 (by lia) (D++[.list []]) ⟨⟨M.arr.app _,M.a,M.e6.app _,M.own⟩,by simp⟩ (eL _ _)) λal e nI LC aaS=>?_
 refine ⟨al,?_,nI,LC⟩;have it:jd D (.ref o.v)=true:=by
  exact wZ DM.v
 have aJ:aN 316 2 (G 0) (.ref o.a::U) D=some (.ref o.v,D):=by simp! only [DM.f2]
 have aZ:gR [none,none,none] (.ref o.a::U)=[.u,.u,.u]:=rfl;simp only [e',aJ,Option.bind_some,it,if_true,aZ,e,fin]
theorem Vy (A:a8 D o R) {ps:List (V×V)} (bD:Good D R ps) (c8:∀v∈R.vs,hr D v):
  ∃al b8 bo,oZ [.ref o.a] D=some (.ref b8.a,al)/\Kz D al R b8 bo ps:=by
 have aW:=t4 bD;have refs:=hr.refs c8;have hb:oR [.ref D.length,.int R.size] (D++[.inst 316 []])=some (.none,D++[cf (fR D.length) (cy R.size),.list [],.list [],.list [],.list [],.dict []]):=by
  rw [O2,Vn R.size D];rfl
 have fY:a1 1 (ak (dO 316 oR) (H (aN 316 5 (G 0)) aa)) [.ref o.a,.u,.u,.u,.u,.u,.u,.u] D=some (.nx,[.ref o.a,.ref D.length,.u,.u,.u,.u,.u,.u],D++[cf (fR D.length) (cy R.size),.list [],.list [],.list [],.list [],.dict []]):=by
  have O:H (aN 316 5 (G 0)) aa [.ref o.a,.u,.u,.u,.u,.u,.u,.u] D=some ([.int R.size],D):=by simp! only [A.gH]
  have:=eS (F:=dO 316 oR) O;exact hI (this.trans (sI hb))
 have ms:Made D (D++[cf (fR D.length) (cy R.size),.list [],.list [],.list [],.list [],.dict []]) R.vs (fR D.length) (cy R.size):=⟨zn D R.size,rfl,e2.lu (W:=dx) (Fr.app _ _) λ_ _ w=>w,λj w=>CW w⟩;generalize (D++[cf (fR D.length) (cy R.size),az.list [],.list [],.list [],.list [],.dict []]:am)=fX at ms fY;generalize fR D.length=o0 at ms;have Kx:=ms.e6.arr A refs;have s0:=ms.arr.s0 R.pk;rw [ms.a] at s0;have cP:=q2 (D:=fX) (fv:=aN 316 0 (G 0)) (ag:=[.ref o.a,.ref D.length,.u,.u,.u,.u,.u,.u]) (by simp! only [Kx.f0]) rfl s0;have jN:Made D (fX.set D.length (cf o0 {cy R.size with pk:=R.pk})) R.vs o0 {cy R.size with pk:=R.pk}:=⟨by rw [<- ms.a];exact ms.arr.mb R.pk (cy R.size).size (cy R.size).count (cy R.size).next (cy R.size).at_ (cy R.size).sh,ms.a,ms.e6.set _ (Nat.le_refl _),ms.own⟩;generalize fX.set D.length (cf o0 {cy R.size with pk:=R.pk})=ai at jN cP;have cu:=jN.e6.arr A refs;have k5:∀j,cR o0 j->j < ai.length:=λj w=>jN.arr.lt w;have Et:=jN.arr.app [az.list R.ks];have s1:g0 316 1 (ai++[az.list R.ks]) (.ref D.length) (.ref ai.length)=some ((ai++[az.list R.ks]:am).set D.length (cf {o0 with k:=ai.length} {cy R.size with pk:=R.pk})):=by
  have h:=Et.s1 ai.length;rw [<- jN.a];exact h
 have dF:=q2 (D:=ai) (fv:=ak lQ (H (aN 316 1 (G 0)) aa)) (ag:=[.ref o.a,.ref D.length,.u,.u,.u,.u,.u,.u]) (by simp! only [cu.f1,Qj cu.k]) rfl s1;have e5:ai.length≠o0.v:=by have:=k5 o0.v (.inr (.inr (.inl rfl)));lia
 have eY:ai.length≠o0.h:=by have:=k5 o0.h (.inr (.inr (.inr (.inl rfl))));lia
 have nY:ai.length≠o0.n:=by have:=k5 o0.n (.inr (.inr (.inr (.inr (.inl rfl)))));lia
 have tG:Made D ((ai++[az.list R.ks]:am).set D.length (cf {o0 with k:=ai.length} {cy R.size with pk:=R.pk})) R.vs {o0 with k:=ai.length} {cy R.size with pk:=R.pk,ks:=R.ks}:=
  ⟨by rw [<- jN.a];exact Et.Dg (eL _ _) e5 eY nY,jN.a,(jN.e6.app _).set _ (Nat.le_refl _),λj w=>by
   rcases w with w | w | w | w | w | w
   .exact jN.own j (.inl w)
   .dsimp only at w;rw [w];exact jN.e6.len
   .exact jN.own j (.inr (.inr (.inl w)))
   .exact jN.own j (.inr (.inr (.inr (.inl w))))
   .exact jN.own j (.inr (.inr (.inr (.inr (.inl w)))))
   .exact jN.own j (.inr (.inr (.inr (.inr (.inr w)))))⟩
 generalize (ai++[az.list R.ks]:am).set D.length (cf {o0 with k:=ai.length} {cy R.size with pk:=R.pk})=aY at tG dF;generalize ({o0 with k:=ai.length}:ee)=a4 at tG;refine gk (Op c8 A rfl aW tG [.ref D.length,.u,.u,.u,.u,.u,.u]) λa6 bN SK lG=>?_;have jP:∀j,cR a4 j->j < aY.length:=λj w=>tG.arr.lt w;have s2:g0 316 2 a6 (.ref D.length) (.ref aY.length)=some (a6.set D.length (cf {a4 with v:=aY.length} {cy R.size with pk:=R.pk,ks:=R.ks})):=by
  have h:=lG.arr.s2 aY.length;rw [<- lG.a];exact h
 have h9:=q2 bN rfl s2;have Ct:aY.length≠a4.k:=by have:=jP a4.k (.inr (.inl rfl));lia
 have Cu:aY.length≠a4.h:=by have:=jP a4.h (.inr (.inr (.inr (.inl rfl))));lia
 have sK:aY.length≠a4.n:=by have:=jP a4.n (.inr (.inr (.inr (.inr (.inl rfl)))));lia
 have mu:Made D (a6.set D.length (cf {a4 with v:=aY.length} {cy R.size with pk:=R.pk,ks:=R.ks})) R.vs {a4 with v:=aY.length} {cy R.size with pk:=R.pk,ks:=R.ks,vs:=R.vs}:=
  ⟨by rw [<- lG.a];exact lG.arr.Jq SK Ct Cu sK,lG.a,lG.e6.set _ (Nat.le_refl _),λj w=>by
   rcases w with w | w | w | w | w | w
   .exact lG.own j (.inl w)
   .exact lG.own j (.inr (.inl w))
   .dsimp only at w;rw [w];exact tG.e6.len
   .exact lG.own j (.inr (.inr (.inr (.inl w))))
   .exact lG.own j (.inr (.inr (.inr (.inr (.inl w)))))
   .exact lG.own j (.inr (.inr (.inr (.inr (.inr w)))))⟩
 generalize a6.set D.length (cf {a4 with v:=aY.length} {cy R.size with pk:=R.pk,ks:=R.ks})=bQ at mu h9;generalize ({a4 with v:=aY.length}:ee)=iT at mu;have m7:=mu.e6.arr A refs;have j0:=mu.arr.j0 R.count;rw [mu.a] at j0;have jK:=q2 (D:=bQ) (fv:=aN 316 6 (G 0)) (ag:=[.ref o.a,.ref D.length,.u,.u,.u,.u,.u,.u]) (by simp! only [m7.gZ]) rfl j0;have nd:Made D (bQ.set D.length (cf iT {cy R.size with pk:=R.pk,ks:=R.ks,vs:=R.vs,count:=R.count})) R.vs iT {cy R.size with pk:=R.pk,ks:=R.ks,vs:=R.vs,count:=R.count}:=⟨by rw [<- mu.a];exact mu.arr.mb R.pk R.size R.count jY 0 false,mu.a,mu.e6.set _ (Nat.le_refl _),mu.own⟩;generalize bQ.set D.length (cf iT {cy R.size with pk:=R.pk,ks:=R.ks,vs:=R.vs,count:=R.count})=dZ at nd jK;have tr:=nd.e6.arr A refs;have kO:=nd.arr.kO R.next;rw [nd.a] at kO;have ri:=q2 (D:=dZ) (fv:=aN 316 7 (G 0)) (ag:=[.ref o.a,.ref D.length,.u,.u,.u,.u,.u,.u]) (by simp! only [tr.mB]) rfl kO;have nf:Made D (dZ.set D.length (cf iT {cy R.size with pk:=R.pk,ks:=R.ks,vs:=R.vs,count:=R.count,next:=R.next})) R.vs iT {cy R.size with pk:=R.pk,ks:=R.ks,vs:=R.vs,count:=R.count,next:=R.next}:=⟨by rw [<- nd.a];exact nd.arr.mb R.pk R.size R.count R.next 0 false,nd.a,nd.e6.set _ (Nat.le_refl _),nd.own⟩;generalize dZ.set D.length (cf iT {cy R.size with pk:=R.pk,ks:=R.ks,vs:=R.vs,count:=R.count,next:=R.next})=dJ at nf ri;have iy:=nf.e6.arr A refs;have iX:=nf.arr.iX 0;rw [nf.a] at iX;have hx:cn (aD oLt (aN 316 8 (G 0)) (ak bG (H (aN 316 2 (G 0)) aa))) (aN 316 8 (G 0)) (ak qJ (H (G 0) (H (ab (.int 0)) aa))) [.ref o.a,.ref D.length,.u,.u,.u,.u,.u,.u] dJ=some (.int 0,dJ):=by
  by_cases h0:(0:Int) < (R.vs.length:Int)
  .simp! only [iy.f8,bD.nj,iy.f2,len_list iy.v,h0,decide_true]
  .have hz:(R.vs.length:Int)=0:=by lia
   have ls:qJ [.ref o.a,.int 0] dJ=some (.int 0,dJ):=by
    rw [PL];unfold z2;have W:g4 (bp (aD oLt (G 1) (ak bG (H (aN 316 2 (G 0)) aa))) (bp (ek (a' (ak hE (H (G 0) (H (G 1) aa))))) bW)) (af (a1 1 (aM hG (G 1) (ab (.int 1)))) aq) 100 [.ref o.a,.int 0,.u,.u,.u] dJ=some (.nx,[.ref o.a,.int 0,.u,.u,.u],dJ):=by
     exact aaf (n:=99) (by simp! only [iy.f2,len_list iy.v,h0,decide_false])
    have c:¬((0:Int) < 0):=by decide
    rw [aF W]
    simp! only [iy.f2,len_list iy.v,hz,Gi,c]
   simp! only [iy.f8,bD.nj,iy.f2,len_list iy.v,h0,decide_false,ls]
 have m8:=q2 hx rfl iX;have ke:Made D (dJ.set D.length (cf iT {cy R.size with pk:=R.pk,ks:=R.ks,vs:=R.vs,count:=R.count,next:=R.next})) R.vs iT {cy R.size with pk:=R.pk,ks:=R.ks,vs:=R.vs,count:=R.count,next:=R.next}:=⟨by rw [<- nf.a];exact nf.arr.mb R.pk R.size R.count R.next 0 false,nf.a,nf.e6.set _ (Nat.le_refl _),nf.own⟩;have DZ:bI 316 8 (G 1) (cn (aD oLt (aN 316 8 (G 0)) (ak bG (H (aN 316 2 (G 0)) aa))) (aN 316 8 (G 0)) (ak qJ (H (G 0) (H (ab (.int 0)) aa)))) [.ref o.a,.ref D.length,.u,.u,.u,.u,.u,.u] dJ=some (.nx,[.ref o.a,.ref D.length,.u,.u,.u,.u,.u,.u],dJ.set D.length (cf iT {cy R.size with pk:=R.pk,ks:=R.ks,vs:=R.vs,count:=R.count,next:=R.next})):=m8;generalize dJ.set D.length (cf iT {cy R.size with pk:=R.pk,ks:=R.ks,vs:=R.vs,count:=R.count,next:=R.next})=e8 at ke DZ;have mn:=ke.e6.arr A refs;have Eu:=ke.arr.app [az.dict []];have vc:g0 316 10 (e8++[az.dict []]) (.ref D.length) (.ref e8.length)=some ((e8++[az.dict []]:am).set D.length (cf {iT with w:=e8.length} {cy R.size with pk:=R.pk,ks:=R.ks,vs:=R.vs,count:=R.count,next:=R.next})):=by
  have h:=Eu.vc e8.length;rw [<- ke.a];exact h
 have rj:=q2 (D:=e8) (fv:=ak t1 (H (aN 316 10 (G 0)) aa)) (ag:=[.ref o.a,.ref D.length,.u,.u,.u,.u,.u,.u]) (by simp! only [mn.AJ,Qh mn.w]) rfl vc;have f6:Made D ((e8++[az.dict []]:am).set D.length (cf {iT with w:=e8.length} {cy R.size with pk:=R.pk,ks:=R.ks,vs:=R.vs,count:=R.count,next:=R.next})) R.vs {iT with w:=e8.length} {cy R.size with pk:=R.pk,ks:=R.ks,vs:=R.vs,count:=R.count,next:=R.next}:=
  ⟨by rw [<- ke.a];exact Eu.Ws (eL _ _),ke.a,(ke.e6.app _).set _ (Nat.le_refl _),λj w=>by
   rcases w with w | w | w | w | w | w
   .exact ke.own j (.inl w)
   .exact ke.own j (.inr (.inl w))
   .exact ke.own j (.inr (.inr (.inl w)))
   .exact ke.own j (.inr (.inr (.inr (.inl w))))
   .exact ke.own j (.inr (.inr (.inr (.inr (.inl w)))))
   .dsimp only at w;rw [w];exact ke.e6.len⟩
 generalize (e8++[az.dict []]:am).set D.length (cf {iT with w:=e8.length} {cy R.size with pk:=R.pk,ks:=R.ks,vs:=R.vs,count:=R.count,next:=R.next})=jI at f6 rj;generalize ({iT with w:=e8.length}:ee)=Im at f6;have run:∀dS:Option (V×am),outF (af (a7 (ek (a' (aN 316 0 (G 1)))) (af (b9 (ak o5 (H (G 1) aa))) aq) aq) (af (aR (G 1)) aq) [.ref o.a,.ref D.length,.u,.u,.u,.u,.u,.u] jI)=dS->oZ [.ref o.a] D=dS:=λdS h=>by
  rw [Pt];unfold zQ;rw [aF fY,aF cP,aF dF,aF h9,aF jK,aF ri,aF DZ,aF rj];exact h
 have Dr:SL jI R.vs:=λv aI=>(f6.e6.slot (c8 v aI)).slot
 cases aw:R.pk with
 | true=>
  rw [aw] at f6;refine cq (bD.pack aw) λic gr=>?_;refine ⟨jI,Im,_,run _ ?_,f6.arr,⟨bD.cnt,rfl,bD.key,Dr,bD.cS,λ_=>⟨ic,gr⟩,λh=>by cases h⟩,rfl,rfl,f6.e6,f6.own⟩;have f0:=f6.arr.f0;rw [f6.a] at f0;have dW:ek (a' (aN 316 0 (G 1))) [.ref o.a,.ref D.length,.u,.u,.u,.u,.u,.u] jI=some (false,jI):=by simp! only [f0]
  rw [aF (cc:=[.ref o.a,.ref D.length,.u,.u,.u,.u,.u,.u]) (ai:=jI) (ch dW),f6.a]
  rfl
 | false=>
  rw [aw] at f6;refine yL (bD.hash aw) λic gr rZ t8 GA GB aaI=>?_;have C5:=Jc t8;refine yO (IV f6.arr Dr (by dsimp only;rw [gr,rZ];simp) (λx ax=>by
   dsimp only at ax;rw [gr] at ax;refine a2 (List.mem_map.mp ax) λp aw aV=>?_;subst aV;exact bD.key p aw) rfl (z:=R.size.toNat) (by show R.size=_;lia) (by lia) (by lia) aW) λtn k v h n iL nx p4 yH c6 dt hH vI k7 iD E9 E'=>?_
  have cz:((cN R.vs).map λk=>R.ks[k]?.getD .none)=R.ks:=by
   rw [C5,show R.vs.length=R.ks.length from by rw [gr,rZ];simp];exact Df _ _
  have dB:((cN R.vs).map λk=>R.vs[k]?.getD .none)=R.vs:=by rw [C5];exact Df _ _
  have lj:(cN R.vs).length=R.vs.length:=by rw [C5];simp
  dsimp only at yH c6 hH;rw [cz,dB] at yH;rw [lj] at c6 hH;have WJ:e2 R.vs D tn:=⟨Nat.le_trans f6.e6.len vI.1,λj aX a3=>(vI.2 j (Nat.lt_of_lt_of_le aX f6.e6.len) λw=>by have:=f6.own j w;lia).trans (f6.e6.same j aX a3),λj x h t aP e q=>by
   refine a2 (f6.e6.up j x h t aP e q) λh' lz bH=>?_;exact ⟨h',lz,vI.at bH (f6.arr.iS j _ bH)⟩⟩
  refine ⟨tn,_,_,run _ ?_,yH,⟨bD.cnt,rfl,bD.key,λv aI=>iZ (Dr v aI) vI f6.arr.iS,bD.cS,(λh=>by cases h),λ_=>⟨ic,gr,rZ,t8,c6,(by dsimp only;rw [dt];show _=R.size;lia),hH⟩⟩,rfl,rfl,WJ,λj w=>?_⟩
  .have f0:=f6.arr.f0;rw [f6.a] at f0 p4;have dW:ek (a' (aN 316 0 (G 1))) [.ref o.a,.ref D.length,.u,.u,.u,.u,.u,.u] jI=some (true,jI):=by simp! only [f0]
   have O:H (G 1) aa [.ref o.a,.ref D.length,.u,.u,.u,.u,.u,.u] jI=some ([.ref D.length],jI):=by simp! only []
   rw [aF (cc:=[.ref o.a,.ref D.length,.u,.u,.u,.u,.u,.u]) (ai:=tn) ((dw dW).trans (aF (fP ((eS O).trans p4))))];show _=some (V.ref Im.a,tn);rw [f6.a]
   rfl
  .have:=f6.e6.len;rcases w with w | w | w | w | w | w
   .exact f6.own j (.inl w)
   .dsimp only at w;lia
   .dsimp only at w;lia
   .dsimp only at w;lia
   .dsimp only at w;lia
   .exact f6.own j (.inr (.inr (.inr (.inr (.inr w)))))
end
section
open PySem
variable {D al:am}
theorem Sc:∀n:Fin 8,∀a:Fin 8,a.val<=n.val->nM (some (a.val:Int)) none n.val=(List.range n.val).drop a.val:=by decide
theorem C7 {aS:Type} (l:List aS) (f':List Nat) (h:∀i∈f',i < l.length):(f'.filterMap (l[·]?))=f'.pmap (λi aJ=>l[i]'aJ) h:=by
 induction f' with
 | nil=>rfl
 | cons i f' bJ=>
  have aJ:=h i (List.mem_cons_self ..);simp only [List.filterMap_cons,List.getElem?_eq_getElem aJ,List.pmap_cons];rw [bJ]
theorem V4 {aS:Type} (l:List aS) (a:Nat):((List.range l.length).drop a).filterMap (l[·]?)=l.drop a:=by
 have h0:(List.range l.length).filterMap (l[·]?)=l:=by
  rw [C7 l _ (λi aJ=>List.mem_range.mp aJ)];refine List.ext_getElem (by simp) λi aj ao=>by simp
 have aj:∀(f':List Nat) (h:∀i∈f',i < l.length) (a:Nat),(f'.drop a).filterMap (l[·]?)=(f'.filterMap (l[·]?)).drop a:=λf' h a=>by
  rw [C7 l f' h,C7 l (f'.drop a) (λi aJ=>h i (List.mem_of_mem_drop aJ))];refine List.ext_getElem (by simp) λi aj ao=>by simp
 rw [aj _ (λi aJ=>List.mem_range.mp aJ),h0]
theorem HQ {l:List V} {a:Nat} (aW:l.length<=7) (bw:a<=l.length):fG l (some (a:Int)) none=l.drop a:=by
 unfold fG;rw [Sc ⟨l.length,by lia⟩ ⟨a,by lia⟩ bw];exact V4 l a
structure Ord (N:Nat) (W:Nat->Prop) (host rule told:V) (items:List V) (rk:V->Int) (I I1:am->Prop):Prop where
 s1:ez host=true
 s2:ez rule=true
 s3:ez told=true
 n7:∀D al,I D->Fr (λj=>N<=j) D al->I al
 j2:∀D al,I1 D->Fr (λj=>N<=j) D al->I1 al
 sub:∀D,I1 D->I D
 low:∀j,W j->j < N
 set:∀x∈items,ez x=true
 cmp:∀D x y,I D->x∈items->y∈items->∃z al,lY [host,rule,x,y,told] D=some (.int z,al)/\(0 < z↔rk y < rk x)/\I1 al/\Fr W D al
theorem T6 (rk:V->Int) {l r:List V} (h:l=[]\/r=[]):fb rk l r=l++r:=by
 rcases h with rfl | rfl
 .rw [Ie];rfl
 .rw [uV,List.append_nil]
theorem VL {N:Nat} {W:Nat->Prop} {host rule told:V} {items:List V} {rk:V->Int} {I I1:am->Prop} (dc:Ord N W host rule told items rk I I1) {l r:List V} (aW:∀x∈l,x∈items) (aZ:∀x∈r,x∈items) (cS:l.length+r.length<=7) (kt:I D) (d3:N<=D.length):
  ∃al,qI [host,.ap l,.ap r,rule,told] D=some (.ap (fb rk l r),al)/\I al/\(l≠[]->r≠[]->I1 al)/\(I1 D->I1 al)/\Fr W D al:=by
 have aaz:∀j,W j->¬D.length<=j:=λj w=>by have:=dc.low j w;lia
 refine hn (vw (t:=bp (aD oLt (G 6) (ak bG (H (G 1) aa))) (bp (aD oLt (G 7) (ak bG (H (G 2) aa))) bW))
  (f:=af (a7 (aD eZ (ak lY (H (G 0) (H (G 3) (H (aT (G 1) (G 6)) (H (aT (G 2) (G 7)) (H (G 4) aa)))))) (ab (.int 0))) (af (b9 (bS c2 c0 (G 5) (H (aT (G 2) (G 7)) aa))) (af (a1 7 (aM hG (G 7) (ab (.int 1)))) aq)) (af (b9 (bS c2 c0 (G 5) (H (aT (G 1) (G 6)) aa))) (af (a1 6 (aM hG (G 6) (ab (.int 1)))) aq))) aq)
  (λn ag ai=>∃(a b:Nat) (bi:List V),ag=[host,.ap l,.ap r,rule,told,.ref D.length,.int (a:Int),.int (b:Int),.u,.u]/\a<=l.length/\b<=r.length/\ai[D.length]? =some (.list bi)/\bi++fb rk (l.drop a) (r.drop b)=fb rk l r/\I ai/\((0 < a\/0 < b)->I1 ai)/\(I1 D->I1 ai)/\Fr W D ai/\bi.length=a+b/\n=l.length+r.length - (a+b))
  (λag ai=>∃(a b:Nat) (bi:List V),ag=[host,.ap l,.ap r,rule,told,.ref D.length,.int (a:Int),.int (b:Int),.u,.u]/\a<=l.length/\b<=r.length/\ai[D.length]? =some (.list bi)/\bi++fb rk (l.drop a) (r.drop b)=fb rk l r/\I ai/\((0 < a\/0 < b)->I1 ai)/\(I1 D->I1 ai)/\Fr W D ai/\bi.length=a+b/\(a=l.length\/b=r.length)) (λn ag ai dv=>by
   revert dv;refine D9 λa b bi dh bw aA aX aP oH aj ao F fa a3=>?_;subst dh
   by_cases k7:a < l.length
   .by_cases iD:b < r.length
    .right;right
     have c6:((a:Int) < (l.length:Int)):=by lia
     have dt:((b:Int) < (r.length:Int)):=by lia
     have ic:l[a]? =some l[a]:=List.getElem?_eq_getElem k7;have gr:r[b]? =some r[b]:=List.getElem?_eq_getElem iD;have qB:=aW _ (List.getElem_mem k7);have qC:=aZ _ (List.getElem_mem iD);refine fj (dc.cmp ai l[a] r[b] oH qB qC) λz aY aC hz jr eR=>?_;have il:aY[D.length]? =some (.list bi):=eR.at aX λw=>by have:=dc.low _ w;lia
     have dW:bp (aD oLt (G 6) (ak bG (H (G 1) aa))) (bp (aD oLt (G 7) (ak bG (H (G 2) aa))) bW) [host,.ap l,.ap r,rule,told,.ref D.length,.int (a:Int),.int (b:Int),.u,.u] ai=some (true,ai):=by
      simp! only [jn,c6,dt,decide_true]
     have eK:l.drop a=l[a]::l.drop (a+1):=List.drop_eq_getElem_cons k7;have fO:r.drop b=r[b]::r.drop (b+1):=List.drop_eq_getElem_cons iD;have F':ak lY (H (G 0) (H (G 3) (H (aT (G 1) (G 6)) (H (aT (G 2) (G 7)) (H (G 4) aa))))) [host,.ap l,.ap r,rule,told,.ref D.length,.int (a:Int),.int (b:Int),.u,.u] ai=some (.int z,aY):=by
      simp! only [cG dc.s1,cG dc.s2,cG dc.s3,iN ic,iN gr,aC]
     by_cases bj:0 < z
     .have dR:aD eZ (ak lY (H (G 0) (H (G 3) (H (aT (G 1) (G 6)) (H (aT (G 2) (G 7)) (H (G 4) aa)))))) (ab (.int 0)) [host,.ap l,.ap r,rule,told,.ref D.length,.int (a:Int),.int (b:Int),.u,.u] ai=some (true,aY):=by
       simp only [aD,a',aM,F',Option.bind_some,ab,CH,bj,decide_true,Option.map_some,n9]
      refine ⟨ai,[host,.ap l,.ap r,rule,told,.ref D.length,.int (a:Int),.int ((b+1:Nat):Int),.u,.u],aY.set D.length (.list (bi++[r[b]])),n - 1,dW,?_,by lia,a,b+1,bi++[r[b]],rfl,bw,iD,gh il,?_,?_,λ_=>?_,λ_=>?_,?_,by simp;lia,by lia⟩
      .have cP:b9 (bS c2 c0 (G 5) (H (aT (G 2) (G 7)) aa)) [host,.ap l,.ap r,rule,told,.ref D.length,.int (a:Int),.int (b:Int),.u,.u] aY=some (.nx,[host,.ap l,.ap r,rule,told,.ref D.length,.int (a:Int),.int (b:Int),.u,.u],aY.set D.length (.list (bi++[r[b]]))):=by
        simp! only [ip il,iN gr,ht r[b] il (by unfold big;lia)]
       exact aF ((dw dR).trans (aF cP))
      .rw [<- aP,eK,fO,o8,if_pos (hz.mp bj),<- eK,List.append_assoc];rfl
      .exact dc.n7 _ _ (dc.sub _ jr) (Fr.set _ _ _ d3)
      .exact dc.j2 _ _ jr (Fr.set _ _ _ d3)
      .exact dc.j2 _ _ jr (Fr.set _ _ _ d3)
      .exact (F.t eR).trans (Fr.set (W:=λj=>j=D.length) aY _ _ rfl) (λ_ w=>w) λj aX w=>absurd w (by lia)
     .have dR:aD eZ (ak lY (H (G 0) (H (G 3) (H (aT (G 1) (G 6)) (H (aT (G 2) (G 7)) (H (G 4) aa)))))) (ab (.int 0)) [host,.ap l,.ap r,rule,told,.ref D.length,.int (a:Int),.int (b:Int),.u,.u] ai=some (false,aY):=by
       simp only [aD,a',aM,F',Option.bind_some,ab,CH,bj,decide_false,Option.map_some,n9]
      refine ⟨ai,[host,.ap l,.ap r,rule,told,.ref D.length,.int ((a+1:Nat):Int),.int (b:Int),.u,.u],aY.set D.length (.list (bi++[l[a]])),n - 1,dW,?_,by lia,a+1,b,bi++[l[a]],rfl,k7,aA,gh il,?_,?_,λ_=>?_,λ_=>?_,?_,by simp;lia,by lia⟩
      .have cP:b9 (bS c2 c0 (G 5) (H (aT (G 1) (G 6)) aa)) [host,.ap l,.ap r,rule,told,.ref D.length,.int (a:Int),.int (b:Int),.u,.u] aY=some (.nx,[host,.ap l,.ap r,rule,told,.ref D.length,.int (a:Int),.int (b:Int),.u,.u],aY.set D.length (.list (bi++[l[a]]))):=by
        simp! only [ip il,iN ic,ht l[a] il (by unfold big;lia)]
       exact aF ((ch dR).trans (aF cP))
      .rw [<- aP,eK,fO,o8,if_neg (λq=>bj (hz.mpr q)),<- fO,List.append_assoc];rfl
      .exact dc.n7 _ _ (dc.sub _ jr) (Fr.set _ _ _ d3)
      .exact dc.j2 _ _ jr (Fr.set _ _ _ d3)
      .exact dc.j2 _ _ jr (Fr.set _ _ _ d3)
      .exact (F.t eR).trans (Fr.set (W:=λj=>j=D.length) aY _ _ rfl) (λ_ w=>w) λj aX w=>absurd w (by lia)
    .left
     have Q8:b=r.length:=by lia
     refine ⟨ai,?_,a,b,bi,rfl,bw,aA,aX,aP,oH,aj,ao,F,fa,.inr Q8⟩;have c6:((a:Int) < (l.length:Int)):=by lia
     have dt:¬((b:Int) < (r.length:Int)):=by lia
     simp! only [jn,c6,dt,decide_true,decide_false]
   .left
    have Q4:a=l.length:=by lia
    refine ⟨ai,?_,a,b,bi,rfl,bw,aA,aX,aP,oH,aj,ao,F,fa,.inl Q4⟩;have c6:¬((a:Int) < (l.length:Int)):=by lia
    simp! only [jn,c6,decide_false]) 100 (l.length+r.length) (by lia) [host,.ap l,.ap r,rule,told,.ref D.length,.int 0,.int 0,.u,.u] (D++[.list []])
   ⟨0,0,[],rfl,Nat.zero_le _,Nat.zero_le _,eL _ _,by simp,dc.n7 _ _ kt (Fr.app _ _),λh=>by lia,λh=>dc.j2 _ _ h (Fr.app _ _),Fr.app _ _,rfl,by simp⟩) λbX aY e ci=>?_;revert ci;refine D9 λa b bi dh bw aA aX G9 jr aj ao F fa GR=>?_;subst dh
 refine ⟨aY,?_,jr,λe5 eY=>aj ?_,ao,F⟩
 .rw [PH];unfold z1;rw [aF (cc:=[host,.ap l,.ap r,rule,told,.ref D.length,.u,.u,.u,.u]) (ai:=D++[.list []]) rfl,aF (cc:=[host,.ap l,.ap r,rule,told,.ref D.length,.int 0,.int 0,.u,.u]) (ai:=D++[.list []]) rfl,aF e];have n3:fG l (some (a:Int)) none=l.drop a:=HQ (by lia) bw;have dP:fG r (some (b:Int)) none=r.drop b:=HQ (by lia) aA;have Td:(l.drop a).length<=big:=by unfold big;simp;lia
  have fh:(r.drop b).length<=big:=by unfold big;simp;lia
  have B2:bi.length+(l.drop a).length<=big:=by unfold big;simp;lia
  have ld:(bi++l.drop a).length+(r.drop b).length<=big:=by unfold big;simp;lia
  have fin:fb rk (l.drop a) (r.drop b)=l.drop a++r.drop b:=T6 rk (by
   rcases GR with h | h
   .left;rw [h];simp
   .right;rw [h];simp)
  rw [fin,<- List.append_assoc] at G9
  simp! only [kn,my aX,pe,n3,dP,Td,fh,B2,ld,G9,show fx aY (.ap l)=some l from rfl,show fx aY (.ap r)=some r from rfl,show ∀x,fx aY (.ap x)=some x from λ_=>rfl]
 .have:=List.length_pos_iff.mpr e5;have:=List.length_pos_iff.mpr eY;rcases GR with h | h
  .left;lia
  .right;lia
noncomputable def gN {aS:Type} (f:aS->aS->aS):List aS->List aS
 | a::b::t=>f a b::gN f t
 | l=>l
theorem u' {aS:Type} (f:aS->aS->aS) (a b:aS) (t:List aS):gN f (a::b::t)=f a b::gN f t:=rfl
theorem xS {aS:Type} (f:aS->aS->aS):gN f []=[]:=rfl
theorem xR {aS:Type} (f:aS->aS->aS) (a:aS):gN f [a]=[a]:=rfl
theorem Jg {aS:Type} (f:aS->aS->aS) (d:aS):∀rs:List aS,gN f rs=(List.range (rs.length / 2)).map (λi=>f (rs[2 * i]?.getD d) (rs[2 * i+1]?.getD d))++(if rs.length % 2=1 then [rs[rs.length - 1]?.getD d] else [])
 | []=>by simp [xS]
 | [a]=>by simp [xR]
 | a::b::t=>by
  have bJ:=Jg f d t;have aj:(a::b::t).length / 2=t.length / 2+1:=by simp;lia
  have ao:(a::b::t).length % 2=t.length % 2:=by simp;lia
  rw [aj,ao,List.range_succ_eq_map,List.map_cons,List.map_map];simp only [u',List.cons_append];rw [bJ];congr 1;congr 1
  by_cases q:t.length % 2=1
  .have:(a::b::t).length - 1=(t.length - 1)+2:=by simp;lia
   rw [if_pos q,if_pos q,this];rfl
  .rw [if_neg q,if_neg q]
theorem C9 {aS:Type} (f:aS->aS->aS):∀rs:List aS,(gN f rs).length=(rs.length+1) / 2
 | []=>by simp [xS]
 | [a]=>by simp [xR]
 | a::b::t=>by
  have bJ:=C9 f t;simp only [u',List.length_cons,bJ];lia
theorem Ji (rk:V->Int):∀bZ:List (List V),gN (fb rk) (bZ.map (co rk))=(gN (· ++·) bZ).map (co rk)
 | []=>by simp [xS]
 | [a]=>by simp [xR]
 | a::b::t=>by
  simp only [List.map_cons,u'];rw [Ji rk t,T7]
theorem Jh {aS:Type}:∀bZ:List (List aS),(gN (· ++·) bZ).flatten=bZ.flatten
 | []=>by simp [xS]
 | [a]=>by simp [xR]
 | a::b::t=>by
  simp only [u',List.flatten_cons];rw [Jh t,List.append_assoc]
theorem Jj {aS:Type}:∀bZ:List (List aS),(∀b∈bZ,b≠[])->∀b∈gN (· ++·) bZ,b≠[]
 | [],h=>h
 | [a],h=>h
 | a::b::t,h=>λc bj=>by
  simp only [u'] at bj;rcases List.mem_cons.mp bj with rfl | bj
  .have:=h a (List.mem_cons_self ..);intro q;exact this (List.append_eq_nil_iff.mp q).1
  .exact Jj t (λx ax=>h x (List.mem_cons_of_mem _ (List.mem_cons_of_mem _ ax))) c bj
theorem YT (n:Nat):Builtin.Range.rangeSize 0 ((n:Int) - 1) 2=((n / 2:Nat):Int):=by
 unfold Builtin.Range.rangeSize;split
 .split <;> lia
 .lia
noncomputable def pm (m:Nat):List V:=(List.range m).map λ(k:Nat)=>V.int (2 * (k:Int))
theorem Uw (n:Nat) (D:am) (k:Nat):g3 D (.de 0 ((n:Int) - 1) 2) k=some (pm (n / 2))[k]? :=by
 simp only [Uv,YT,pm,List.getElem?_map]
 by_cases hk:k < n / 2
 .rw [if_pos (by lia),List.getElem?_range hk];simp
 .rw [if_neg (by lia),List.getElem?_eq_none (by simp;lia)];rfl
theorem JT {n:Nat} (h:n<=100):∀D:am,jd D (.de 0 ((n:Int) - 1) 2)=true:=λD=>by
 have:∀k:Fin 101,Builtin.Range.small 0 ((k.val:Int) - 1) 2=true:=by decide
 exact Hz (this ⟨n,by lia⟩) D
noncomputable def dd (rs:List (List V)):List V:=rs.map V.ap
theorem VM {N:Nat} {W:Nat->Prop} {host rule told:V} {items:List V} {rk:V->Int} {I I1:am->Prop} (dc:Ord N W host rule told items rk I I1) {rs:List (List V)} (aP:∀r∈rs,∀x∈r,x∈items) (fB:∀r∈rs,r≠[]) (cS:rs.flatten.length<=7) (fr:rs.length<=7) (kt:I D) (d3:N<=D.length):
  ∃al,sx [host,.ap (dd rs),rule,told] D=some (.ap (dd (gN (fb rk) rs)),al)/\I al/\(2<=rs.length->I1 al)/\(I1 D->I1 al)/\Fr W D al:=by
 have get:∀k,k < rs.length->(dd rs)[k]? =some (.ap (rs[k]?.getD [])):=λk hk=>by
  unfold dd;rw [List.getElem?_map,List.getElem?_eq_getElem hk];rfl
 have mem:∀k,k < rs.length->rs[k]?.getD []∈rs:=λk hk=>by rw [List.getElem?_eq_getElem hk];exact List.getElem_mem hk
 have two:∀k,2 * k+1 < rs.length->(rs[2 * k]?.getD []).length+(rs[2 * k+1]?.getD []).length<=7:=λk hk=>by
  have aj:rs=rs.take (2 * k)++(rs[2 * k]?.getD [])::(rs[2 * k+1]?.getD [])::rs.drop (2 * k+2):=by
   rw [List.getElem?_eq_getElem (by lia),List.getElem?_eq_getElem hk,Option.getD_some,Option.getD_some];rw [<- List.drop_eq_getElem_cons hk,<- List.drop_eq_getElem_cons (by lia),List.take_append_drop]
  have ao:=congrArg (λl=>(List.flatten l).length) aj;simp only [List.flatten_append,List.flatten_cons,List.length_append] at ao;lia
 let mp:Nat->List (List V):=λk=>(List.range k).map λi=>fb rk (rs[2 * i]?.getD []) (rs[2 * i+1]?.getD [])
 refine KJ (kr (v:=.de 0 ((rs.length:Int) - 1) 2) (l:=pm (rs.length / 2)) (g:=cx 5) (f:=af (b9 (bS c2 c0 (G 4) (H (ak qI (H (G 0) (H (aT (G 1) (G 5)) (H (aT (G 1) (aM cV (G 5) (ab (.int 1)))) (H (G 2) (H (G 3) aa)))))) aa))) aq)
  (λk ag ai=>(∃x,ag=[host,.ap (dd rs),rule,told,.ref D.length,x,.u,.u,.u])/\ai[D.length]? =some (.list (dd (mp k)))/\I ai/\(0 < k->I1 ai)/\(I1 D->I1 ai)/\Fr W D ai)
  (λk ag ai _=>Uw _ _ _) (λk x ag ai dv ax=>by
   revert dv;refine yQ λbd aX oH aj ao F=>?_;revert bd;refine d7 λx0 bl=>?_;subst bl;have hk:k < rs.length / 2:=by have:=(List.getElem?_eq_some_iff.mp ax).1;simpa [pm] using this
   unfold pm at ax;rw [List.getElem?_map,List.getElem?_range hk] at ax;revert ax;refine s1 λbd=>?_;subst bd;have cz:2 * k < rs.length:=by lia
   have dB:2 * k+1 < rs.length:=by lia
   have aaT:D.length < ai.length:=fQ aX;refine tt (VL dc (l:=rs[2 * k]?.getD []) (r:=rs[2 * k+1]?.getD []) (aP _ (mem _ cz)) (aP _ (mem _ dB)) (two k dB) oH (by lia)) λaY aC jr ic gr eR=>?_;have il:aY[D.length]? =some (.list (dd (mp k))):=eR.at aX λw=>by have:=dc.low _ w;lia
   have k7:((2 * (k:Int)))=((2 * k:Nat):Int):=by push_cast;rfl
   have iD:((2 * (k:Int))+1)=((2 * k+1:Nat):Int):=by push_cast;rfl
   have eE:item ai (.ap (dd rs)) (.int (2 * (k:Int)))=some (.ap (rs[2 * k]?.getD [])):=by rw [k7];exact iN (get _ cz)
   have ky:item ai (.ap (dd rs)) (.int (2 * (k:Int)+1))=some (.ap (rs[2 * k+1]?.getD [])):=by rw [iD];exact iN (get _ dB)
   have Cs:(dd (mp k)).length=k:=by simp [dd,mp]
   have T8:dd (mp (k+1))=dd (mp k)++[.ap (fb rk (rs[2 * k]?.getD []) (rs[2 * k+1]?.getD []))]:=by
    simp only [dd,mp,List.range_succ,List.map_append,List.map_cons,List.map_nil]
   have dH:=ht (.ap (fb rk (rs[2 * k]?.getD []) (rs[2 * k+1]?.getD []))) il (by rw [Cs];unfold big;lia);have cP:bS c2 c0 (G 4) (H (ak qI (H (G 0) (H (aT (G 1) (G 5)) (H (aT (G 1) (aM cV (G 5) (ab (.int 1)))) (H (G 2) (H (G 3) aa)))))) aa) [host,.ap (dd rs),rule,told,.ref D.length,.int (2 * (k:Int)),.u,.u,.u] ai=some (.none,aY.set D.length (.list (dd (mp (k+1))))):=by
    rw [T8]
    simp! only [ip aX,cG dc.s1,cG dc.s2,cG dc.s3,eE,ky,aC,dH]
   have vM:=ic (fB _ (mem _ cz)) (fB _ (mem _ dB));refine ⟨[host,.ap (dd rs),rule,told,.ref D.length,.int (2 * (k:Int)),.u,.u,.u],_,aY.set D.length (.list (dd (mp (k+1)))),rfl,aF (fP cP),⟨_,rfl⟩,gh il,dc.n7 _ _ jr (Fr.set _ _ _ d3),λ_=>dc.j2 _ _ vM (Fr.set _ _ _ d3),λ_=>dc.j2 _ _ vM (Fr.set _ _ _ d3),?_⟩;exact (F.t eR).trans (Fr.set (W:=λj=>j=D.length) aY _ _ rfl) (λ_ w=>w) λj aX w=>absurd w (by lia)) 100 0 (by simp [pm];lia) (Nat.zero_le _) [host,.ap (dd rs),rule,told,.ref D.length,.u,.u,.u,.u] (D++[.list []]) ⟨⟨_,rfl⟩,eL _ _,dc.n7 _ _ kt (Fr.app _ _),λh=>by lia,λh=>dc.j2 _ _ h (Fr.app _ _),Fr.app _ _⟩) λbX aY e dh aX jr aj ao F=>?_;revert dh;refine d7 λx bl=>?_;subst bl
 have TF:(pm (rs.length / 2)).length=rs.length / 2:=by simp [pm]
 rw [TF] at aX aj;have dL:(dd rs).length=rs.length:=by simp [dd]
 have fY:a1 4 (cM aa) [host,.ap (dd rs),rule,told,.u,.u,.u,.u,.u] D=some (.nx,[host,.ap (dd rs),rule,told,.ref D.length,.u,.u,.u,.u],D++[.list []]):=rfl;have D0:ak dX (H (ab (.int 0)) (H (aM eA (ak bG (H (G 1) aa)) (ab (.int 1))) (H (ab (.int 2)) aa))) [host,.ap (dd rs),rule,told,.ref D.length,.u,.u,.u,.u] (D++[.list []])=some (.de 0 ((rs.length:Int) - 1) 2,D++[.list []]):=by
  have c:(decide ((0:Int) < 2) && g5 2)=true:=by decide
  simp! only [jn,Qm c,dL]
 have qR:=Jg (fb rk) [] rs;have Cs:(dd (mp (rs.length / 2))).length=rs.length / 2:=by simp [dd,mp]
 have H3:fH aY (.int (rs.length:Int)) (.int 2)=some (.int ((rs.length % 2:Nat):Int)):=by
  rw [sJ aY (by decide)];rw [Int.fmod_eq_emod_of_nonneg _ (by decide)];rfl
 by_cases Bt:rs.length % 2=1
 .rw [if_pos Bt] at qR;have hz:rs.length - 1 < rs.length:=by lia
  have it:item aY (.ap (dd rs)) (.int (-1))=some (.ap (rs[rs.length - 1]?.getD [])):=by
   have hs:seqIndex? (-1) rs.length=some (rs.length - 1):=by
    unfold seqIndex?;have:((-1:Int)+(rs.length:Int))=((rs.length - 1:Nat):Int):=by lia
    simp only [show ((-1:Int) < 0) from by decide,if_true,this];rw [if_pos (by simp;lia)];simp
   exact SG (by rw [dL];exact hs) (get _ hz)
  have dH:=ht (.ap (rs[rs.length - 1]?.getD [])) aX (by rw [Cs];unfold big;lia);have fin:dd (gN (fb rk) rs)=dd (mp (rs.length / 2))++[.ap (rs[rs.length - 1]?.getD [])]:=by
   rw [qR];simp only [dd,List.map_append,List.map_cons,List.map_nil,mp]
  have Rp:(aY.set D.length (.list (dd (gN (fb rk) rs))))[D.length]? =some (.list (dd (gN (fb rk) rs))):=gh aX;refine ⟨(aY.set D.length (.list (dd (gN (fb rk) rs)))).set D.length .bB,?_,dc.n7 _ _ (dc.n7 _ _ jr (Fr.set _ _ _ d3)) (Fr.set _ _ _ d3),λh=>dc.j2 _ _ (dc.j2 _ _ (aj (by lia)) (Fr.set _ _ _ d3)) (Fr.set _ _ _ d3),λh=>dc.j2 _ _ (dc.j2 _ _ (ao h) (Fr.set _ _ _ d3)) (Fr.set _ _ _ d3),?_⟩
  .rw [F7];unfold v9;have dW:aD oEq (aM fH (ak bG (H (G 1) aa)) (ab (.int 2))) (ab (.int 1)) [host,.ap (dd rs),rule,told,.ref D.length,x,.u,.u,.u] aY=some (true,aY):=by
    simp! only [jn,dL,H3,h2,Bt] <;> rfl
   have cP:b9 (bS c2 c0 (G 4) (H (aT (G 1) (dU ej (ab (.int 1)))) aa)) [host,.ap (dd rs),rule,told,.ref D.length,x,.u,.u,.u] aY=some (.nx,[host,.ap (dd rs),rule,told,.ref D.length,x,.u,.u,.u],aY.set D.length (.list (dd (gN (fb rk) rs)))):=by
    rw [fin]
    simp! only [ip aX,it,dH]
   have dF:ib (G 4) [host,.ap (dd rs),rule,told,.ref D.length,x,.u,.u,.u] (aY.set D.length (.list (dd (gN (fb rk) rs))))=some (.ap (dd (gN (fb rk) rs)),(aY.set D.length (.list (dd (gN (fb rk) rs)))).set D.length .bB):=by
    exact t7 rfl Rp
   rw [aF fY,aF (ja D0 (JT (by lia) _) e),aF ((dw dW).trans (aF cP)),b6 (c4 dF)]
   rfl
  .exact (F.trans (Fr.set (W:=λj=>j=D.length) aY _ _ rfl) (λ_ w=>w) λj aX w=>absurd w (by lia)).trans (Fr.set (W:=λj=>j=D.length) _ _ _ rfl) (λ_ w=>w) λj aX w=>absurd w (by lia)
 .rw [if_neg Bt,List.append_nil] at qR;have fin:dd (gN (fb rk) rs)=dd (mp (rs.length / 2)):=by rw [qR]
  rw [fin];refine ⟨aY.set D.length .bB,?_,dc.n7 _ _ jr (Fr.set _ _ _ d3),λh=>dc.j2 _ _ (aj (by lia)) (Fr.set _ _ _ d3),λh=>dc.j2 _ _ (ao h) (Fr.set _ _ _ d3),?_⟩
  .rw [F7];unfold v9;have dW:aD oEq (aM fH (ak bG (H (G 1) aa)) (ab (.int 2))) (ab (.int 1)) [host,.ap (dd rs),rule,told,.ref D.length,x,.u,.u,.u] aY=some (false,aY):=by
    have:rs.length % 2=0:=by lia
    simp! only [jn,dL,H3,h2,this] <;> rfl
   have dF:ib (G 4) [host,.ap (dd rs),rule,told,.ref D.length,x,.u,.u,.u] aY=some (.ap (dd (mp (rs.length / 2))),aY.set D.length .bB):=by
    exact t7 rfl aX
   rw [aF fY,aF (ja D0 (JT (by lia) _) e),aF (cc:=[host,.ap (dd rs),rule,told,.ref D.length,x,.u,.u,.u]) (ai:=aY) (ch dW),b6 (c4 dF)]
   rfl
  .exact F.trans (Fr.set (W:=λj=>j=D.length) aY _ _ rfl) (λ_ w=>w) λj aX w=>absurd w (by lia)
theorem AO {bZ:List (List V)} (h:∀b∈bZ,b≠[]):bZ.length<=bZ.flatten.length:=by
 induction bZ with
 | nil=>simp
 | cons b bZ bJ=>
  have aj:=bJ λx ax=>h x (List.mem_cons_of_mem _ ax);have ao:=List.length_pos_iff.mpr (h b (List.mem_cons_self ..));simp only [List.length_cons,List.flatten_cons,List.length_append];lia
theorem Hx (rk:V->Int):∀bZ:List (List V),((bZ.map (co rk)).flatten).length=bZ.flatten.length
 | []=>rfl
 | b::bZ=>by simp only [List.map_cons,List.flatten_cons,List.length_append,uC,Hx rk bZ]
theorem SA (rk:V->Int) (x:V):co rk [x]=[x]:=rfl
theorem Gp:∀l:List V,(l.map λx=>[x]).flatten=l
 | []=>rfl
 | x::l=>by simp only [List.map_cons,List.flatten_cons,Gp l];rfl
theorem VK {W:Nat->Prop} {host rule:V} {items:List V} {rk:V->Int} {I I1:am->Prop} (dc:Ord (D.length+1) W host rule (.ref D.length) items rk I I1) (cS:items.length<=7) (kt:I (D++[.list []])):
  ∃al,sw [host,.ap items,rule] D=some (.ap (co rk items),al)/\I al/\(2<=items.length->I1 al)/\Fr W D al/\(items.length < 2->Fr dx D al):=by
 have fY:a1 3 (cM aa) [host,.ap items,rule,.u,.u,.u,.u] D=some (.nx,[host,.ap items,rule,.ref D.length,.u,.u,.u],D++[.list []]):=rfl;have comp:=mz (v:=.ap items) (l:=items) (g:=cx 1) (t:=bW) (f:=ef (H (G 1) aa)) (D:=D++[.list []]) (ρb:=[.u,.u]) (λx=>[.u,x]) (λ_=>true) (λx=>.ap [x]) (l2 _) (λ_ _=>rfl) (λ_ _ _ _=>rfl) (λ_ _ _=>rfl) (λx ax _ bi=>by
  have k5:([x]:List V).length<=big:=by unfold big;simp
  simp! only [cG (dc.set x ax),k5]) (by unfold big;lia) 100 (by lia)
 rw [t5] at comp;have c:=pZ (i:=G 1) (pl:=[none,none]) (ag:=[host,.ap items,rule,.ref D.length,.u,.u,.u]) rfl rfl comp;have By:(items.map λx=>V.ap [x])=dd (items.map λx=>[x]):=by simp [dd]
 rw [By] at c;have cP:=hI (k:=4) c;refine hn (vw (t:=aD eZ (ak bG (H (G 4) aa)) (ab (.int 1))) (f:=af (a1 4 (ak sx (H (G 0) (H (G 4) (H (G 2) (H (G 3) aa)))))) aq)
  (λn ag ai=>∃bZ:List (List V),ag=[host,.ap items,rule,.ref D.length,.ap (dd (bZ.map (co rk))),.u,.u]/\bZ.flatten=items/\(∀b∈bZ,b≠[])/\I ai/\(bZ.length < items.length->I1 ai)/\Fr W (D++[.list []]) ai/\n=bZ.length/\(bZ.length=items.length->Fr dx (D++[.list []]) ai))
  (λag ai=>∃bZ:List (List V),ag=[host,.ap items,rule,.ref D.length,.ap (dd (bZ.map (co rk))),.u,.u]/\bZ.flatten=items/\(∀b∈bZ,b≠[])/\I ai/\(bZ.length < items.length->I1 ai)/\Fr W (D++[.list []]) ai/\bZ.length<=1/\(bZ.length=items.length->Fr dx (D++[.list []]) ai)) (λn ag ai dv=>by
   revert dv;refine vG λbZ bl lf fB oH aj F rc yP=>?_;subst bl;subst rc;have dL:(dd (bZ.map (co rk))).length=bZ.length:=by simp [dd]
   have MG:bZ.length<=7:=by have:=AO fB;rw [lf] at this;lia
   by_cases q:(1:Int) < (bZ.length:Int)
   .right;right
    refine tt (VM dc (rs:=bZ.map (co rk)) (λr aZ x ax=>by
     refine a2 (List.mem_map.mp aZ) λb aA aV=>?_;subst aV;rw [<- lf];exact List.mem_flatten.mpr ⟨b,aA,(oN rk).mp ax⟩) (λr aZ=>by
     refine a2 (List.mem_map.mp aZ) λb aA aV=>?_;subst aV;intro z;have:=uC rk b;rw [z] at this;exact fB b aA (List.eq_nil_of_length_eq_zero this.symm)) (by rw [Hx,lf];exact cS) (by simp;exact MG) oH (by have:=F.1;simp at this;lia)) λaY aC eE ky qs eR=>?_
    rw [Ji] at aC;have vM:=ky (by simp;lia);refine ⟨ai,_,aY,(gN (· ++·) bZ).length,?_,aF (hI ?_),by rw [C9];lia,gN (· ++·) bZ,rfl,by rw [Jh,lf],Jj bZ fB,eE,λ_=>vM,F.t eR,rfl,λz=>?_⟩
    .simp! only [jn,dL,q,decide_true]
    .simp! only [cG dc.s1,cG dc.s2,aC]
    .rw [C9] at z;have:=AO fB;rw [lf] at this;lia
   .left
    refine ⟨ai,?_,bZ,rfl,lf,fB,oH,aj,F,by lia,yP⟩
    simp! only [jn,dL,q,decide_false]) 100 items.length (by lia) [host,.ap items,rule,.ref D.length,.ap (dd (items.map λx=>[x])),.u,.u] (D++[.list []]++[.bB])
   ⟨items.map λx=>[x],by simp [List.map_map,Function.comp_def,SA],Gp items,λb aA=>by
    refine a2 (List.mem_map.mp aA) λx _ aV=>?_;subst aV;simp,dc.n7 _ _ kt (Fr.app _ _),λh=>absurd h (by rw [List.length_map];lia),Fr.app _ _,(List.length_map _).symm,λ_=>Fr.app _ _⟩) λbX aY e ci=>?_;revert ci;refine vG λbZ bl lf fB jr aj F wN yP=>?_;subst bl
 refine ⟨aY,?_,jr,λh=>aj (by lia),(Fr.app _ _).t F,λh=>(Fr.app _ _).t (yP ?_)⟩
 rotate_left
 .have ic:=AO fB;rw [lf] at ic;rcases bZ with _ | ⟨b,_ | ⟨c,t⟩⟩
  .rw [<- lf];rfl
  .have ao:=List.length_pos_iff.mpr (fB b (List.mem_cons_self ..));have:items=b:=by rw [<- lf];simp
   subst this;simp;lia
  .simp at wN
 rw [PG];unfold z0;rw [aF fY,aF (cc:=[host,.ap items,rule,.ref D.length,.ap (dd (items.map λx=>[x])),.u,.u]) (ai:=D++[.list []]++[.bB]) cP,aF e];rcases bZ with _ | ⟨b,_ | ⟨c,t⟩⟩
 .have:items=[]:=by rw [<- lf];rfl
  subst this
  rfl
 .have:b=items:=by rw [<- lf];simp
  subst this
  rfl
 .simp at wN
end
section
open PySem
variable {D al:am} {o:ee} {R:d6}
structure dG (W:Nat->Prop) (vs:List V) (D al:am):Prop where
 len:D.length<=al.length
 same:∀j,j < D.length->¬W j->V.ref j∉vs->al[j]? =D[j]?
 up:∀(j:Nat) (x:V) (h:Int) (t:V),¬W j->V.ref j∈vs->D[j]? =some (.inst 181 [x,.int h,t])->2<=h->∃h',2<=h'/\al[j]? =some (.inst 181 [x,.int h',t])
theorem dG.lu {W:Nat->Prop} {vs:List V} (F:Fr W D al):dG W vs D al:=⟨F.1,λj aX a3 _=>F.2 j aX a3,λj x h t a3 _ e q=>⟨h,q,F.at e a3⟩⟩
theorem dG.U6 {W:Nat->Prop} {vs:List V} (F:e2 vs D al):dG W vs D al:=⟨F.len,λj aX _ aP=>F.same j aX aP,λj x h t _ aP e q=>F.up j x h t aP e q⟩
theorem dG.refl {W:Nat->Prop} {vs:List V} (D:am):dG W vs D D:=dG.lu (Fr.refl D)
theorem dG.trans {W ol pU:Nat->Prop} {vs:List V} {D al j7:am} (a:dG W vs D al) (b:dG ol vs al j7) (aj:∀j,W j->pU j) (ao:∀j,j < D.length->ol j->pU j):dG pU vs D j7:=
 ⟨Nat.le_trans a.len b.len,λj aX a3 aP=>(b.same j (Nat.lt_of_lt_of_le aX a.len) (λw=>a3 (ao j aX w)) aP).trans (a.same j aX (λw=>a3 (aj j w)) aP),λj x h t a3 aP e q=>by
  refine a2 (a.up j x h t (λw=>a3 (aj j w)) aP e q) λh' lz bH=>?_;exact b.up j x h' t (λw=>a3 (ao j (fQ e) w)) aP bH lz⟩
theorem dG.t {W:Nat->Prop} {vs:List V} {D al j7:am} (a:dG W vs D al) (b:dG W vs al j7):dG W vs D j7:=a.trans b (λ_ h=>h) λ_ _ h=>h
theorem dG.JS {W:Nat->Prop} {vs:List V} (F:dG W vs D al) (hw:∀j,V.ref j∈vs->¬W j) {v:V} (aP:v∈vs) (h:hr D v):hr al v:=by
 rcases h with h | h | ⟨r,x,h,t,e,q,p⟩
 .exact .inl h
 .exact .inr (.inl h)
 .subst e;refine a2 (F.up r x h t (hw r aP) aP q p) λh' u8 lz=>?_;exact .inr (.inr ⟨r,x,h',t,rfl,lz,u8⟩)
theorem dG.arr {W:Nat->Prop} {vs:List V} (F:dG W vs D al) (A:a8 D o R) (aZ:∀j,V.ref j∈vs->∃fs,D[j]? =some (.inst 181 fs)) (hw:∀j,cR o j->¬W j):a8 al o R:=by
 have key:∀j dz,cR o j->D[j]? =some dz->(∀fs,dz≠az.inst 181 fs)->al[j]? =some dz:=λj dz w e n=>by
  refine (F.same j (fQ e) (hw j w) λaP=>?_).trans e;refine cH (aZ j aP) λfs bH=>?_;rw [e] at bH;revert bH;refine s1 λbd=>?_;subst bd;exact n fs rfl
 exact ⟨key _ _ (.inl rfl) A.a (λfs q=>by cases q),key _ _ (.inr (.inl rfl)) A.k (λfs q=>by cases q),key _ _ (.inr (.inr (.inl rfl))) A.v (λfs q=>by cases q),key _ _ (.inr (.inr (.inr (.inl rfl)))) A.h (λfs q=>by cases q),key _ _ (.inr (.inr (.inr (.inr (.inl rfl))))) A.n (λfs q=>by cases q),key _ _ (.inr (.inr (.inr (.inr (.inr rfl))))) A.w (λfs q=>by cases q),A.dA,A.kC,A.fC,A.kR,A.kS,A.a3⟩
theorem Good.re {ps:List (V×V)} (bD:Good D R ps) (h:SL al R.vs):Good al R ps:=⟨bD.cnt,bD.nj,bD.key,h,bD.cS,bD.pack,bD.hash⟩
theorem r2 {ps:List (V×V)} (bD:Good D R ps) {p:V×V} (aw:p∈ps):p.2∈R.vs/\p.2≠.hole:=by
 cases hk:R.pk with
 | true=>
  refine cq (bD.pack hk) λaj _=>?_;subst aj;unfold gu at aw;refine a2 (List.mem_map.mp aw) λk hk aV=>?_;subst aV;have cY:=sT hk;have cr:=List.getElem?_eq_getElem cY;dsimp only;rw [cr,Option.getD_some];refine ⟨List.getElem_mem cY,λq=>?_⟩;unfold cN at hk;rw [List.mem_filter] at hk;have:=hk.2;unfold h1 at this;rw [cr,Option.getD_some,q] at this
  cases this
 | false=>
  refine DR (bD.hash hk) λ_ _ ao sM _=>?_;have:p.2∈R.vs:=by rw [ao];exact List.mem_map.mpr ⟨p,aw,rfl⟩
  exact ⟨this,sM _ this⟩
noncomputable def ha (h j:Nat):Prop:=j=h
theorem VO (A:a8 D o R) {ps:List (V×V)} (bD:Good D R ps) (c8:∀v∈R.vs,hr D v):
  ∃al b8 bo,sC [.ref o.a] D=some (.ref b8.a,al)/\a8 al b8 bo/\Good al bo ps/\bo.next=R.next/\bo.sh=false/\e2 R.vs D al/\((R.sh=true/\∀j,cR b8 j->D.length<=j)\/(R.sh=false/\b8=o/\bo=R/\al=D)):=by
 have jE:∀b,R.sh=b->a' (aN 316 9 (G 0)) [.ref o.a,.u] D=some (b,D):=λb h=>by simp! only [A.Qg,h]
 have O:H (G 0) aa [.ref o.a,.u] D=some ([.ref o.a],D):=by simp! only []
 cases hs:R.sh with
 | true=>
  refine kW (Vy A bD c8) λal b8 bo e C=>?_;refine ⟨al,b8,bo,?_,C.arr,C.good,C.next,C.sh,C.e6,.inl ⟨rfl,C.own⟩⟩;rw [F8];unfold wa;have:cn (a' (aN 316 9 (G 0))) (ak oZ (H (G 0) aa)) (G 0) [.ref o.a,.u] D=some (.ref b8.a,al):=by
   simp only [cn,jE true hs,Option.bind_some,if_true,eS O,e]
  rw [b6 (c4 this)]
  rfl
 | false=>
  refine ⟨D,o,R,?_,A,bD,rfl,hs,e2.refl _ _,.inr ⟨rfl,rfl,rfl,rfl⟩⟩;rw [F8];unfold wa;have:cn (a' (aN 316 9 (G 0))) (ak oZ (H (G 0) aa)) (G 0) [.ref o.a,.u] D=some (.ref o.a,D):=by
   simp only [cn,jE false hs,Option.bind_some,ff,List.getElem?_cons_zero,ir];rfl
  rw [b6 (c4 this)]
  rfl
theorem TR {l:List (V×V)}:∀p∈gG (l.map (·.2)),∃q∈l,p.2=q.2:=λp aw=>by
 unfold gG at aw;refine a2 (List.mem_map.mp aw) λk hk aV=>?_;subst aV;have hk:=List.mem_range.mp hk;have ii:k < l.length:=by simpa using hk
 refine ⟨l[k],List.getElem_mem ii,?_⟩;simp [ii]
structure EF (o:ee) (h:Nat) (fs:List V) (W:Nat->Prop) (D al:am) (R:d6) (ps:List (V×V)) (rk:V->Int) (rn:Bool) (I1:Nat->am->Prop) (a4:ee) (bV:d6):Prop where
 ref:al[h]? =some (.inst 181 (.ref a4.a::fs))
 arr:a8 al a4 bV
 good:Good al bV (if rn then gG ((co (λp=>rk (aH p)) ps).map (·.2)) else co (λp=>rk (aH p)) ps)
 next:bV.next=if rn/\ps≠[] then pb ps.length else R.next
 sh:bV.sh=false
 rw:dG (λj=>W j\/j=h) R.vs D al
 cS:ps.length < 2->dG (ha h) R.vs D al
 many:2<=ps.length->∃t a6,I1 t a6/\D.length<=a6.length/\Fr (ha h) a6 al
 own:∀j,cR a4 j->D.length<=j\/(R.sh=false/\cR o j)
 vs:∀j,V.ref j∈bV.vs->V.ref j∈R.vs
theorem oE {ps:List (V×V)} (bD:Good D R ps) {v:V} (aI:v∈R.vs) (a3:v≠.hole):∃p∈ps,p.2=v:=by
 cases hk:R.pk with
 | true=>
  refine cq (bD.pack hk) λaj _=>?_;subst aj;refine cH (List.getElem_of_mem aI) λk ci=>?_;obtain ⟨cY,rfl⟩:=ci;refine ⟨(bu k,R.vs[k]?.getD .none),?_,by simp [cY]⟩;unfold gu;exact List.mem_map.mpr ⟨k,by unfold cN;rw [List.mem_filter];exact ⟨List.mem_range.mpr cY,B5 (List.getElem?_eq_getElem cY) a3⟩,rfl⟩
 | false=>
  refine vC (bD.hash hk) λ_ _ ao _=>?_;rw [ao] at aI;refine a2 (List.mem_map.mp aI) λp aw aV=>?_;subst aV;exact ⟨p,aw,rfl⟩
theorem IX {W:Nat->Prop} {h:Nat} {fs:List V} {host rule:V} {rk:V->Int} {rn:Bool} {ps:List (V×V)} {I I1:Nat->am->Prop}
  (yX:D[h]? =some (.inst 181 (.ref o.a::fs))) (A:a8 D o R) (bD:Good D R ps) (c8:∀v∈R.vs,hr D v) (G':V.ref h∉R.vs) (e4:∀p∈ps,iA p.1) (cX:(ps.map (·.1)).Nodup)
  (QZ:∀j,W j->j < D.length) (Q0:∀j,W j->¬cR o j) (qh:¬W h) (Q2:∀j,V.ref j∈R.vs->¬W j)
  (QT:∀ai,dG (ha h) R.vs D ai->Ord (ai.length+1) (λj=>W j\/j=ai.length) host rule (.ref ai.length) (ps.map aH) rk (I ai.length) (I1 ai.length)/\I ai.length (ai++[.list []])) (sb:ez host=true/\ez rule=true):
  ∃al a4 bV,gf [host,.ref h,rule,.bool rn] D=some (.bool true,al)/\EF o h fs W D al R ps rk rn I1 a4 bV:=by
 have refs:=hr.refs c8;have cS:=bD.cS;refine DY (VO A bD c8) λai b8 bo av cu jL xG Dq Jw u7=>?_;have f0:fld 181 0 D (.ref h)=some (.ref o.a):=gq yX rfl rfl;have cP:a1 4 (ak sC (H (aN 181 0 (G 1)) aa)) [host,.ref h,rule,.bool rn,.u,.u,.u,.u,.u,.u,.u,.u,.u] D=some (.nx,[host,.ref h,rule,.bool rn,.ref b8.a,.u,.u,.u,.u,.u,.u,.u,.u],ai):=by
  simp! only [f0,av]
 have yY:ai[h]? =some (.inst 181 (.ref o.a::fs)):=(Jw.same h (fQ yX) G').trans yX;have QF:=jp (k:=0) (.ref b8.a) yY (by simp);have dF:bI 181 0 (G 1) (G 4) [host,.ref h,rule,.bool rn,.ref b8.a,.u,.u,.u,.u,.u,.u,.u,.u] ai=some (.nx,[host,.ref h,rule,.bool rn,.ref b8.a,.u,.u,.u,.u,.u,.u,.u,.u],ai.set h (.inst 181 (.ref b8.a::fs))):=by
  simp! only [QF]
 have yZ:(ai.set h (.inst 181 (.ref b8.a::fs)))[h]? =some (.inst 181 (.ref b8.a::fs)):=gh yY;have dK:a8 (ai.set h (.inst 181 (.ref b8.a::fs))) b8 bo:=cu.fr (W:=ha h) (Fr.set _ _ _ rfl) λj w z=>cu.iS h _ yY (by rw [<- show j=h from z];exact w);have qZ:dG (ha h) R.vs D (ai.set h (.inst 181 (.ref b8.a::fs))):=(dG.U6 (W:=ha h) Jw).t (dG.lu (Fr.set _ _ _ rfl));generalize ai.set h (.inst 181 (.ref b8.a::fs))=aY at dF yZ dK qZ;have Bz:∀j,V.ref j∈R.vs->¬ha h j:=λj aP z=>G' (by rw [<- show j=h from z];exact aP);have slots:∀a6,dG (ha h) R.vs D a6->∀p∈ps,hr a6 p.2/\p.2≠.hole:=λa6 r p aw=>by
  refine cq (r2 bD aw) λaj ao=>?_;exact ⟨r.JS Bz aj (c8 _ aj),ao⟩
 have h5:∀a6,dG (ha h) R.vs D a6->SL a6 bo.vs:=λa6 r v aI=>by
  by_cases a3:v=.hole
  .subst a3;exact .inr (.inl rfl)
  .refine a2 (oE jL aI a3) λp aw aV=>?_;subst aV;exact (slots a6 r p aw).1.slot
 have jk:Good aY bo ps:=jL.re (h5 aY qZ);have mh:∀j,V.ref j∈bo.vs->V.ref j∈R.vs:=λj aX=>by
  refine a2 (oE jL aX (λz=>by cases z)) λp aw e=>?_;rw [<- e];exact (r2 bD aw).1
 have Vi:∀j,cR b8 j->D.length<=j\/(R.sh=false/\cR o j):=λj w=>by
  obtain ⟨_,ao⟩ | ⟨ao,aL,_⟩:=u7
  .exact .inl (ao j w)
  .exact .inr ⟨ao,by rw [<- aL];exact w⟩
 have iD:fld 316 6 aY (.ref b8.a)=some (.int (ps.length:Int)):=by rw [dK.gZ,jk.cnt]
 have RO:co rk (ps.map aH)=(co (λp=>rk (aH p)) ps).map aH:=BR rk aH ps
 by_cases tX:ps.length=0\/(ps.length=1/\rn=false)
 .
  refine ⟨aY,b8,bo,?_,⟨yZ,dK,?_,?_,Dq,qZ.trans (dG.refl (W:=ha h) _) (λj w=>.inr w) λj _ w=>.inr w,λ_=>qZ,λq=>by lia,Vi,mh⟩⟩
  .rw [F9];unfold wb;have dW:dI (aD oEq (aN 316 6 (G 4)) (ab (.int 0))) (dI (bp (aD oEq (aN 316 6 (G 4)) (ab (.int 1))) (bp (ek (a' (G 3))) bW)) fD) [host,.ref h,rule,.bool rn,.ref b8.a,.u,.u,.u,.u,.u,.u,.u,.u] aY=some (true,aY):=by
    rcases tX with q | ⟨q,dt⟩
    .have:((ps.length:Nat):Int)=0:=by lia
     simp! only [iD,h2,this,decide_true]
    .have aj:¬((ps.length:Nat):Int)=0:=by lia
     have ao:((ps.length:Nat):Int)=1:=by lia
     subst dt
     simp! only [iD,h2,ao,decide_true] <;> rfl
   rw [aF cP,aF dF,b6 (cc:=[host,.ref h,rule,.bool rn,.ref b8.a,.u,.u,.u,.u,.u,.u,.u,.u]) (v:=.bool true) (ai:=aY) ((dw dW).trans rfl)]
   rfl
  .rcases tX with q | ⟨q,dt⟩
   .have:ps=[]:=List.eq_nil_of_length_eq_zero q;subst this
    cases rn <;> exact jk
   .subst dt
    cases ps with
    | nil=>exact jk
    | cons p ps=>cases ps with
     | nil=>exact jk
     | cons _ _=>exact absurd (Nat.succ.inj q) (Nat.succ_ne_zero _)
  .rw [xG];rcases tX with q | ⟨q,dt⟩
   .have:ps=[]:=List.eq_nil_of_length_eq_zero q;subst this;simp
   .subst dt;simp
 .have dW:dI (aD oEq (aN 316 6 (G 4)) (ab (.int 0))) (dI (bp (aD oEq (aN 316 6 (G 4)) (ab (.int 1))) (bp (ek (a' (G 3))) bW)) fD) [host,.ref h,rule,.bool rn,.ref b8.a,.u,.u,.u,.u,.u,.u,.u,.u] aY=some (false,aY):=by
   have h0:¬((ps.length:Nat):Int)=0:=by lia
   by_cases aj:((ps.length:Nat):Int)=1
   .have:rn=true:=by
     cases rn with
     | true=>rfl
     | false=>exact absurd (.inr ⟨by lia,rfl⟩) tX
    subst this
    simp! only [iD,h2,aj,decide_true] <;> rfl
   .simp! only [iD,h2,h0,aj,decide_false]
  have RE:ps≠[]:=λq=>tX (.inl (by rw [q];rfl));have es:=C3 dK jk;have vb:dG (ha h) R.vs D (aY++[az.bB]):=qZ.t (dG.lu (Fr.app _ _));have eP:=dK.app [az.bB];have Eg:=jq [az.bB] yZ;generalize (aY++[az.bB]:am)=a6 at es vb eP Eg;refine cq (QT a6 vb) λdc kt=>?_;refine tt (VK dc (by rw [List.length_map];exact cS) kt) λbQ jm aaJ H2 K8 Gm=>?_;have i2:Fr W a6 bQ:=K8.wide λj aX w=>w.resolve_right λz=>by lia
  rw [RO] at jm;rw [List.length_map] at H2 Gm;have ri:a1 5 (ak sw (H (G 0) (H (ak lq (H (G 4) aa)) (H (G 2) aa)))) [host,.ref h,rule,.bool rn,.ref b8.a,.u,.u,.u,.u,.u,.u,.u,.u] aY=some (.nx,[host,.ref h,rule,.bool rn,.ref b8.a,.ap ((co (λp=>rk (aH p)) ps).map aH),.u,.u,.u,.u,.u,.u,.u],bQ):=by
   simp! only [cG sb.1,cG sb.2,es,jm]
  have Q1:∀j,cR b8 j->¬W j:=λj w z=>by
   obtain ⟨_,ao⟩ | ⟨_,ao,_⟩:=u7
   .have:=ao j w;have:=QZ j z;lia
   .rw [ao] at w;exact Q0 j z w
  have m7:a8 bQ b8 bo:=eP.fr i2 Q1;have Eh:bQ[h]? =some (.inst 181 (.ref b8.a::fs)):=i2.at Eg qh;have ye:dG (λj=>W j\/j=h) R.vs D bQ:=vb.trans (dG.lu i2) (λj w=>.inr w) λj _ w=>.inl w;have WP:ps.length < 2->dG (ha h) R.vs D bQ:=λq=>vb.t (dG.lu ((Gm q).wide λ_ _ w=>w.elim));have Ds:∀dZ,Fr dx bQ dZ->∀p∈co (λp=>rk (aH p)) ps,Slot dZ p.2/\p.2≠.hole:=λdZ F p aw=>by
   have hW:=(oN _).mp aw;refine cq (r2 bD hW) λaj ao=>?_;have s1:=vb.JS Bz aj (c8 _ aj);refine ⟨?_,ao⟩;rcases s1.slot with q | q | ⟨r,f,q,dt⟩
   .exact .inl q
   .exact .inr (.inl q)
   .exact .inr (.inr ⟨r,f,q,F.at (i2.at dt (Q2 r (by rw [<- q];exact aj))) (λw=>w)⟩)
  have YX:∀dZ,Fr dx bQ dZ->SL dZ bo.vs:=λdZ F v aI=>by
   by_cases a3:v=.hole
   .subst a3;exact .inr (.inl rfl)
   .refine a2 (oE jL aI a3) λp aw aV=>?_;subst aV;exact (Ds dZ F p ((oN _).mpr aw)).1
  have uO:(co (λp=>rk (aH p)) ps).length=ps.length:=uC _ _;have fin:∀(dJ:am) (a4:ee) (bV:d6) (sV:List (V×V)),Fr dx bQ dJ->a8 dJ a4 bV->Good dJ bV sV->bV.sh=false->(∀j,cR a4 j->bQ.length<=j)->(∀p∈sV,∃q∈ps,p.2=q.2)->
    ∃al,outF (af (b9 (ak qK (H (G 1) (H (G 4) (H (G 6) aa))))) (af (aR (ab (.bool true))) aq) [host,.ref h,rule,.bool rn,.ref b8.a,.ap ((co (λp=>rk (aH p)) ps).map aH),.ref a4.a,.u,.u,.u,.u,.u,.u] dJ)=some (.bool true,al)/\
     al[h]? =some (.inst 181 (.ref a4.a::fs))/\a8 al a4 bV/\Good al bV sV/\dG (λj=>W j\/j=h) R.vs D al/\(ps.length < 2->dG (ha h) R.vs D al)/\(2<=ps.length->∃t a6,I1 t a6/\D.length<=a6.length/\Fr (ha h) a6 al)/\(∀j,V.ref j∈bV.vs->V.ref j∈R.vs):=by
   intro dJ a4 bV sV pM DJ tz JO CX sub;have iy:a8 dJ b8 bo:=m7.fr pM λ_ _ w=>w;have Ei:=pM.at Eh λw=>w;refine cH (VR iy (jL.re (YX dJ pM)) DJ tz Ei) λg e=>?_;have Ls:=jq g Ei;have i3:Fr (ha h) dJ ((dJ++g).set h (.inst 181 (.ref a4.a::fs))):=(Fr.app _ _).t (Fr.set _ _ _ rfl);have Ur:∀j,cR a4 j->¬ha h j:=λj w z=>by
    have:=CX j w;have:=fQ Eh;have:j=h:=z;lia
   have yV:Fr (ha h) bQ ((dJ++g).set h (.inst 181 (.ref a4.a::fs))):=pM.trans i3 (λ_ w=>w.elim) λ_ _ w=>w;refine ⟨(dJ++g).set h (.inst 181 (.ref a4.a::fs)),?_,gh Ls,DJ.fr i3 Ur,tz.re λv aI=>?_,ye.trans (dG.lu yV) (λj w=>w) λj _ w=>.inr w,λq=>(WP q).t (dG.lu yV),λq=>⟨a6.length,bQ,H2 q,ye.len,yV⟩,λj aX=>?_⟩
   .have O:H (G 1) (H (G 4) (H (G 6) aa)) [host,.ref h,rule,.bool rn,.ref b8.a,.ap ((co (λp=>rk (aH p)) ps).map aH),.ref a4.a,.u,.u,.u,.u,.u,.u] dJ=some ([.ref h,.ref b8.a,.ref a4.a],dJ):=by simp! only []
    rw [aF (fP ((eS O).trans e))]
    rfl
   .rcases tz.slot v aI with q | q | ⟨r,f,q,dt⟩
    .exact .inl q
    .exact .inr (.inl q)
    .refine .inr (.inr ⟨r,f,q,i3.at dt λz=>?_⟩);refine a2 (oE tz aI (λz=>by rw [z] at q;cases q)) λp aw bH=>?_;refine a2 (sub p aw) λu8 hW Ax=>?_;have:=(r2 bD hW).1;rw [<- Ax,bH,q] at this;exact Bz r this z
   .refine a2 (oE tz aX (λz=>by cases z)) λp aw bH=>?_;refine a2 (sub p aw) λu8 hW Ax=>?_;rw [<- bH,Ax];exact (r2 bD hW).1
  have head:∀dS:Option (V×am),outF (af (a7 (a' (G 3)) (af (a1 6 (ak qH (H (e' true (G 5) [none,none] (cx 1) bW (aT (G 1) (ab (.int 1))) 100) aa))) aq) (af (a1 6 (ak mN (H (G 5) aa))) (af (bI 316 7 (G 6) (aN 316 7 (G 4))) aq))) (af (b9 (ak qK (H (G 1) (H (G 4) (H (G 6) aa))))) (af (aR (ab (.bool true))) aq)) [host,.ref h,rule,.bool rn,.ref b8.a,.ap ((co (λp=>rk (aH p)) ps).map aH),.u,.u,.u,.u,.u,.u,.u] bQ)=dS->gf [host,.ref h,rule,.bool rn] D=dS:=λdS q=>by
   rw [F9];unfold wb;rw [aF cP,aF dF,aF (cc:=[host,.ref h,rule,.bool rn,.ref b8.a,.u,.u,.u,.u,.u,.u,.u,.u]) (ai:=aY) (ch dW),aF ri];exact q
  cases rn with
  | true=>
   have comp:=mz (v:=.ap ((co (λp=>rk (aH p)) ps).map aH)) (l:=(co (λp=>rk (aH p)) ps).map aH) (g:=cx 1) (t:=bW) (f:=aT (G 1) (ab (.int 1))) (D:=bQ) (ρb:=[.u,.u]) (λx=>[.u,x]) (λ_=>true) (tk 1) (l2 _) (λ_ _=>rfl) (λ_ _ _ _=>rfl) (λ_ _ _=>rfl) (λx ax _ bi=>by
    refine a2 (List.mem_map.mp ax) λp aw aV=>?_;subst aV;have it:item (bQ++[az.list bi]) (.tup [p.1,p.2]) (.int 1)=some p.2:=mJ (k:=1) rfl
    simp! only [aH,it]) (by rw [List.length_map,uO];unfold big;lia) 100 (by rw [List.length_map,uO];lia)
   rw [t5,List.map_map] at comp;have jU:((co (λp=>rk (aH p)) ps).map (tk 1 ∘aH))=(co (λp=>rk (aH p)) ps).map (·.2):=rfl;rw [jU] at comp;have c:=pZ (i:=G 5) (pl:=[none,none]) (ag:=[host,.ref h,rule,.bool true,.ref b8.a,.ap ((co (λp=>rk (aH p)) ps).map aH),.u,.u,.u,.u,.u,.u,.u]) rfl rfl comp;have mq:Fr dx bQ (bQ++[az.bB]):=Fr.app _ _;refine oe (VF (D:=bQ++[az.bB]) (l:=(co (λp=>rk (aH p)) ps).map (·.2)) (λv aI=>by
    refine a2 (List.mem_map.mp aI) λp aw aV=>?_;subst aV;exact Ds _ mq p aw) (by rw [List.length_map,uO];exact cS)) λdJ a4 bV hx f3 CF=>?_
   rw [List.length_map,uO] at CF;refine DW (fin dJ a4 bV _ (mq.t f3.fr) f3.arr f3.good f3.sh (λj w=>by have:=f3.own j w;simp at this;lia) (λp aw=>by
    refine a2 (TR p aw) λq bL e=>?_;exact ⟨q,(oN _).mp bL,e⟩)) λal AB r1 cp r3 qV qW Db Dc=>?_
   refine ⟨al,a4,bV,head _ ?_,⟨r1,cp,r3,by rw [CF,if_pos ⟨rfl,RE⟩],f3.sh,qV,qW,Db,λj w=>.inl ?_,Dc⟩⟩
   .have dR:a' (G 3) [host,.ref h,rule,.bool true,.ref b8.a,.ap ((co (λp=>rk (aH p)) ps).map aH),.u,.u,.u,.u,.u,.u,.u] bQ=some (true,bQ):=rfl;have m8:a1 6 (ak qH (H (e' true (G 5) [none,none] (cx 1) bW (aT (G 1) (ab (.int 1))) 100) aa)) [host,.ref h,rule,.bool true,.ref b8.a,.ap ((co (λp=>rk (aH p)) ps).map aH),.u,.u,.u,.u,.u,.u,.u] bQ=some (.nx,[host,.ref h,rule,.bool true,.ref b8.a,.ap ((co (λp=>rk (aH p)) ps).map aH),.ref a4.a,.u,.u,.u,.u,.u,.u],dJ):=by
     refine hI ((eS (l:=[.ap ((co (λp=>rk (aH p)) ps).map (·.2))]) (ai:=bQ++[az.bB]) ?_).trans hx);simp only [H,c,Option.bind_some,aa,Option.map_some]
    rw [aF ((dw dR).trans (aF m8))];exact AB
   .have:=f3.own j w;have:=ye.len;simp at *;lia
  | false=>
   have aI:∀dZ,Fr dx bQ dZ->jd dZ (.ap ((co (λp=>rk (aH p)) ps).map aH))=true/\∀k,g3 dZ (.ap ((co (λp=>rk (aH p)) ps).map aH)) k=some ((co (λp=>rk (aH p)) ps).map aH)[k]? :=λdZ _=>⟨rfl,λk=>rfl⟩;refine oe (II (D:=bQ) (v:=.ap ((co (λp=>rk (aH p)) ps).map aH)) (ps:=co (λp=>rk (aH p)) ps) rfl aI (λp aw=>e4 p ((oN _).mp aw)) (λp aw=>Ds _ (Fr.refl _) p aw) (by rw [uO];exact cS) (((uD _ ps).map _).nodup_iff.mpr cX)) λdJ a4 bV hx f3 CF=>?_;have iy:a8 dJ b8 bo:=m7.fr f3.fr λ_ _ w=>w;have kO:=f3.arr.kO bo.next;have mn:=f3.arr.mb bV.pk bV.size bV.count bo.next bV.at_ bV.sh;have Lg:Fr dx bQ (dJ.set a4.a (cf a4 {bV with next:=bo.next})):=f3.fr.trans (Fr.set (W:=λj=>j=a4.a) dJ _ _ rfl) (λ_ w=>w) λj aX w=>by
    have:=f3.own a4.a (.inl rfl);lia
   have vL:Good (dJ.set a4.a (cf a4 {bV with next:=bo.next})) {bV with next:=bo.next} (co (λp=>rk (aH p)) ps):=
    ⟨f3.good.cnt,f3.good.nj,f3.good.key,λv aI=>iZ (f3.good.slot v aI) (Fr.set (W:=cR a4) _ _ _ (.inl rfl)) f3.arr.iS,f3.good.cS,f3.good.pack,f3.good.hash⟩
   refine DW (fin _ a4 {bV with next:=bo.next} _ Lg mn vL f3.sh (λj w=>f3.own j w) (λp aw=>⟨p,(oN _).mp aw,rfl⟩)) λal AB r1 cp r3 qV qW Db Dc=>?_;refine ⟨al,a4,{bV with next:=bo.next},head _ ?_,⟨r1,cp,r3,?_,f3.sh,qV,qW,Db,λj w=>.inl ?_,Dc⟩⟩
   .have dR:a' (G 3) [host,.ref h,rule,.bool false,.ref b8.a,.ap ((co (λp=>rk (aH p)) ps).map aH),.u,.u,.u,.u,.u,.u,.u] bQ=some (false,bQ):=rfl;have m8:a1 6 (ak mN (H (G 5) aa)) [host,.ref h,rule,.bool false,.ref b8.a,.ap ((co (λp=>rk (aH p)) ps).map aH),.u,.u,.u,.u,.u,.u,.u] bQ=some (.nx,[host,.ref h,rule,.bool false,.ref b8.a,.ap ((co (λp=>rk (aH p)) ps).map aH),.ref a4.a,.u,.u,.u,.u,.u,.u],dJ):=
     hI ((eS (l:=[.ap ((co (λp=>rk (aH p)) ps).map aH)]) (ai:=bQ) rfl).trans hx)
    have rj:bI 316 7 (G 6) (aN 316 7 (G 4)) [host,.ref h,rule,.bool false,.ref b8.a,.ap ((co (λp=>rk (aH p)) ps).map aH),.ref a4.a,.u,.u,.u,.u,.u,.u] dJ=some (.nx,[host,.ref h,rule,.bool false,.ref b8.a,.ap ((co (λp=>rk (aH p)) ps).map aH),.ref a4.a,.u,.u,.u,.u,.u,.u],dJ.set a4.a (cf a4 {bV with next:=bo.next})):=by
     simp! only [iy.mB,kO]
    rw [aF ((ch dR).trans ((aF m8).trans (aF rj)))];exact AB
   .show bo.next=_;rw [xG];simp
   .have:=f3.own j w;have:=ye.len;lia
end
section
open PySem
variable {D al:am}
noncomputable def hY:List V:=[.int 0,.int 1,.int 2,.int 3,.int 9,.int (-3),.str [97,49,48],.str [97,57],.str [66],.str [98],.str [120,32,121],.str []]
noncomputable def jH:List V:=[.int 3,.int (-2),.int 10,.int 9,.str [49,48],.str [57],.str [48,49,48],.str [32,55],.str [97,49],.str [97,49,48],.str [65,50],.str [98],.str [97,32,51],.str [],.none,.bool true]
noncomputable def b4:List V:=hY++jH
noncomputable def q1 (a b:V):Bool:=((mg (mg (some true) b) a).or ((yv (λx y=>some (x == y)) a b).or ((hJ (λx y=>some (x == y)) a b).or (q' (λx y=>some (x == y)) a b)))).getD false
noncomputable def HB (v:V):Nat:=b4.findIdx (q1 v)
noncomputable def Zk (pf:Int):List Int:=
 if pf=0 then [4,6,7,8,11,3,21,23,18,24,26,0,8,4,14,11,14,11,14,10,20,21,17,24,19,0,0,4]
 else if pf=1 then [2,16,18,19,22,0,2,2,2,2,2,2,19,1,25,22,25,22,25,21,2,2,2,2,2,2,2,16]
 else if pf=2 then [6,8,12,13,15,5,22,24,19,25,27,0,13,4,10,15,10,15,7,3,21,22,18,25,20,0,0,8]
 else if pf=10 then [6,8,12,13,15,5,20,23,24,24,27,0,13,4,10,15,10,15,7,3,19,20,22,24,18,0,0,8]
 else if pf=6 then [5,6,8,9,12,4,23,22,19,25,27,0,9,3,15,12,15,12,15,11,20,23,18,25,21,0,0,6]
 else [5,6,8,9,12,4,22,21,24,24,27,0,9,3,15,12,15,12,15,11,18,22,19,24,20,0,0,6]
noncomputable def Zl (w:Int):List Int:=
 if w=0 then [0,1,2,3,9,-3,3,2,1,1,3,0,3,-2,10,9,2,1,3,2,2,3,2,1,3,0,0,1]
 else if w=1 then [0,1,2,0,0,0,0,2,1,1,0,0,0,1,1,0,2,1,0,2,2,0,2,1,0,0,0,1]
 else if w=2 then [0,0,0,0,0,0,0,0,0,0,0,0,0,0,0,0,0,0,0,0,0,0,0,0,0,0,0,0]
 else [0,-1,-2,-3,-9,3,-3,-2,-1,-1,-3,0,-3,2,-10,-9,-2,-1,-3,-2,-2,-3,-2,-1,-3,0,0,-1]
noncomputable def cO (pf:Int) (v:V):Int:=(Zk pf).getD (HB v) 0
noncomputable def ct (w:Int) (v:V):Int:=(Zl w).getD (HB v) 0
noncomputable def eN (a b:Int):Int:=if a < b then -1 else if b < a then 1 else 0
theorem JN (a b:Int):0 < eN a b↔b < a:=by unfold eN;split <;> (try split) <;> lia
theorem im {aS a0 kT:Type} {l:List aS} {m:List a0} {f g:aS->a0->kT} (h:(l.map λa=>m.map λb=>f a b)=(l.map λa=>m.map λb=>g a b)):∀a∈l,∀b∈m,f a b=g a b:=λa bw b aA=>
 List.map_inj_left.mp (List.map_inj_left.mp h a bw) b aA
noncomputable def bq:V->List Nat
 | .str l=>l
 | .int i=>nG i
 | .bool true=>[49]
 | _=>[]
noncomputable def intD:V->Int
 | .int i=>i
 | .bool b=>if b then 1 else 0
 | .str l=>if l=[49,48]\/l=[48,49,48] then 10 else if l=[57] then 9 else if l=[32,55] then 7 else 0
 | _=>0
theorem IZ (D:am) (h:Nat):∀v∈b4,o7 [.ref h,v] D=some (.str (bq v),D):=by
 have:(b4.map λv=>o7 [.ref h,v] D)=(b4.map λv=>some (.str (bq v),D)):=by rfl'
 exact List.map_inj_left.mp this
theorem IY (D:am) (h:Nat):∀v∈b4,g1 [.ref h,v] D=some (.int (intD v),D):=by
 have:(b4.map λv=>g1 [.ref h,v] D)=(b4.map λv=>some (.int (intD v),D)):=by rfl'
 exact List.map_inj_left.mp this
theorem te:∀v∈b4,asc (bq v)=true:=by
 have:(b4.all λv=>asc (bq v))=true:=by rfl'
 exact List.all_eq_true.mp this
theorem IF (D:am) {a b:List Nat} (bw:asc a=true) (aA:asc b=true):kE [.str a,.str b] D=some (.int (if a=b then 0 else if a < b then -1 else 1),D):=by
 rw [Ps];unfold zP
 by_cases h:a=b
 .subst h;have e:oEq D (.str a) (.str a)=some (.bool true):=by rw [xJ bw bw,decide_eq_true rfl]
  simp! only [e]
 .by_cases ao:a < b
  .simp! only [xJ bw aA,h,ao,decide_true,decide_false]
  .simp! only [xJ bw aA,h,ao,decide_false]
noncomputable def ga (c:Nat):Nat:=if 65<=c/\c<=90 then c+32 else c
noncomputable def up1 (c:Nat):Nat:=if 97<=c/\c<=122 then c - 32 else c
noncomputable def AD:bK:=(cn (a' (iI oLe oLe (ab (.str [65])) (G 2) (ab (.str [90])))) (ak rU (H (aM cV (ak hd (H (G 2) aa)) (ab (.int 32))) aa)) (G 2))
noncomputable def AF:bK:=(cn (a' (iI oLe oLe (ab (.str [97])) (G 2) (ab (.str [122])))) (ak rU (H (aM eA (ak hd (H (G 2) aa)) (ab (.int 32))) aa)) (G 2))
noncomputable def uH (L:List V) (D:am):Option (V×am):=(ys L).bind λcL=>if decide (([]:List Nat).length<=16) && decide ((cL.map (·.length)).sum+cL.length<=1048576) then u6 (Txt.join ⟨([]:List Nat).toArray⟩ cL) D else none
theorem TE (l:List Nat) (m:Nat) (D:am):∀c∈List.range 128,AD [.str l,.ref m,.str [c],.u,.u] D=some (.str [ga c],D):=by
 have:((List.range 128).map λc=>AD [.str l,.ref m,.str [c],.u,.u] D)=((List.range 128).map λc=>some (.str [ga c],D)):=by rfl'
 exact List.map_inj_left.mp this
theorem ZN (l:List Nat) (m:Nat) (D:am):∀c∈List.range 128,AF [.str l,.ref m,.str [c],.u,.u] D=some (.str [up1 c],D):=by
 have:((List.range 128).map λc=>AF [.str l,.ref m,.str [c],.u,.u] D)=((List.range 128).map λc=>some (.str [up1 c],D)):=by rfl'
 exact List.map_inj_left.mp this
noncomputable def ei (f:Nat->Nat) (l:List Nat):List V:=l.map λc=>.str [f c]
theorem SN (D:am):∀v∈b4,uH (ei ga (bq v)) D=some (.str ((bq v).map ga),D):=by
 have:(b4.map λv=>uH (ei ga (bq v)) D)=(b4.map λv=>some (.str ((bq v).map ga),D)):=by rfl'
 exact List.map_inj_left.mp this
theorem SO (D:am):∀v∈b4,uH (ei up1 (bq v)) D=some (.str ((bq v).map up1),D):=by
 have:(b4.map λv=>uH (ei up1 (bq v)) D)=(b4.map λv=>some (.str ((bq v).map up1),D)):=by rfl'
 exact List.map_inj_left.mp this
theorem yr:∀v∈b4,(bq v).length<=10:=by
 have:(b4.all λv=>decide ((bq v).length<=10))=true:=by rfl'
 intro v aI;exact of_decide_eq_true (List.all_eq_true.mp this v aI)
theorem Fc {e:bK} {f:Nat->Nat} {l:List Nat} (bw:asc l=true) (aW:l.length<=10) (cW:∀(m:Nat) (D:am),∀c∈List.range 128,e [.str l,.ref m,.str [c],.u,.u] D=some (.str [f c],D)) (D:am):
  ∃bX,e7 (G 0) (cx 2) (af (b9 (bS c2 c0 (G 1) (H e aa))) aq) 100 [.str l,.ref D.length,.u,.u,.u] (D++[.list []])=some (.nx,bX,D++[.list (ei f l)])/\∃x,bX=[.str l,.ref D.length,x,.u,.u]:=by
 refine fZ (kr (v:=.str l) (l:=l.map λc=>.str [c]) (g:=cx 2) (f:=af (b9 (bS c2 c0 (G 1) (H e aa))) aq)
  (λk ag ai=>(∃x,ag=[.str l,.ref D.length,x,.u,.u])/\ai=D++[.list (ei f (l.take k))]) (λk ag ai _=>by rw [CE,List.getElem?_map]) (λk x ag ai aw ax=>by
   revert aw;refine gT λbd bl=>?_;revert bd;refine d7 λs bl=>?_;subst bl;subst bl;rw [List.getElem?_map] at ax;refine a2 (Option.map_eq_some_iff.mp ax) λc bj aV=>?_;subst aV;have Rc:=List.mem_of_getElem? bj;have A3:c∈List.range 128:=by
    unfold asc at bw;have:=List.all_eq_true.mp bw c Rc;simp only [decide_eq_true_eq] at this;exact List.mem_range.mpr this
   have jc:ei f (l.take (k+1))=ei f (l.take k)++[.str [f c]]:=by
    unfold ei;rw [List.take_add_one,bj,List.map_append];rfl
   have lk:(ei f (l.take k)).length<=10:=by unfold ei;rw [List.length_map,List.length_take];lia
   refine ⟨[.str l,.ref D.length,.str [c],.u,.u],[.str l,.ref D.length,.str [c],.u,.u],D++[.list (ei f (l.take (k+1)))],rfl,?_,⟨_,rfl⟩,rfl⟩;have E:=cW D.length (D++[.list (ei f (l.take k))]) c A3;have dH:=ht (.str [f c]) (eL D (.list (ei f (l.take k)))) (by unfold big;lia);rw [j1] at dH;have jm:bS c2 c0 (G 1) (H e aa) [.str l,.ref D.length,.str [c],.u,.u] (D++[.list (ei f (l.take k))])=some (.none,D++[.list (ei f (l.take (k+1)))]):=by
    rw [jc];simp only [bS,ff,List.getElem?_cons_succ,List.getElem?_cons_zero,Option.bind_some,ir,ip (eL D (.list (ei f (l.take k)))),if_true,H,E,aa,Option.map_some,dH]
   exact aF (fP jm)) 100 0 (by simp;lia) (Nat.zero_le _) [.str l,.ref D.length,.u,.u,.u] (D++[.list []]) ⟨⟨_,rfl⟩,rfl⟩) λbX al bH dh fK=>?_;revert dh;refine d7 λx bl=>?_;subst bl;subst fK
 rw [List.length_map,List.take_length] at bH;exact ⟨_,ja (v:=.str l) (ai:=D++[.list []]) rfl (BS bw _) bH,x,rfl⟩
theorem HC {m:Nat} {L:List V} (h:D[m]? =some (.list L)):p8 [.str [],.ref m] D=uH L D:=by
 show (fx D (.ref m)).bind _=_;rw [my h];rfl
theorem IN (D:am) (v:V) (aI:v∈b4):m_lower [.str (bq v)] D=some (.str ((bq v).map ga),D++[.list (ei ga (bq v))]):=by
 rw [PE];unfold zY;refine a2 (Fc (te v aI) (yr v aI) (λm D=>TE (bq v) m D) D) λ_ e ci=>?_;revert ci;refine d7 λx bl=>?_;subst bl;unfold AD at e;have fY:a1 1 (cM aa) [.str (bq v),.u,.u,.u,.u] D=some (.nx,[.str (bq v),.ref D.length,.u,.u,.u],D++[.list []]):=rfl;have j:=HC (eL D (.list (ei ga (bq v))));rw [SN _ v aI] at j;have dF:bS ik p8 (ab (.str [])) (H (G 1) aa) [.str (bq v),.ref D.length,x,.u,.u] (D++[.list (ei ga (bq v))])=some (.str ((bq v).map ga),D++[.list (ei ga (bq v))]):=by
  simp! only [BP,j]
 rw [aF fY,aF e,b6 (c4 dF)]
 rfl
theorem IT (D:am) (v:V) (aI:v∈b4):mQ [.str (bq v)] D=some (.str ((bq v).map up1),D++[.list (ei up1 (bq v))]):=by
 rw [PP];unfold z5;refine a2 (Fc (te v aI) (yr v aI) (λm D=>ZN (bq v) m D) D) λ_ e ci=>?_;revert ci;refine d7 λx bl=>?_;subst bl;unfold AF at e;have fY:a1 1 (cM aa) [.str (bq v),.u,.u,.u,.u] D=some (.nx,[.str (bq v),.ref D.length,.u,.u,.u],D++[.list []]):=rfl;have j:=HC (eL D (.list (ei up1 (bq v))));rw [SO _ v aI] at j;have dF:bS ik p8 (ab (.str [])) (H (G 1) aa) [.str (bq v),.ref D.length,x,.u,.u] (D++[.list (ei up1 (bq v))])=some (.str ((bq v).map up1),D++[.list (ei up1 (bq v))]):=by
  simp! only [BP,j]
 rw [aF fY,aF e,b6 (c4 dF)]
 rfl
noncomputable def Cw:aU:=(af (eB [4,3] (bM (H (ak sy (H (G 0) aa)) (H (ak sy (H (G 1) aa)) aa)))) (af (g4 (bp (aD oLt (G 3) (ak bG (H (G 0) aa))) (bp (aD oLt (G 4) (ak bG (H (G 1) aa))) bW)) (af (eB [4,3] (bM (H (ak oY (H (G 0) (H (G 3) aa))) (H (ak oY (H (G 1) (H (G 4) aa))) aa)))) (af (a7 (bp (a' (ak mO (H (G 0) (H (G 3) aa)))) (bp (a' (ak mO (H (G 1) (H (G 4) aa)))) bW)) (af (eB [6,5] (bM (H (ak nR (H (G 0) (H (G 3) aa))) (H (ak nR (H (G 1) (H (G 4) aa))) aa)))) (af (a1 7 (ak xk (H (lb (G 0) (ed (G 3)) (ed (G 5))) (H (lb (G 1) (ed (G 4)) (ed (G 6))) aa)))) (af (a7 (dI (aD ec (G 7) (ab (.int 0))) (dI (aD oEq (G 5) (ak bG (H (G 0) aa))) (dI (aD oEq (G 6) (ak bG (H (G 1) aa))) fD))) (af (aR (cn (aD ec (G 7) (ab (.int 0))) (G 7) (ak sE (H (G 0) (H (G 5) (H (G 1) (H (G 6) aa))))))) aq) aq) (af (eB [4,3] (bM (H (G 5) (H (G 6) aa)))) aq)))) aq) (af (a1 7 (ak gd (H (ak sB (H (G 0) (H (G 3) aa))) (H (ak sB (H (G 1) (H (G 4) aa))) aa)))) (af (a7 (aD ec (G 7) (ab (.int 0))) (af (aR (G 7)) aq) aq) (af (eB [4,3] (bM (H (aM cV (G 3) (ab (.int 1))) (H (aM cV (G 4) (ab (.int 1))) aa)))) aq))))) 100) (af (aR (ak sE (H (G 0) (H (G 3) (H (G 1) (H (G 4) aa)))))) aq)))
theorem Cx:v'=af (a7 (dI (aD oEq (G 0) (ab (.str []))) (dI (aD oEq (G 1) (ab (.str []))) fD)) (af (aR (ak gd (H (ak bG (H (G 0) aa)) (H (ak bG (H (G 1) aa)) aa)))) aq) aq) (af (a7 (a' (G 2)) (af (eB [1,0] (bM (H (ak mQ (H (G 0) aa)) (H (ak mQ (H (G 1) aa)) aa)))) aq) aq) Cw):=rfl
noncomputable def rR:List V:=[.int 0,.int 1,.int 2,.int 3,.int 9,.int (-3),.str [97,49,48],.str [97,57],.str [66],.str [98],.str [120,32,121],.int (-2),.int 10,.str [48,49,48],.str [32,55],.str [97,49],.str [65,50],.str [97,32,51]]
theorem F0:∀v∈b4,bq v=[]\/∃bA∈rR,bq bA=bq v/\cO 6 bA=cO 6 v/\cO 14 bA=cO 14 v:=by
 have:(b4.all λv=>decide (bq v=[]) || rR.any λbA=>decide (bq bA=bq v/\cO 6 bA=cO 6 v/\cO 14 bA=cO 14 v))=true:=by rfl'
 intro v aI;have:=List.all_eq_true.mp this v aI;simp only [Bool.or_eq_true,decide_eq_true_eq,List.any_eq_true] at this;exact this
theorem Uk (D:am) (kG:V):∀a∈rR,∀b∈rR,outF (Cw [.str (bq a),.str (bq b),kG,.u,.u,.u,.u,.u,.u,.u,.u,.u,.u,.u,.u,.u,.u,.u] D)=some (.int (eN (cO 6 a) (cO 6 b)),D):=
 im (by rfl')
theorem Uj (D:am) (kG:V):∀a∈rR,∀b∈rR,outF (Cw [.str ((bq a).map up1),.str ((bq b).map up1),kG,.u,.u,.u,.u,.u,.u,.u,.u,.u,.u,.u,.u,.u,.u,.u] D)=some (.int (eN (cO 14 a) (cO 14 b)),D):=
 im (by rfl')
theorem all2 {L M:List V} {P:V->V->Bool} (h:(L.all λa=>M.all λb=>P a b)=true):∀a∈L,∀b∈M,P a b=true:=λa bw b aA=>List.all_eq_true.mp (List.all_eq_true.mp h a bw) b aA
theorem WF:∀a∈b4,∀b∈b4,(bq a=[]\/bq b=[])->eN (bq a).length (bq b).length=eN (cO 6 a) (cO 6 b)/\eN (bq a).length (bq b).length=eN (cO 14 a) (cO 14 b):=by
 intro a bw b aA mC;have:=all2 (L:=b4) (M:=b4) (P:=λa b=>!(decide (bq a=[]\/bq b=[]) && !(decide (eN (bq a).length (bq b).length=eN (cO 6 a) (cO 6 b)) && decide (eN (bq a).length (bq b).length=eN (cO 14 a) (cO 14 b))))) (by rfl') a bw b aA;simp only [decide_eq_true mC,Bool.true_and,Bool.not_not,Bool.and_eq_true,decide_eq_true_eq] at this;exact this
theorem WC:∀a∈b4,∀b∈b4,eN (intD a) (intD b)=eN (cO 1 a) (cO 1 b):=im (by rfl')
theorem WE:∀a∈b4,∀b∈b4,(if bq a=bq b then (0:Int) else if bq a < bq b then -1 else 1)=eN (cO 2 a) (cO 2 b):=im (by rfl')
theorem WD:∀a∈b4,∀b∈b4,(if (bq a).map ga=(bq b).map ga then (0:Int) else if (bq a).map ga < (bq b).map ga then -1 else 1)=eN (cO 10 a) (cO 10 b):=im (by rfl')
theorem HV:∀v∈b4,asc ((bq v).map ga)=true:=by
 have:(b4.all λv=>asc ((bq v).map ga))=true:=by rfl'
 exact List.all_eq_true.mp this
theorem IP (D:am) {a b:V} (bw:a∈b4) (aA:b∈b4) (kG:Bool):
  ∃al,o4 [.str (bq a),.str (bq b),.bool kG] D=some (.int (eN (cO (if kG then 14 else 6) a) (cO (if kG then 14 else 6) b)),al)/\Fr dx D al:=by
 have hb:∀v∈b4,oEq D (.str (bq v)) (.str [])=some (.bool (decide (bq v=[]))):=λv aI=>xJ (te v aI) (m:=[]) rfl D;have F1:oEq D (.str []) (.str [])=some (.bool true):=rfl;have jE:dI (aD oEq (G 0) (ab (.str []))) (dI (aD oEq (G 1) (ab (.str []))) fD) [.str (bq a),.str (bq b),.bool kG,.u,.u,.u,.u,.u,.u,.u,.u,.u,.u,.u,.u,.u,.u,.u] D=some (decide (bq a=[]\/bq b=[]),D):=by
  by_cases aj:bq a=[]
  .simp! only [F1,aj,decide_true,true_or]
  .by_cases ao:bq b=[]
   .simp! only [F1,hb a bw,aj,ao,decide_true,decide_false,or_true]
   .simp! only [hb a bw,hb b aA,aj,ao,decide_false,or_self]
 have jm:∀(r:Option (V×am)),outF (v' [.str (bq a),.str (bq b),.bool kG,.u,.u,.u,.u,.u,.u,.u,.u,.u,.u,.u,.u,.u,.u,.u] D)=r->o4 [.str (bq a),.str (bq b),.bool kG] D=r:=λr h=>by rw [PK];exact h
 by_cases mC:bq a=[]\/bq b=[]
 .refine ⟨D,jm _ ?_,Fr.refl D⟩;rw [decide_eq_true mC] at jE;rw [Cx];have s:=xO (bq a).length (bq b).length D;have av:ak gd (H (ak bG (H (G 0) aa)) (H (ak bG (H (G 1) aa)) aa)) [.str (bq a),.str (bq b),.bool kG,.u,.u,.u,.u,.u,.u,.u,.u,.u,.u,.u,.u,.u,.u,.u] D=some (.int (eN (bq a).length (bq b).length),D):=by
   simp! only [Gf,s] <;> rfl
  rw [b6 ((dw jE).trans (b6 (c4 av)))];have:=WF a bw b aA mC
  cases kG with
  | false=>rw [this.1];rfl
  | true=>rw [this.2];rfl
 .rw [decide_eq_false mC] at jE;rw [not_or] at mC;refine vD ((F0 a bw).resolve_left mC.1) λbA dD g7 fU lB=>?_;refine vD ((F0 b aA).resolve_left mC.2) λw hw yD pC Z7=>?_
  cases kG with
  | false=>
   refine ⟨D,jm _ ?_,Fr.refl D⟩;rw [Cx,aF ((ch jE).trans rfl),aF (ch (show a' (G 2) [.str (bq a),.str (bq b),.bool false,.u,.u,.u,.u,.u,.u,.u,.u,.u,.u,.u,.u,.u,.u,.u] D=some (false,D) from rfl))];have:=Uk D (.bool false) bA dD w hw;rw [g7,yD,fU,pC] at this;exact this
  | true=>
   have r1:=IT D a bw;have cp:=IT (D++[.list (ei up1 (bq a))]) b aA;refine ⟨D++[.list (ei up1 (bq a))]++[.list (ei up1 (bq b))],jm _ ?_,(Fr.app _ _).t (Fr.app _ _)⟩;have tc:eB [1,0] (bM (H (ak mQ (H (G 0) aa)) (H (ak mQ (H (G 1) aa)) aa))) [.str (bq a),.str (bq b),.bool true,.u,.u,.u,.u,.u,.u,.u,.u,.u,.u,.u,.u,.u,.u,.u] D=some (.nx,[.str ((bq a).map up1),.str ((bq b).map up1),.bool true,.u,.u,.u,.u,.u,.u,.u,.u,.u,.u,.u,.u,.u,.u,.u],D++[.list (ei up1 (bq a))]++[.list (ei up1 (bq b))]):=by
    simp! only [r1,cp] <;> rfl
   rw [Cx,aF ((ch jE).trans rfl),aF ((dw (show a' (G 2) [.str (bq a),.str (bq b),.bool true,.u,.u,.u,.u,.u,.u,.u,.u,.u,.u,.u,.u,.u,.u,.u] D=some (true,D) from rfl)).trans (aF tc))];have:=Uj (D++[.list (ei up1 (bq a))]++[.list (ei up1 (bq b))]) (.bool true) bA dD w hw;rw [g7,yD,lB,Z7] at this;exact this
noncomputable def pO (pf:Int) (L:List V):Prop:=(pf≠0/\L=b4)\/(L=hY.take 6\/L=hY.drop 6\/L=jH.take 8\/L=(jH.drop 8).take 6)
theorem pO.At {pf:Int} {L:List V} (h:pO pf L):∀v∈L,v∈b4:=by
 rcases h with ⟨_,rfl⟩ | rfl | rfl | rfl | rfl
 .exact λ_ h=>h
 .exact λv h=>List.mem_append_left _ (List.mem_of_mem_take h)
 .exact λv h=>List.mem_append_left _ (List.mem_of_mem_drop h)
 .exact λv h=>List.mem_append_right _ (List.mem_of_mem_take h)
 .exact λv h=>List.mem_append_right _ (List.mem_of_mem_drop (List.mem_of_mem_take h))
theorem Og (D:am) (h:Nat) {L:List V} (fp:L=hY.take 6\/L=hY.drop 6\/L=jH.take 8\/L=(jH.drop 8).take 6):∀a∈L,∀b∈L,uS [.ref h,a,b] D=some (.int (eN (cO 0 a) (cO 0 b)),D):=by
 rcases fp with rfl | rfl | rfl | rfl
 .exact im (by rfl')
 .exact im (by rfl')
 .exact im (by rfl')
 .exact im (by rfl')
theorem iG:∀v∈b4,ez v=true:=by
 have:(b4.all ez)=true:=by rfl'
 exact List.all_eq_true.mp this
noncomputable def oi (pf:Int):Prop:=pf=0\/pf=1\/pf=2\/pf=10\/pf=6\/pf=14
theorem IW (D:am) (h:Nat) {pf:Int} (aw:oi pf) {L:List V} (fp:pO pf L) {a b:V} (bw:a∈L) (aA:b∈L):
  ∃al,lZ [.ref h,a,b,.int pf] D=some (.int (eN (cO pf a) (cO pf b)),al)/\Fr dx D al:=by
 have da:=fp.At a bw;have ia:=fp.At b aA;have ma:=iG a da;have c7:=iG b ia;have Zj:=IZ D h a da;have bP:=IZ D h b ia;have jm:∀(r:Option (V×am)),outF (nk [.ref h,a,b,.int pf,.u,.u,.u,.u,.u,.u,.u,.u,.u] D)=r->lZ [.ref h,a,b,.int pf] D=r:=λr hh=>by rw [PW];exact hh
 have tc:eB [5,4] (bM (H (ak o7 (H (G 0) (H (G 1) aa))) (H (ak o7 (H (G 0) (H (G 2) aa))) aa))) [.ref h,a,b,.int pf,.u,.u,.u,.u,.u,.u,.u,.u,.u] D=some (.nx,[.ref h,a,b,.int pf,.str (bq a),.str (bq b),.u,.u,.u,.u,.u,.u,.u],D):=by
  simp! only [cG ma,cG c7,Zj,bP] <;> rfl
 rcases aw with rfl | rfl | rfl | rfl | rfl | rfl
 .have QS:=fp.resolve_left λq=>q.1 rfl;refine ⟨D,jm _ ?_,Fr.refl D⟩;unfold nk;rw [aF ((ch (ai:=D) (by rfl')).trans rfl),aF ((ch (ai:=D) (by rfl')).trans rfl)];have av:ak uS (H (G 0) (H (G 1) (H (G 2) aa))) [.ref h,a,b,.int 0,.u,.u,.u,.u,.u,.u,.u,.u,.u] D=some (.int (eN (cO 0 a) (cO 0 b)),D):=by
   simp! only [cG ma,cG c7,Og D h QS a bw b aA]
  rw [b6 (c4 av)];rfl
 .refine ⟨D,jm _ ?_,Fr.refl D⟩;unfold nk;have cf:=IY D h a da;have kz:=IY D h b ia;have av:ak gd (H (ak g1 (H (G 0) (H (G 1) aa))) (H (ak g1 (H (G 0) (H (G 2) aa))) aa)) [.ref h,a,b,.int 1,.u,.u,.u,.u,.u,.u,.u,.u,.u] D=some (.int (eN (intD a) (intD b)),D):=by
   simp! only [cG ma,cG c7,cf,kz,xO] <;> rfl
  rw [b6 ((dw (ai:=D) (by rfl')).trans (b6 (c4 av))),WC a da b ia];rfl
 .refine ⟨D,jm _ ?_,Fr.refl D⟩;unfold nk;have av:ak kE (H (G 4) (H (G 5) aa)) [.ref h,a,b,.int 2,.str (bq a),.str (bq b),.u,.u,.u,.u,.u,.u,.u] D=some (.int (eN (cO 2 a) (cO 2 b)),D):=by
   simp! only [IF D (te a da) (te b ia),WE a da b ia]
  rw [aF ((ch (ai:=D) (by rfl')).trans rfl),b6 ((dw (ai:=D) (by rfl')).trans ((aF tc).trans (b6 ((dw (ai:=D) (by rfl')).trans (b6 (c4 av))))))]
  rfl
 .have iO:=IN D a da;have eb:=IN (D++[.list (ei ga (bq a))]) b ia;refine ⟨D++[.list (ei ga (bq a))]++[.list (ei ga (bq b))],jm _ ?_,(Fr.app _ _).t (Fr.app _ _)⟩;unfold nk;have av:ak kE (H (ak m_lower (H (G 4) aa)) (H (ak m_lower (H (G 5) aa)) aa)) [.ref h,a,b,.int 10,.str (bq a),.str (bq b),.u,.u,.u,.u,.u,.u,.u] D=some (.int (eN (cO 10 a) (cO 10 b)),D++[.list (ei ga (bq a))]++[.list (ei ga (bq b))]):=by
   simp! only [iO,eb,IF (D++[.list (ei ga (bq a))]++[.list (ei ga (bq b))]) (HV a da) (HV b ia),WD a da b ia]
  rw [aF ((ch (ai:=D) (by rfl')).trans rfl),b6 ((dw (ai:=D) (by rfl')).trans ((aF tc).trans ((aF ((ch (ai:=D) (by rfl')).trans rfl)).trans (b6 ((dw (ai:=D) (by rfl')).trans (b6 (c4 av)))))))]
  rfl
 .refine a2 (IP D da ia false) λal e5 F=>?_;refine ⟨al,jm _ ?_,F⟩;unfold nk;have q:aM oEq (G 3) (ab (.int 14)) [.ref h,a,b,.int 6,.str (bq a),.str (bq b),.u,.u,.u,.u,.u,.u,.u] D=some (.bool false,D):=by rfl'
  have av:ak o4 (H (G 4) (H (G 5) (H (aM oEq (G 3) (ab (.int 14))) aa))) [.ref h,a,b,.int 6,.str (bq a),.str (bq b),.u,.u,.u,.u,.u,.u,.u] D=some (.int (eN (cO 6 a) (cO 6 b)),al):=by
   simp only [ak,H,aa,ff,List.getElem?_cons_succ,List.getElem?_cons_zero,Option.bind_some,qX,q,Option.map_some,e5];rfl
  rw [aF ((ch (ai:=D) (by rfl')).trans rfl),b6 ((dw (ai:=D) (by rfl')).trans ((aF tc).trans ((aF ((ch (ai:=D) (by rfl')).trans rfl)).trans ((aF ((ch (ai:=D) (by rfl')).trans rfl)).trans (b6 (c4 av))))))]
  rfl
 .refine a2 (IP D da ia true) λal e5 F=>?_;refine ⟨al,jm _ ?_,F⟩;unfold nk;have q:aM oEq (G 3) (ab (.int 14)) [.ref h,a,b,.int 14,.str (bq a),.str (bq b),.u,.u,.u,.u,.u,.u,.u] D=some (.bool true,D):=by rfl'
  have av:ak o4 (H (G 4) (H (G 5) (H (aM oEq (G 3) (ab (.int 14))) aa))) [.ref h,a,b,.int 14,.str (bq a),.str (bq b),.u,.u,.u,.u,.u,.u,.u] D=some (.int (eN (cO 14 a) (cO 14 b)),al):=by
   simp only [ak,H,aa,ff,List.getElem?_cons_succ,List.getElem?_cons_zero,Option.bind_some,qX,q,Option.map_some,e5];rfl
  rw [aF ((ch (ai:=D) (by rfl')).trans rfl),b6 ((dw (ai:=D) (by rfl')).trans ((aF tc).trans ((aF ((ch (ai:=D) (by rfl')).trans rfl)).trans ((aF ((ch (ai:=D) (by rfl')).trans rfl)).trans (b6 (c4 av))))))]
  rfl
noncomputable def i':V:=.str [99,97,108,108]
structure mr (D:am) (h d:Nat) (ea:List V):Prop where
 i:D[h]? =some (.inst 922 ea)
 f0:ea[0]? =some (.ref d)
 gZ:ea[6]? =some (.int 0)
 d:D[d]? =some (.dict [(i',.con (.ref 1030))])
theorem VW {h d:Nat} {ea:List V} (A:mr D h d ea):sl [.ref h,i'] D=some (.con (.ref 1030),D):=by
 have f0:fld 922 0 D (.ref h)=some (.ref d):=gq A.i A.f0 rfl;have t:aD u3 (G 1) (aN 922 0 (G 0)) [.ref h,i',.u] D=some (false,D):=by
  simp! only [f0,u3,rO A.d,i'] <;> rfl
 have e:nu (aN 922 0 (G 0)) (G 1) [.ref h,i',.u] D=some (.con (.ref 1030),D):=by
  simp! only [nu,f0,uE,rO A.d,i'] <;> rfl
 rw [O8];unfold zx;rw [aF ((ch t).trans rfl),b6 (c4 e)]
 rfl
noncomputable def eV (s:Nat) (m:Int):V:=if s=1 then .bool (decide (0 < m)) else if s=2 then .str (nG m) else if s=3 then (if m=0 then .none else .int (m * 1000)) else .int m
noncomputable def pA (s:Nat) (m:Int):Int:=if s=1 then (if 0 < m then 1 else 0) else if s=3 then m * 1000 else m
theorem HL (D:am):∀w∈List.range 4,∀v∈b4,nQ [.int (w:Int),v] D=some (.int (ct w v),D):=by
 have:((List.range 4).map λ(w:Nat)=>b4.map λv=>nQ [.int (w:Int),v] D)=((List.range 4).map λ(w:Nat)=>b4.map λv=>some (.int (ct w v),D)):=by rfl'
 exact λa bw b aA=>List.map_inj_left.mp (List.map_inj_left.mp this a bw) b aA
theorem Ju:∀w∈List.range 4,∀v∈b4,decide (-10<=ct w v/\ct w v<=10)=true:=by
 have:((List.range 4).all λ(w:Nat)=>b4.all λv=>decide (-10<=ct w v/\ct w v<=10))=true:=by rfl'
 exact λa bw b aA=>List.all_eq_true.mp (List.all_eq_true.mp this a bw) b aA
noncomputable def mH:List Int:=(List.range 61).map λ(k:Nat)=>(k:Int) - 30
theorem TZ {m:Int} (aj:-30<=m) (ao:m<=30):m∈mH:=by
 unfold mH;exact List.mem_map.mpr ⟨(m+30).toNat,List.mem_range.mpr (by lia),by lia⟩
theorem JZ (D:am) (h:Nat):∀m∈mH,jR [.int m] D=some (.str (nG m),D)/\g1 [.ref h,.str (nG m)] D=some (.int m,D):=by
 have aj:(mH.map λm=>jR [.int m] D)=(mH.map λm=>some (.str (nG m),D)):=by rfl'
 have ao:(mH.map λm=>g1 [.ref h,.str (nG m)] D)=(mH.map λm=>some (.int m,D)):=by rfl'
 exact λm aP=>⟨List.map_inj_left.mp aj m aP,List.map_inj_left.mp ao m aP⟩
theorem Ka (D:am) (h:Nat) (m:Int):g1 [.ref h,.int m] D=some (.int m,D):=by rfl'
theorem Zu (D:am) (h:Nat):g1 [.ref h,.none] D=some (.int 0,D):=by rfl'
theorem Zt (D:am) (h:Nat) (b:Bool):g1 [.ref h,.bool b] D=some (.int (if b then 1 else 0),D):=by cases b <;> rfl'
theorem J' (D:am) (h:Nat) {s:Nat} (hs:s∈List.range 4) {m:Int} (aP:m∈mH):g1 [.ref h,eV s m] D=some (.int (pA s m),D):=by
 unfold eV pA
 by_cases aj:s=1
 .rw [if_pos aj,if_pos aj,Zt]
  by_cases h0:0 < m
  .rw [decide_eq_true h0,if_pos h0];rfl
  .rw [decide_eq_false h0,if_neg h0];rfl
 .rw [if_neg aj,if_neg aj]
  by_cases ao:s=2
  .subst ao;rw [if_pos rfl,if_neg (by lia)];exact (JZ D h m aP).2
  .rw [if_neg ao]
   by_cases aL:s=3
   .rw [if_pos aL,if_pos aL]
    by_cases h0:m=0
    .rw [if_pos h0,h0];exact Zu D h
    .rw [if_neg h0];exact Ka D h _
   .rw [if_neg aL,if_neg aL];exact Ka D h _
theorem CY (D:am) {w s:Nat} (hw:w∈List.range 4) (hs:s∈List.range 4) {a b:V} (bw:a∈b4) (aA:b∈b4):
  sm [.int (w:Int),.int (s:Int),a,b] D=some (eV s (ct w a - ct w b),D)/\(ct w a - ct w b)∈mH:=by
 have k5:=of_decide_eq_true (Ju w hw a bw);have jP:=of_decide_eq_true (Ju w hw b aA);have aP:(ct w a - ct w b)∈mH:=TZ (by lia) (by lia);refine ⟨?_,aP⟩;have g7:=HL D w hw a bw;have fU:=HL D w hw b aA;have ma:=iG a bw;have c7:=iG b aA;have cP:a1 4 (aM eA (ak nQ (H (G 0) (H (G 2) aa))) (ak nQ (H (G 0) (H (G 3) aa)))) [.int (w:Int),.int (s:Int),a,b,.u,.u,.u] D=some (.nx,[.int (w:Int),.int (s:Int),a,b,.int (ct w a - ct w b),.u,.u],D):=by
  simp! only [cG ma,cG c7,g7,fU]
 generalize ct w a - ct w b=m at cP aP;rw [Pa];unfold zA;rw [aF cP];have dR:∀c:Int,aD oEq (G 1) (ab (.int c)) [.int (w:Int),.int (s:Int),a,b,.int m,.u,.u] D=some (decide ((s:Int)=c),D):=λc=>by
  simp! only [h2]
 have dW:=dR 1;have fT:=dR 2;have j3:=dR 3;have iL:=List.mem_range.mp hs;unfold eV
 by_cases aj:s=1
 .subst aj;rw [b6 ((dw dW).trans (b6 (c4 (show aM eZ (G 4) (ab (.int 0)) [.int (w:Int),.int ((1:Nat):Int),a,b,.int m,.u,.u] D=some (.bool (decide (m > 0)),D) by simp! only []))))]
  rfl
 .rw [decide_eq_false (by lia)] at dW;rw [aF ((ch dW).trans rfl),if_neg aj]
  by_cases ao:s=2
  .subst ao;rw [b6 ((dw fT).trans (b6 (c4 (show ak jR (H (G 4) aa) [.int (w:Int),.int ((2:Nat):Int),a,b,.int m,.u,.u] D=some (.str (nG m),D) by simp! only [(JZ D 0 m aP).1]))))]
   rfl
  .rw [decide_eq_false (by lia)] at fT;rw [aF ((ch fT).trans rfl),if_neg ao]
   by_cases aL:s=3
   .subst aL;have bN:cn (aD oEq (G 4) (ab (.int 0))) (ab .none) (aM gM (G 4) (ab (.int 1000))) [.int (w:Int),.int ((3:Nat):Int),a,b,.int m,.u,.u] D=some (if m=0 then .none else .int (m * 1000),D):=by
     by_cases h0:m=0
     .subst h0;rfl
     .have q3:g5 1000=true:=by rfl'
      simp! only [h2,h0,decide_false,CJ q3]
    rw [b6 ((dw j3).trans (b6 (c4 bN)))]
    rfl
   .rw [decide_eq_false (by lia)] at j3;rw [aF ((ch j3).trans rfl),if_neg aL,b6 (c4 (show G 4 [.int (w:Int),.int (s:Int),a,b,.int m,.u,.u] D=some (.int m,D) from rfl))]
    rfl
noncomputable def fl (w s:Nat):V:=.str [48+w,48+s]
theorem ON (D:am) (x y:V):∀w∈List.range 4,∀s∈List.range 4,(ak kp (H (aT (G 1) (ab (.int 0))) aa) [x,fl w s,y,.u,.u] D,ak kp (H (aT (G 1) (ab (.int 1))) aa) [x,fl w s,y,.u,.u] D)=(some (.int (w:Int),D),some (.int (s:Int),D)):=by
 have:((List.range 4).map λ(w:Nat)=>(List.range 4).map λ(s:Nat)=>(ak kp (H (aT (G 1) (ab (.int 0))) aa) [x,fl w s,y,.u,.u] D,ak kp (H (aT (G 1) (ab (.int 1))) aa) [x,fl w s,y,.u,.u] D))=((List.range 4).map λ(w:Nat)=>(List.range 4).map λ(s:Nat)=>(some (.int (w:Int),D),some (.int (s:Int),D))):=by rfl'
 exact λa bw b aA=>List.map_inj_left.mp (List.map_inj_left.mp this a bw) b aA
theorem Vv {h d:Nat} {ea:List V} (A:mr D h d ea) {w s:Nat} (hw:w∈List.range 4) (hs:s∈List.range 4) {a b:V} (bw:a∈b4) (aA:b∈b4):
  lm [.ref h,fl w s,.ap [a,b]] D=some (eV s (ct w a - ct w b),D):=by
 have an:=(CY D hw hs bw aA).1;have nq:=ON D (.ref h) (.ap [a,b]) w hw s hs;refine cq (Prod.mk.inj nq) λeK fO=>?_;have a9:item D (.ap [a,b]) (.int 0)=some a:=iN (k:=0) rfl;have eE:item D (.ap [a,b]) (.int 1)=some b:=iN (k:=1) rfl;have B2:uR [.ref h,fl w s,.ap [a,b]] D=some (eV s (ct w a - ct w b),D):=by
  have x1:ak sm (H (ak kp (H (aT (G 1) (ab (.int 0))) aa)) (H (ak kp (H (aT (G 1) (ab (.int 1))) aa)) (H (aT (G 2) (ab (.int 0))) (H (aT (G 2) (ab (.int 1))) aa)))) [.ref h,fl w s,.ap [a,b],.u,.u] D=some (eV s (ct w a - ct w b),D):=by
   refine (eS (l:=[.int (w:Int),.int (s:Int),a,b]) (ai:=D) ?_).trans an;have vx:aT (G 2) (ab (.int 0)) [.ref h,fl w s,.ap [a,b],.u,.u] D=some (a,D):=by simp! only [a9]
   have yE:aT (G 2) (ab (.int 1)) [.ref h,fl w s,.ap [a,b],.u,.u] D=some (b,D):=by simp! only [eE]
   simp only [H,aa,eK,fO,vx,yE,Option.bind_some,Option.map_some]
  rw [Pc];unfold zC;rw [b6 (c4 x1)]
  rfl
 have i0:=VW A;have Va:=xL A.i;have ic:bS (eT 922) sl (G 0) (H (ab (.str [99,97,108,108])) aa) [.ref h,fl w s,.ap [a,b]] D=some (.con (.ref 1030),D):=by
  refine (nW (v:=.ref h) (ai:=D) (l:=[i']) (aY:=D) ?_ Va ?_).trans i0
  .simp! only []
  .rfl
 have gr:H (G 0) (H (G 1) (H (G 2) aa)) [.ref h,fl w s,.ap [a,b]] D=some ([.ref h,fl w s,.ap [a,b]],D):=by simp! only [fl]
 rw [O6];unfold zv;refine (congrArg outF (b6 (c4 (v:=eV s (ct w a - ct w b)) (ai:=D) ?_))).trans rfl;simp only [Ay,ic,gr,Option.bind_some,Kj,if_true,B2]
noncomputable def wr:List Nat:=[68,101,112,114,101,99,97,116,101,100]
noncomputable def jF:List Nat:=[40,41,58,32,82,101,116,117,114,110,105,110,103,32,98,111,111,108,32,102,114,111,109,32,99,111,109,112,97,114,105,115,111,110,32,102,117,110,99,116,105,111,110,32,105,115,32,100,101,112,114,101,99,97,116,101,100,44]
noncomputable def me:List Nat:=[32,114,101,116,117,114,110,32,97,110,32,105,110,116,101,103,101,114,32,108,101,115,115,32,116,104,97,110,44,32,101,113,117,97,108,32,116,111,44,32,111,114,32,103,114,101,97,116,101,114,32,116,104,97,110,32,122,101,114,111,32,105,110,115,116,101,97,100]
noncomputable def iQ (nm:List Nat):V:=.tup [.str wr,.str (nm++jF++me)]
theorem VY {h n:Nat} {ea gv:List V} (i:D[h]? =some (.inst 922 ea)) (gH:ea[5]? =some (.ref n)) (gZ:ea[6]? =some (.int 0)) (a3:D[n]? =some (.list gv)) (aA:gv.length < big) (x y:List Nat):
  oT [.ref h,.str x,.str y] D=some (.none,D.set n (.list (gv++[.tup [.str x,.str y]]))):=by
 have GA:fld 922 5 D (.ref h)=some (.ref n):=gq i gH rfl;have GB:fld 922 6 D (.ref h)=some (.int 0):=gq i gZ rfl;have dH:=ht (.tup [.str x,.str y]) a3 aA;have ok:=ip a3;have t:aD oEq (aN 922 6 (G 0)) (ab (.int 0)) [.ref h,.str x,.str y] D=some (true,D):=by simp! only [GB,h2,decide_true]
 have e:bS c2 c0 (aN 922 5 (G 0)) (H (bM (H (G 1) (H (G 2) aa))) aa) [.ref h,.str x,.str y] D=some (.none,D.set n (.list (gv++[.tup [.str x,.str y]]))):=by
  have eb:([.str x,.str y]:List V).length<=big:=by unfold big;simp
  simp! only [GA,ok,eb,dH]
 rw [O9];unfold zy;rw [aF ((dw t).trans (aF (fP e)))]
 rfl
noncomputable def pD (s:Nat) (m:Int):Int:=if s=1/\¬0 < m then -(eN (if 0 < -m then 1 else 0) 0) else eN (pA s m) 0
theorem aao (s:Nat) (m:Int):0 < pD s m↔0 < m:=by
 unfold pD pA eN
 by_cases aj:s=1
 .subst aj
  by_cases h:0 < m
  .simp [h]
  .by_cases ao:0 < -m
   .simp [h];lia
   .simp [h];lia
 .by_cases aL:s=3
  .subst aL;simp;split <;> (try split) <;> lia
  .simp [aj,aL];split <;> (try split) <;> lia
noncomputable def Dy:aU:=(af (a7 (bp (a' (G 6)) (bp (ek (a' (G 5))) bW)) (af (aR (dU ej (ak gd (H (ak g1 (H (G 0) (H (bS (eT 922) lm (G 0) (H (aT (G 1) (ab (.int 1))) (H (ef (H (G 3) (H (G 2) aa))) aa))) aa))) (H (ab (.int 0)) aa))))) aq) aq) (af (aR (ak gd (H (ak g1 (H (G 0) (H (G 5) aa))) (H (ab (.int 0)) aa)))) aq))
noncomputable def Kf:aU:=(af (b9 (bS c2 c0 (G 4) (H (ab (.bool true)) aa))) (af (a1 7 (cn (aD eZ (ak bG (H (G 1) aa)) (ab (.int 3))) (aT (G 1) (ab (.int 3))) (ab (.str [117,115,111,114,116])))) (af (b9 (bS (eT 922) oT (G 0) (H (ab (.str [68,101,112,114,101,99,97,116,101,100])) (H (aM cV (aM cV (G 7) (ab (.str jF))) (ab (.str me))) aa)))) aq)))
theorem ZL:Aa=af (a1 5 (bS (eT 922) lm (G 0) (H (aT (G 1) (ab (.int 1))) (H (ef (H (G 2) (H (G 3) aa))) aa)))) (af (a1 6 (aM oEq (ak gc (H (G 5) aa)) (ab (.str [98,111,111,108])))) (af (a7 (bp (a' (G 6)) (bp (aD oEq (ak bG (H (G 4) aa)) (ab (.int 0))) bW)) Kf aq) Dy)):=rfl
noncomputable def fc (w s:Nat) (bk:Bool) (nm:List Nat):V:=.tup [.str [117,115,101,114],fl w s,.bool bk,.str nm]
theorem EN (s:Nat) (m:Int):ck (eV s m)=true:=by
 unfold eV;split
 .rfl
 .split
  .rfl
  .split
   .split <;> rfl
   .rfl
theorem Fb {h d:Nat} {ea:List V} (A:mr D h d ea) {w s:Nat} (hw:w∈List.range 4) (hs:s∈List.range 4) {ag:List V} {i j:Nat} {a b:V} (bw:a∈b4) (aA:b∈b4) {bk:Bool} {nm:List Nat}
  (h0:G 0 ag D=some (.ref h,D)) (aj:G 1 ag D=some (fc w s bk nm,D)) (ao:G i ag D=some (a,D)) (aL:G j ag D=some (b,D)):
  bS (eT 922) lm (G 0) (H (aT (G 1) (ab (.int 1))) (H (ef (H (G i) (H (G j) aa))) aa)) ag D=some (eV s (ct w a - ct w b),D):=by
 have eE:item D (fc w s bk nm) (.int 1)=some (fl w s):=mJ (k:=1) rfl;have jP:([a,b]:List V).length<=big:=by unfold big;simp
 refine (nW h0 (xL A.i) (l:=[fl w s,.ap [a,b]]) (aY:=D) ?_).trans (Vv A hw hs bw aA);simp only [H,aa,aT,ab,ef,aj,ao,aL,eE,Option.bind_some,Option.map_some,jP,if_true]
theorem I0 {h d t:Nat} {ea:List V} (A:mr D h d ea) {w s:Nat} (hw:w∈List.range 4) (hs:s∈List.range 4) {a b:V} (bw:a∈b4) (aA:b∈b4) {bk:Bool} {nm:List Nat} (x:V) {q:Bool} (bL:q=decide (s=1)):
  outF (Dy [.ref h,fc w s bk nm,a,b,.ref t,eV s (ct w a - ct w b),.bool q,x,.u,.u,.u,.u] D)=some (.int (pD s (ct w a - ct w b)),D):=by
 have ma:=iG a bw;have c7:=iG b aA;have aP:=(CY D hw hs bw aA).2;have jX:=(CY D hw hs aA bw).2;have Rz:ct w b - ct w a=-(ct w a - ct w b):=by lia
 have lL:=Fb A (ag:=[.ref h,fc w s bk nm,a,b,.ref t,eV s (ct w a - ct w b),.bool q,x,.u,.u,.u,.u]) (i:=3) (j:=2) hw hs aA bw (bk:=bk) (nm:=nm) (by simp! only []) (by simp! only [fc]) (by simp! only [cG c7]) (by simp! only [cG ma]);rw [Rz] at lL jX;generalize ct w a - ct w b=m at lL aP jX;have dW:=J' D h hs aP;have fT:=J' D h hs jX;have qW:=cG (D:=D) (iu (EN s m));have OV:ak gd (H (ak g1 (H (G 0) (H (G 5) aa))) (H (ab (.int 0)) aa)) [.ref h,fc w s bk nm,a,b,.ref t,eV s m,.bool q,x,.u,.u,.u,.u] D=some (.int (eN (pA s m) 0),D):=by
  simp! only [qW,dW,xO] <;> rfl
 unfold Dy
 by_cases bj:s=1/\¬0 < m
 .revert bj;refine gT λaj ao=>?_;subst aj;rw [decide_eq_true rfl] at bL;subst bL;have dR:bp (a' (G 6)) (bp (ek (a' (G 5))) bW) [.ref h,fc w 1 bk nm,a,b,.ref t,eV 1 m,.bool true,x,.u,.u,.u,.u] D=some (true,D):=by
   have:eV 1 m=.bool false:=by unfold eV;rw [if_pos rfl,decide_eq_false ao]
   rw [this];rfl
  have OY:dU ej (ak gd (H (ak g1 (H (G 0) (H (bS (eT 922) lm (G 0) (H (aT (G 1) (ab (.int 1))) (H (ef (H (G 3) (H (G 2) aa))) aa))) aa))) (H (ab (.int 0)) aa))) [.ref h,fc w 1 bk nm,a,b,.ref t,eV 1 m,.bool true,x,.u,.u,.u,.u] D=some (.int (pD 1 m),D):=by
   have hb:ak g1 (H (G 0) (H (bS (eT 922) lm (G 0) (H (aT (G 1) (ab (.int 1))) (H (ef (H (G 3) (H (G 2) aa))) aa))) aa)) [.ref h,fc w 1 bk nm,a,b,.ref t,eV 1 m,.bool true,x,.u,.u,.u,.u] D=some (.int (pA 1 (-m)),D):=by
    refine (eS (l:=[.ref h,eV 1 (-m)]) (ai:=D) ?_).trans fT;simp only [H,aa,lL,ff,List.getElem?_cons_zero,ir,Option.bind_some,Option.map_some]
   have av:ak gd (H (ak g1 (H (G 0) (H (bS (eT 922) lm (G 0) (H (aT (G 1) (ab (.int 1))) (H (ef (H (G 3) (H (G 2) aa))) aa))) aa))) (H (ab (.int 0)) aa)) [.ref h,fc w 1 bk nm,a,b,.ref t,eV 1 m,.bool true,x,.u,.u,.u,.u] D=some (.int (eN (pA 1 (-m)) 0),D):=by
    refine (eS (l:=[.int (pA 1 (-m)),.int 0]) (ai:=D) ?_).trans (xO _ _ D);simp only [H,aa,ab,hb,Option.bind_some,Option.map_some]
   simp only [dU,av,Option.bind_some,ej,Option.map_some];unfold pD;rw [if_pos ⟨rfl,ao⟩]
   rfl
  rw [b6 ((dw dR).trans (b6 (c4 OY)))]
  rfl
 .have dR:bp (a' (G 6)) (bp (ek (a' (G 5))) bW) [.ref h,fc w s bk nm,a,b,.ref t,eV s m,.bool q,x,.u,.u,.u,.u] D=some (false,D):=by
   by_cases aj:s=1
   .subst aj;rw [decide_eq_true rfl] at bL;subst bL;have ao:0 < m:=by
     by_cases q:0 < m
     .exact q
     .exact absurd ⟨rfl,q⟩ bj
    have:eV 1 m=.bool true:=by unfold eV;rw [if_pos rfl,decide_eq_true ao]
    rw [this];rfl
   .rw [decide_eq_false aj] at bL;subst bL;rfl
  rw [aF ((ch dR).trans rfl),b6 (c4 OV)];unfold pD;rw [if_neg bj]
  rfl
theorem VX {h d n t:Nat} {ea gv i0:List V} (A:mr D h d ea) (gH:ea[5]? =some (.ref n)) (a3:D[n]? =some (.list gv)) (qN:gv.length < big) (cd:D[t]? =some (.list i0)) (ur:n≠t) {w s:Nat} (hw:w∈List.range 4) (hs:s∈List.range 4) {a b:V} (bw:a∈b4) (aA:b∈b4) {bk:Bool} {nm:List Nat} (wP:nm.length<=10):
  nU [.ref h,fc w s bk nm,a,b,.ref t] D=some (.int (pD s (ct w a - ct w b)),if s=1/\i0=[] then (D.set t (.list [.bool true])).set n (.list (gv++[iQ nm])) else D):=by
 obtain ⟨q,bL⟩:∃q,q=decide (s=1):=⟨_,rfl⟩;have ma:=iG a bw;have c7:=iG b aA;have lL:=Fb A (ag:=[.ref h,fc w s bk nm,a,b,.ref t,.u,.u,.u,.u,.u,.u,.u]) (i:=2) (j:=3) hw hs bw aA (bk:=bk) (nm:=nm) (by simp! only []) (by simp! only [fc]) (by simp! only [cG ma]) (by simp! only [cG c7]);have sc:=EN s (ct w a - ct w b);have qW:=λD:am=>cG (D:=D) (iu sc);have cP:=hI (k:=5) lL;simp only [List.set_cons_zero,List.set_cons_succ] at cP;have bO:aM oEq (ak gc (H (G 5) aa)) (ab (.str [98,111,111,108])) [.ref h,fc w s bk nm,a,b,.ref t,eV s (ct w a - ct w b),.u,.u,.u,.u,.u,.u] D=some (.bool q,D):=by
  have:oEq D (.str (kindOf (eV s (ct w a - ct w b)))) (.str [98,111,111,108])=some (.bool q):=by
   rw [bL];generalize ct w a - ct w b=m;unfold eV
   by_cases aj:s=1
   .subst aj;rfl
   .rw [if_neg aj,decide_eq_false aj];split
    .rfl
    .split
     .split <;> rfl
     .rfl
  simp! only [qW,sQ _ sc,this]
 have dF:=hI (k:=6) bO;simp only [List.set_cons_zero,List.set_cons_succ] at dF;rw [P0,ZL,aF cP,aF dF]
 by_cases bj:s=1/\i0=[]
 .rw [if_pos bj];revert bj;refine gT λaj ao=>?_;subst aj;subst ao;rw [decide_eq_true rfl] at bL;subst bL;have dR:bp (a' (G 6)) (bp (aD oEq (ak bG (H (G 4) aa)) (ab (.int 0))) bW) [.ref h,fc w 1 bk nm,a,b,.ref t,eV 1 (ct w a - ct w b),.bool true,.u,.u,.u,.u,.u] D=some (true,D):=by
   simp! only [len_list cd,h2,decide_true] <;> rfl
  have Bc:t≠h:=λq=>by have:=A.i;rw [<- q,cd] at this;cases this
  have A8:t≠d:=λq=>by have:=A.d;rw [<- q,cd] at this;cases this
  have Br:n≠h:=λq=>by have:=A.i;rw [<- q,a3] at this;cases this
  have nE:n≠d:=λq=>by have:=A.d;rw [<- q,a3] at this;cases this
  have eE:(D.set t (.list [.bool true]))[h]? =some (.inst 922 ea):=(cK Bc).trans A.i;have eK:(D.set t (.list [.bool true]))[d]? =some (.dict [(i',.con (.ref 1030))]):=(cK A8).trans A.d;have e5:(D.set t (.list [.bool true]))[n]? =some (.list gv):=(cK (λq=>ur q.symm)).trans a3;have dH:c0 [.ref t,.bool true] D=some (.none,D.set t (.list [.bool true])):=ht (.bool true) cd (by unfold big;simp);have Vb:=ip cd;have x1:bS c2 c0 (G 4) (H (ab (.bool true)) aa) [.ref h,fc w 1 bk nm,a,b,.ref t,eV 1 (ct w a - ct w b),.bool true,.u,.u,.u,.u,.u] D=some (.none,D.set t (.list [.bool true])):=by
   simp! only [Vb,dH]
  have dK:mr ((D.set t (.list [.bool true])).set n (.list (gv++[iQ nm]))) h d ea:=⟨(cK Br).trans eE,A.f0,A.gZ,(cK nE).trans eK⟩;generalize D.set t (.list [.bool true])=ai at eE eK e5 x1 dK;have m5:a1 7 (cn (aD eZ (ak bG (H (G 1) aa)) (ab (.int 3))) (aT (G 1) (ab (.int 3))) (ab (.str [117,115,111,114,116]))) [.ref h,fc w 1 bk nm,a,b,.ref t,eV 1 (ct w a - ct w b),.bool true,.u,.u,.u,.u,.u] ai=some (.nx,[.ref h,fc w 1 bk nm,a,b,.ref t,eV 1 (ct w a - ct w b),.bool true,.str nm,.u,.u,.u,.u],ai):=rfl;have aah:=VY eE gH A.gZ e5 qN wr (nm++jF++me);have LO:cV ai (.str nm) (.str jF)=some (.str (nm++jF)):=by
   have:nm.length+jF.length<=big:=by unfold big jF;simp;lia
   exact Ip this _
  have LP:cV ai (.str (nm++jF)) (.str me)=some (.str (nm++jF++me)):=by
   have:(nm++jF).length+me.length<=big:=by unfold big jF me;simp;lia
   exact Ip this _
  have x3:bS (eT 922) oT (G 0) (H (ab (.str [68,101,112,114,101,99,97,116,101,100])) (H (aM cV (aM cV (G 7) (ab (.str jF))) (ab (.str me))) aa)) [.ref h,fc w 1 bk nm,a,b,.ref t,eV 1 (ct w a - ct w b),.bool true,.str nm,.u,.u,.u,.u] ai=some (.none,ai.set n (.list (gv++[iQ nm]))):=by
   refine (nW (v:=.ref h) (ai:=ai) (l:=[.str wr,.str (nm++jF++me)]) (aY:=ai) (by simp! only []) (xL eE) ?_).trans aah;simp only [aM,H,aa,ab,ff,List.getElem?_cons_succ,List.getElem?_cons_zero,Option.bind_some,qX,Option.map_some,LO,LP]
   rfl
  unfold Kf;rw [aF ((dw dR).trans ((aF (fP x1)).trans ((aF m5).trans (aF (fP x3)))))];exact I0 dK hw hs bw aA _ rfl
 .rw [if_neg bj];have dR:bp (a' (G 6)) (bp (aD oEq (ak bG (H (G 4) aa)) (ab (.int 0))) bW) [.ref h,fc w s bk nm,a,b,.ref t,eV s (ct w a - ct w b),.bool q,.u,.u,.u,.u,.u] D=some (false,D):=by
   by_cases aj:s=1
   .have ao:i0≠[]:=λq=>bj ⟨aj,q⟩;have:¬((i0.length:Int)=0):=by have:=List.length_pos_iff.mpr ao;lia
    rw [decide_eq_true aj] at bL;subst bL
    simp! only [len_list cd,h2,this,decide_false]
   .rw [decide_eq_false aj] at bL;subst bL;rfl
  rw [aF ((ch dR).trans rfl)];exact I0 A hw hs bw aA _ bL
noncomputable def iC (N:Nat) (D:am) (s v:V):Prop:=(ck s=true/\v=s)\/∃r fs,s=.ref r/\D[r]? =some (.inst 181 (v::fs))/\ck v=true/\r < N
theorem iC.sc {N:Nat} {s v:V} (h:iC N D s v):ck v=true:=by
 obtain ⟨h,rfl⟩ | ⟨r,fs,_,_,h,_⟩:=h
 .exact h
 .exact h
theorem iC.set {N:Nat} {s v:V} (h:iC N D s v):ez s=true:=by
 obtain ⟨h,rfl⟩ | ⟨r,fs,rfl,_,h,_⟩:=h
 .exact iu h
 .rfl
theorem iC.FX {N:Nat} {s v:V} (h:iC N D s v):hj [s] D=some (v,D):=by
 obtain ⟨h,rfl⟩ | ⟨r,fs,rfl,e,h,_⟩:=h
 .exact IG _ h D
 .exact Vz e h
theorem iC.fr {N:Nat} {W:Nat->Prop} {s v:V} (h:iC N D s v) (F:Fr W D al) (hw:∀j,j < N->D[j]?≠none->W j->∀fs,D[j]?≠some (.inst 181 (v::fs))):iC N al s v:=by
 obtain ⟨h,e⟩ | ⟨r,fs,e,q,h,l⟩:=h
 .exact .inl ⟨h,e⟩
 .exact .inr ⟨r,fs,e,F.at q λw=>hw r l (by rw [q];simp) w fs q,h,l⟩
noncomputable def sR (bk:Bool) (p:V×V):V:=if bk then p.1 else p.2
noncomputable def u5:aU:=(af (a7 (aD oEq (aT (G 1) (ab (.int 0))) (ab (.str [117,115,101,114]))) (af (aR (ak nU (H (G 0) (H (G 1) (H (G 6) (H (G 7) (H (G 4) aa))))))) aq) aq) (af (a7 (a' (aT (G 1) (ab (.int 3)))) (af (aR (ak lZ (H (G 0) (H (G 7) (H (G 6) (H (aT (G 1) (ab (.int 1))) aa)))))) aq) aq) (af (aR (ak lZ (H (G 0) (H (G 6) (H (G 7) (H (aT (G 1) (ab (.int 1))) aa)))))) aq)))
noncomputable def CU:aU:=(eB [7,6] (bM (H (ak o6 (H (ak hj (H (aT (G 2) (G 5)) aa)) aa)) (H (ak o6 (H (ak hj (H (aT (G 3) (G 5)) aa)) aa)) aa))))
theorem Ve:z3=af (a7 (aD oEq (aT (G 1) (ab (.int 0))) (ab (.str [114,111,119,115]))) (af (aR k') aq) aq) (af (a1 5 (cn (a' (aT (G 1) (ab (.int 2)))) (ab (.int 0)) (ab (.int 1)))) (af CU u5)):=rfl
theorem J8 {ag:List V} {i:Nat} {bk:Bool} {p:V×V} {v:V} (aJ:G i ag D=some (aH p,D)) (eg:G 5 ag D=some (.int (if bk then 0 else 1),D)) (bn:hj [sR bk p] D=some (v,D)) (aI:ck v=true):
  ak o6 (H (ak hj (H (aT (G i) (G 5)) aa)) aa) ag D=some (v,D):=by
 have it:aT (G i) (G 5) ag D=some (sR bk p,D):=by
  have:item D (aH p) (.int (if bk then 0 else 1))=some (sR bk p):=by
   cases bk
   .exact mJ (k:=1) rfl
   .exact mJ (k:=0) rfl
  simp only [aT,aJ,eg,this,Option.bind_some,Option.map_some]
 simp only [ak,H,aa,it,bn,VT v aI,Option.bind_some,Option.map_some]
theorem IQ {h t:Nat} {mf:List Nat} {r1 r3:V} {bk:Bool} {p q:V×V} {vl vm:V} (RS:mf=[117,115,101,114]\/mf=[102,108,97,103,115]) (eK:hj [sR bk p] D=some (vl,D)) (fO:hj [sR bk q] D=some (vm,D)) (s1:ck vl=true) (s2:ck vm=true):
  lY [.ref h,.tup [.str mf,r1,.bool bk,r3],aH p,aH q,.ref t] D=outF (u5 [.ref h,.tup [.str mf,r1,.bool bk,r3],aH p,aH q,.ref t,.int (if bk then 0 else 1),vl,vm,.u,.u,.u,.u,.u] D):=by
 have jE:aD oEq (aT (G 1) (ab (.int 0))) (ab (.str [114,111,119,115])) [.ref h,.tup [.str mf,r1,.bool bk,r3],aH p,aH q,.ref t,.u,.u,.u,.u,.u,.u,.u,.u] D=some (false,D):=by
  rcases RS with rfl | rfl <;> rfl
 have fo:a1 5 (cn (a' (aT (G 1) (ab (.int 2)))) (ab (.int 0)) (ab (.int 1))) [.ref h,.tup [.str mf,r1,.bool bk,r3],aH p,aH q,.ref t,.u,.u,.u,.u,.u,.u,.u,.u] D=some (.nx,[.ref h,.tup [.str mf,r1,.bool bk,r3],aH p,aH q,.ref t,.int (if bk then 0 else 1),.u,.u,.u,.u,.u,.u,.u],D):=by
  cases bk <;> rfl
 have cz:=J8 (ag:=[.ref h,.tup [.str mf,r1,.bool bk,r3],aH p,aH q,.ref t,.int (if bk then 0 else 1),.u,.u,.u,.u,.u,.u,.u]) (i:=2) (by simp! only [] <;> rfl) (by simp! only []) eK s1;have dB:=J8 (ag:=[.ref h,.tup [.str mf,r1,.bool bk,r3],aH p,aH q,.ref t,.int (if bk then 0 else 1),.u,.u,.u,.u,.u,.u,.u]) (i:=3) (by simp! only [] <;> rfl) (by simp! only []) fO s2;have hx:CU [.ref h,.tup [.str mf,r1,.bool bk,r3],aH p,aH q,.ref t,.int (if bk then 0 else 1),.u,.u,.u,.u,.u,.u,.u] D=some (.nx,[.ref h,.tup [.str mf,r1,.bool bk,r3],aH p,aH q,.ref t,.int (if bk then 0 else 1),vl,vm,.u,.u,.u,.u,.u],D):=by
  have eb:([vl,vm]:List V).length<=big:=by unfold big;simp
  simp only [CU,eB,bM,H,cz,dB,aa,Option.bind_some,Option.map_some,eb,if_true]
  rfl
 rw [PN,Ve,aF ((ch jE).trans rfl),aF fo,aF hx]
noncomputable def hU (pf:Int) (bk dn:Bool):V:=.tup [.str [102,108,97,103,115],.int pf,.bool bk,.bool dn]
noncomputable def j4 (ca:V->V) (bk:Bool) (p:V×V):V:=if bk then p.1 else ca p.2
noncomputable def s8 (ca:V->V) (bk:Bool) (f:V->Int):V->Int
 | .tup [k,s]=>f (j4 ca bk (k,s))
 | _=>0
theorem va (ca:V->V) (bk:Bool) (f:V->Int) (p:V×V):s8 ca bk f (aH p)=f (j4 ca bk p):=rfl
noncomputable def i4 (N:Nat) (ca:V->V) (ps:List (V×V)) (D:am):Prop:=∀p∈ps,iC N D p.2 (ca p.2)
theorem i4.pick {N:Nat} {ca:V->V} {ps:List (V×V)} (I:i4 N ca ps D) {bk:Bool} {p:V×V} (aw:p∈ps) (hk:ck p.1=true):hj [sR bk p] D=some (j4 ca bk p,D)/\ck (j4 ca bk p)=true:=by
 cases bk
 .exact ⟨(I p aw).FX,(I p aw).sc⟩
 .exact ⟨IG _ hk D,hk⟩
theorem i4.fr {N:Nat} {ca:V->V} {ps:List (V×V)} (I:i4 N ca ps D) {M:Nat} (uf:N<=M) (F:Fr (λj=>M<=j) D al):i4 N ca ps al:=λp aw=>(I p aw).fr F λj aX _ w=>by lia
theorem jg {ps:List (V×V)} {x:V} (h:x∈ps.map aH):∃p∈ps,x=aH p:=by
 refine a2 (List.mem_map.mp h) λp aw e=>?_;exact ⟨p,aw,e.symm⟩
theorem I4 (p:V×V):ez (aH p)=true:=rfl
theorem Vd {N M h t:Nat} {W:Nat->Prop} (r6:∀j,W j->j < M) (uf:N<=M) {ca:V->V} {ps:List (V×V)} {pf:Int} {bk dn:Bool} {L:List V} (aw:oi pf) (fp:pO pf L) (jV:∀p∈ps,j4 ca bk p∈L) (hk:∀p∈ps,ck p.1=true):
  Ord M W (.ref h) (hU pf bk dn) (.ref t) (ps.map aH) (s8 ca bk λv=>if dn then -cO pf v else cO pf v) (i4 N ca ps) (i4 N ca ps):=by
 refine ⟨rfl,rfl,rfl,λD al I F=>I.fr uf F,λD al I F=>I.fr uf F,λ_ h=>h,r6,λx ax=>?_,λD x y I ax dr=>?_⟩
 .refine a2 (jg ax) λp _ aV=>?_;subst aV;exact I4 p
 .refine a2 (jg ax) λp hW aV=>?_;subst aV;refine a2 (jg dr) λq qp aV=>?_;subst aV;refine cq (I.pick (bk:=bk) hW (hk p hW)) λeK s1=>?_;refine cq (I.pick (bk:=bk) qp (hk q qp)) λfO s2=>?_;have iO:=jV p hW;have eb:=jV q qp;have bn:=IQ (h:=h) (t:=t) (r1:=.int pf) (r3:=.bool dn) (.inr rfl) eK fO s1 s2;rw [va,va];generalize j4 ca bk p=a at *;generalize j4 ca bk q=b at *;have r1:=cG (D:=D) (iu s1);have cp:=cG (D:=D) (iu s2);have dg:aD oEq (aT (G 1) (ab (.int 0))) (ab (.str [117,115,101,114])) [.ref h,.tup [.str [102,108,97,103,115],.int pf,.bool bk,.bool dn],aH p,aH q,.ref t,.int (if bk then 0 else 1),a,b,.u,.u,.u,.u,.u] D=some (false,D):=rfl;have m1:a' (aT (G 1) (ab (.int 3))) [.ref h,.tup [.str [102,108,97,103,115],.int pf,.bool bk,.bool dn],aH p,aH q,.ref t,.int (if bk then 0 else 1),a,b,.u,.u,.u,.u,.u] D=some (dn,D):=by cases dn <;> rfl
  have eE:item D (.tup [.str [102,108,97,103,115],.int pf,.bool bk,.bool dn]) (.int 1)=some (.int pf):=mJ (k:=1) rfl
  cases dn with
  | true=>
   refine a2 (IW D h aw fp eb iO) λal e F=>?_;refine ⟨eN (cO pf b) (cO pf a),al,bn.trans ?_,?_,λp aw=>(I p aw).fr F λ_ _ _ w=>w.elim,F.wide λ_ _ w=>w.elim⟩
   .unfold u5;have av:ak lZ (H (G 0) (H (G 7) (H (G 6) (H (aT (G 1) (ab (.int 1))) aa)))) [.ref h,.tup [.str [102,108,97,103,115],.int pf,.bool bk,.bool true],aH p,aH q,.ref t,.int (if bk then 0 else 1),a,b,.u,.u,.u,.u,.u] D=some (.int (eN (cO pf b) (cO pf a)),al):=by
     simp! only [r1,cp,eE,e]
    rw [aF ((ch dg).trans rfl),b6 ((dw m1).trans (b6 (c4 av)))]
    rfl
   .rw [JN];simp only [if_true];lia
  | false=>
   refine a2 (IW D h aw fp iO eb) λal e F=>?_;refine ⟨eN (cO pf a) (cO pf b),al,bn.trans ?_,?_,λp aw=>(I p aw).fr F λ_ _ _ w=>w.elim,F.wide λ_ _ w=>w.elim⟩
   .unfold u5;have av:ak lZ (H (G 0) (H (G 6) (H (G 7) (H (aT (G 1) (ab (.int 1))) aa)))) [.ref h,.tup [.str [102,108,97,103,115],.int pf,.bool bk,.bool false],aH p,aH q,.ref t,.int (if bk then 0 else 1),a,b,.u,.u,.u,.u,.u] D=some (.int (eN (cO pf a) (cO pf b)),al):=by
     simp! only [r1,cp,eE,e]
    rw [aF ((ch dg).trans rfl),aF ((ch m1).trans rfl),b6 (c4 av)]
    rfl
   .rw [JN];simp only [Bool.false_eq_true,if_false]
structure tN (N:Nat) (ca:V->V) (ps:List (V×V)) (h d n t:Nat) (ea gv:List V) (nm:List Nat) (b:Bool) (D:am):Prop where
 h5:i4 N ca ps D
 aG:mr D h d ea
 hF:D[n]? =some (.list (gv++if b then [iQ nm] else []))
 i0:D[t]? =some (.list (if b then [.bool true] else []))
noncomputable def Eo (N:Nat) (ca:V->V) (ps:List (V×V)) (h d n t:Nat) (ea gv:List V) (nm:List Nat) (s:Nat) (D:am):Prop:=∃b,tN N ca ps h d n t ea gv nm b D/\(b=true->s=1)
noncomputable def y2 (N:Nat) (ca:V->V) (ps:List (V×V)) (h d n t:Nat) (ea gv:List V) (nm:List Nat) (s:Nat) (D:am):Prop:=tN N ca ps h d n t ea gv nm (decide (s=1)) D
theorem tN.fr {N:Nat} {ca:V->V} {ps:List (V×V)} {h d n t:Nat} {ea gv:List V} {nm:List Nat} {b:Bool} (U:tN N ca ps h d n t ea gv nm b D) {M:Nat} (uf:N<=M) (hh:h < M) (bn:d < M) (a3:n < M) (cd:t < M) (F:Fr (λj=>M<=j) D al):tN N ca ps h d n t ea gv nm b al:=
 ⟨U.h5.fr uf F,⟨F.at U.aG.i (by lia),U.aG.f0,U.aG.gZ,F.at U.aG.d (by lia)⟩,F.at U.hF (by lia),F.at U.i0 (by lia)⟩
theorem Vf {N M h d n t:Nat} (d3:N<=M) (hh:h < M) (bn:d < M) (a3:n < M) (cd:t < M) (ur:n≠t) {ea gv:List V} (gH:ea[5]? =some (.ref n)) (qN:gv.length+1 < big) {nm:List Nat} (wP:nm.length<=10) {ca:V->V} {ps:List (V×V)} {w s:Nat} (hw:w∈List.range 4) (hs:s∈List.range 4) {bk:Bool}
  (jV:∀p∈ps,j4 ca bk p∈b4) (hk:∀p∈ps,ck p.1=true):
  Ord M (λj=>j=n\/j=t) (.ref h) (fc w s bk nm) (.ref t) (ps.map aH) (s8 ca bk λv=>ct w v) (Eo N ca ps h d n t ea gv nm s) (y2 N ca ps h d n t ea gv nm s):=by
 refine ⟨rfl,rfl,rfl,λD al I F=>?_,λD al I F=>I.fr d3 hh bn a3 cd F,λD I=>⟨_,I,λq=>of_decide_eq_true q⟩,λj w=>?_,λx ax=>?_,λD x y I ax dr=>?_⟩
 .revert I;refine eQ λb U q=>?_;exact ⟨b,U.fr d3 hh bn a3 cd F,q⟩
 .rcases w with rfl | rfl
  .exact a3
  .exact cd
 .refine a2 (jg ax) λp _ aV=>?_;subst aV;exact I4 p
 .refine a2 (jg ax) λp hW aV=>?_;subst aV;refine a2 (jg dr) λq qp aV=>?_;subst aV;revert I;refine eQ λb U aA=>?_;refine cq (U.h5.pick (bk:=bk) hW (hk p hW)) λeK s1=>?_;refine cq (U.h5.pick (bk:=bk) qp (hk q qp)) λfO s2=>?_;have iO:=jV p hW;have eb:=jV q qp;have bn:=IQ (h:=h) (t:=t) (r1:=fl w s) (r3:=.str nm) (.inl rfl) eK fO s1 s2;rw [va,va];generalize j4 ca bk p=tj at *;generalize j4 ca bk q=j5 at *;have r1:=cG (D:=D) (iu s1);have cp:=cG (D:=D) (iu s2);have dg:aD oEq (aT (G 1) (ab (.int 0))) (ab (.str [117,115,101,114])) [.ref h,.tup [.str [117,115,101,114],fl w s,.bool bk,.str nm],aH p,aH q,.ref t,.int (if bk then 0 else 1),tj,j5,.u,.u,.u,.u,.u] D=some (true,D):=rfl;have ZK:=VX U.aG gH U.hF (by cases b <;> simp <;> lia) U.i0 ur hw hs iO eb (bk:=bk) wP;have av:ak nU (H (G 0) (H (G 1) (H (G 6) (H (G 7) (H (G 4) aa))))) [.ref h,.tup [.str [117,115,101,114],fl w s,.bool bk,.str nm],aH p,aH q,.ref t,.int (if bk then 0 else 1),tj,j5,.u,.u,.u,.u,.u] D=nU [.ref h,fc w s bk nm,tj,j5,.ref t] D:=by
   simp! only [r1,cp] <;> rfl
  rw [ZK] at av;have hz:0 < pD s (ct w tj - ct w j5)↔ct w j5 < ct w tj:=by rw [aao];lia
  have run:=λz aY (e:ak nU (H (G 0) (H (G 1) (H (G 6) (H (G 7) (H (G 4) aa))))) [.ref h,.tup [.str [117,115,101,114],fl w s,.bool bk,.str nm],aH p,aH q,.ref t,.int (if bk then 0 else 1),tj,j5,.u,.u,.u,.u,.u] D=some (.int z,aY))=>
   show lY [.ref h,fc w s bk nm,aH p,aH q,.ref t] D=some (.int z,aY) from bn.trans (by unfold u5;rw [b6 ((dw dg).trans (b6 (c4 e)))];rfl)
  by_cases bj:s=1/\(if b then [V.bool true] else [])=[]
  .rw [if_pos bj] at av;revert bj;refine gT λaj ao=>?_;have wH:b=false:=by cases b with | false=>rfl | true=>cases ao
   subst wH;refine ⟨_,_,run _ _ av,hz,?_,(Fr.set _ _ _ (.inr rfl)).t (Fr.set _ _ _ (.inl rfl))⟩;have Bc:t≠h:=λq=>by have:=U.aG.i;rw [<- q,U.i0] at this;cases this
   have A8:t≠d:=λq=>by have:=U.aG.d;rw [<- q,U.i0] at this;cases this
   have Br:n≠h:=λq=>by have:=U.aG.i;rw [<- q,U.hF] at this;cases this
   have nE:n≠d:=λq=>by have:=U.aG.d;rw [<- q,U.hF] at this;cases this
   have hF:=U.hF;have i0:=U.i0;simp only [Bool.false_eq_true,if_false,List.append_nil] at hF i0 ⊢;unfold y2;rw [aj,decide_eq_true rfl];refine ⟨λp aw=>?_,⟨(cK Br).trans ((cK Bc).trans U.aG.i),U.aG.f0,U.aG.gZ,(cK nE).trans ((cK A8).trans U.aG.d)⟩,?_,?_⟩
   .refine (U.h5 p aw).fr (W:=λj=>j=t\/j=n) ((Fr.set _ _ _ (.inl rfl)).t (Fr.set _ _ _ (.inr rfl))) λj _ _ w fs q=>?_;rcases w with rfl | rfl
    .rw [i0] at q;cases q
    .rw [hF] at q;cases q
   .exact gh ((cK (λq=>ur q.symm)).trans hF)
   .exact (cK ur).trans (gh i0)
  .rw [if_neg bj] at av;refine ⟨_,_,run _ _ av,hz,?_,Fr.refl D⟩;have:b=decide (s=1):=by
    cases b with
    | true=>rw [decide_eq_true (aA rfl)]
    | false=>
     rw [decide_eq_false λq=>bj ⟨q,rfl⟩]
   rw [this] at U;exact U
theorem JJ {n:Nat} (h:0 < n):seqIndex? (-1) n=some (n - 1):=by
 unfold seqIndex?;have h0:((-1:Int) < 0):=by lia
 simp only [h0,if_true];rw [if_pos (by simp;lia)];congr 1;lia
theorem Tf {aS:Type} (bi:List aS) (x:aS):(bi++[x])[(bi++[x]).length - 1]? =some x:=by simp
theorem item_last {j:Nat} {bi:List V} {x:V} (h:D[j]? =some (.list (bi++[x]))):item D (.ref j) (.int (-1))=some x:=by
 have:0 < (bi++[x]).length:=by simp
 show (fx D (.ref j)).bind _=_;rw [my h];show (seqIndex? (-1) (bi++[x]).length).bind _=_;rw [JJ this];exact Tf bi x
theorem YK {j:Nat} {bi:List V} {x:V} (y:V) (h:D[j]? =some (.list (bi++[x]))):pq D (.ref j) (.int (-1)) y=some (D.set j (.list (bi++[y]))):=by
 have aj:0 < (bi++[x]).length:=by simp
 have ao:(bi++[x]).set ((bi++[x]).length - 1) y=bi++[y]:=by simp
 show (listAt D (.ref j)).bind _=_;rw [si h];show (seqIndex? (-1) (bi++[x]).length).map _=_;rw [JJ aj,Option.map_some,ao]
theorem JM {d' gI fv:bK} {ag:List V} {o i x:V} {aY:am} (aj:fv ag D=some (x,D)) (ao:d' ag D=some (o,D)) (aL:gI ag D=some (i,D)) (cm:pq D o i x=some aY):jC d' gI fv ag D=some (.nx,ag,aY):=by
 simp only [jC,aj,ao,aL,cm,Option.bind_some,Option.map_some]
noncomputable def nq (c:Nat):Bool:=decide (48<=c) && decide (c<=57)
noncomputable def jZ (p:List (Int×Int)×Bool) (c:Nat):List (Int×Int)×Bool:=
 (if nq c then (if p.2 then p.1.dropLast++[(48,(p.1.getLastD (0,0)).2 * 10+(c:Int) - 48)] else p.1++[(48,(c:Int) - 48)]) else if c=32 then p.1 else p.1++[((c:Int),0)],nq c)
noncomputable def lx (l:List Nat):List (Int×Int)×Bool:=l.foldl jZ ([],false)
noncomputable def gg (p:Int×Int):V:=.tup [.int p.1,.int p.2]
noncomputable def rS:bK:=iI oLe oLe (ab (.str [48])) (G 3) (ab (.str [57]))
theorem FY (l:List Nat) (j:Nat) (op:Bool) (D:am):∀c∈List.range 128,rS [.str l,.ref j,.bool op,.str [c],.u] D=some (.bool (nq c),D):=by
 have:((List.range 128).map λc=>rS [.str l,.ref j,.bool op,.str [c],.u] D)=((List.range 128).map λc=>some (.bool (nq c),D)):=by rfl'
 exact List.map_inj_left.mp this
theorem Y2 (l:List Nat) (j:Nat) (op:Bool) (D:am):∀c∈List.range 128,aD ec (G 3) (ab (.str [32])) [.str l,.ref j,.bool op,.str [c],.u] D=some (!decide (c=32),D):=by
 have:((List.range 128).map λc=>aD ec (G 3) (ab (.str [32])) [.str l,.ref j,.bool op,.str [c],.u] D)=((List.range 128).map λc=>some (!decide (c=32),D)):=by rfl'
 exact List.map_inj_left.mp this
noncomputable def xP:aU:=(af (a7 (a' rS) (af (a7 (a' (G 2)) (af (jC (G 1) (dU ej (ab (.int 1))) (bM (H (ab (.int 48)) (H (aM eA (aM cV (aM gM (aT (aT (G 1) (dU ej (ab (.int 1)))) (ab (.int 1))) (ab (.int 10))) (ak hd (H (G 3) aa))) (ab (.int 48))) aa)))) aq) (af (b9 (bS c2 c0 (G 1) (H (bM (H (ab (.int 48)) (H (aM eA (ak hd (H (G 3) aa)) (ab (.int 48))) aa))) aa))) aq)) aq) (af (a7 (aD ec (G 3) (ab (.str [32]))) (af (b9 (bS c2 c0 (G 1) (H (bM (H (ak hd (H (G 3) aa)) (H (ab (.int 0)) aa))) aa))) aq) aq) aq)) (af (a1 2 rS) aq))
theorem V0:zI=af (a1 1 (cM aa)) (af (a1 2 (ab (.bool false))) (af (e7 (G 0) (cx 3) xP 100) (af (aR (ib (G 1))) aq))):=rfl
theorem V1 {l:List Nat} {D:am} {s:List (Int×Int)×Bool} {c:Nat} (bj:c∈List.range 128) (cS:s.1.length<=10) (Bu:s.2=true->∃bi m,s.1=bi++[((48:Int),m)]):
  xP [.str l,.ref D.length,.bool s.2,.str [c],.u] (D++[.list (s.1.map gg)])=some (.nx,[.str l,.ref D.length,.bool (jZ s c).2,.str [c],.u],D++[.list ((jZ s c).1.map gg)]):=by
 obtain ⟨ps,op⟩:=s;have aaE:=λCT D=>FY l D.length CT D c bj;have eK:=λCT al=>FY l D.length CT al c bj;have m1:a' rS [.str l,.ref D.length,.bool op,.str [c],.u] (D++[.list (ps.map gg)])=some (nq c,D++[.list (ps.map gg)]):=by
  simp only [a',eK,Option.bind_some,n9,Option.map_some]
 have g:=eL D (.list (ps.map gg));have ok:=ip g;have fh:∀x y:V,([x,y]:List V).length<=big:=λx y=>by unfold big;simp
 have qN:(ps.map gg).length < big:=by rw [List.length_map];unfold big;dsimp only at cS;lia
 have fin:∀(ag:List V) (dS:am),ag=[.str l,.ref D.length,.bool op,.str [c],.u]->af (a1 2 rS) aq ag dS=some (.nx,[.str l,.ref D.length,.bool (nq c),.str [c],.u],dS):=λag dS h=>by
  subst h;rw [aF (hI (eK op dS))];rfl
 have fT:∀(b:Bool) (dS:am),a' (G 2) [.str l,.ref D.length,.bool b,.str [c],.u] dS=some (b,dS):=λb dS=>by simp! only []
 unfold xP
 cases bn:nq c with
 | true=>
  rw [bn] at m1
  cases op with
  | true=>
   refine DX (Bu rfl) λbi m e=>?_;dsimp only at e;subst e;have av:(bi++[((48:Int),m)]).map gg=bi.map gg++[.tup [.int 48,.int m]]:=by simp [gg]
   rw [av] at g m1 ⊢;have it:=item_last g;have SD:item (D++[az.list (bi.map gg++[.tup [.int 48,.int m]])]) (.tup [.int 48,.int m]) (.int 1)=some (.int m):=mJ (k:=1) rfl;have st:=YK (.tup [.int 48,.int (m * 10+(c:Int) - 48)]) g;rw [j1] at st;have vc:g5 10=true:=by rfl'
   have ex:bM (H (ab (.int 48)) (H (aM eA (aM cV (aM gM (aT (aT (G 1) (dU ej (ab (.int 1)))) (ab (.int 1))) (ab (.int 10))) (ak hd (H (G 3) aa))) (ab (.int 48))) aa)) [.str l,.ref D.length,.bool true,.str [c],.u] (D++[.list (bi.map gg++[.tup [.int 48,.int m]])])=some (.tup [.int 48,.int (m * 10+(c:Int) - 48)],D++[.list (bi.map gg++[.tup [.int 48,.int m]])]):=by
    simp! only [it,SD,AN,CJ vc,fh]
   have Y5:jC (G 1) (dU ej (ab (.int 1))) (bM (H (ab (.int 48)) (H (aM eA (aM cV (aM gM (aT (aT (G 1) (dU ej (ab (.int 1)))) (ab (.int 1))) (ab (.int 10))) (ak hd (H (G 3) aa))) (ab (.int 48))) aa))) [.str l,.ref D.length,.bool true,.str [c],.u] (D++[.list (bi.map gg++[.tup [.int 48,.int m]])])=some (.nx,[.str l,.ref D.length,.bool true,.str [c],.u],D++[.list (bi.map gg++[.tup [.int 48,.int (m * 10+(c:Int) - 48)]])]):=by
    exact JM ex rfl rfl st
   rw [aF ((dw m1).trans (aF ((dw (fT true _)).trans (aF Y5)))),fin _ _ rfl,bn];have:(jZ (bi++[((48:Int),m)],true) c)=(bi++[((48:Int),m * 10+(c:Int) - 48)],true):=by
    unfold jZ;rw [bn];simp
   rw [this];simp [gg]
  | false=>
   have dH:=ht (.tup [.int 48,.int ((c:Int) - 48)]) g qN;rw [j1] at dH;have x:bS c2 c0 (G 1) (H (bM (H (ab (.int 48)) (H (aM eA (ak hd (H (G 3) aa)) (ab (.int 48))) aa))) aa) [.str l,.ref D.length,.bool false,.str [c],.u] (D++[.list (ps.map gg)])=some (.none,D++[.list (ps.map gg++[.tup [.int 48,.int ((c:Int) - 48)]])]):=by
    simp! only [ok,AN,fh,dH]
   rw [aF ((dw m1).trans (aF ((ch (fT false _)).trans (aF (fP x))))),fin _ _ rfl,bn];have:(jZ (ps,false) c)=(ps++[((48:Int),(c:Int) - 48)],true):=by
    unfold jZ;rw [bn];simp
   rw [this];simp [gg]
 | false=>
  rw [bn] at m1;have dg:=Y2 l D.length op (D++[.list (ps.map gg)]) c bj
  by_cases wB:c=32
  .rw [decide_eq_true wB] at dg;rw [aF ((ch m1).trans (aF ((ch dg).trans rfl))),fin _ _ rfl,bn];have:(jZ (ps,op) c)=(ps,false):=by
    unfold jZ;rw [bn];simp [wB]
   rw [this]
  .rw [decide_eq_false wB] at dg;have dH:=ht (.tup [.int (c:Int),.int 0]) g qN;rw [j1] at dH;have x:bS c2 c0 (G 1) (H (bM (H (ak hd (H (G 3) aa)) (H (ab (.int 0)) aa))) aa) [.str l,.ref D.length,.bool op,.str [c],.u] (D++[.list (ps.map gg)])=some (.none,D++[.list (ps.map gg++[.tup [.int (c:Int),.int 0]])]):=by
    simp! only [ok,AN,fh,dH]
   rw [aF ((ch m1).trans (aF ((dw dg).trans (aF (fP x))))),fin _ _ rfl,bn];have:(jZ (ps,op) c)=(ps++[((c:Int),(0:Int))],false):=by
    unfold jZ;rw [bn];simp [wB]
   rw [this];simp [gg]
theorem Gx {ag:List V} {k:Nat} (D:am) (L:List V) (h:ag[k]? =some (.ref D.length)):ib (G k) ag (D++[.list L])=some (.ap L,D++[.bB]):=by
 rw [t7 h (eL _ _),j1]
theorem IS {l:List Nat} (bw:asc l=true) (aW:l.length<=10):oU [.str l] D=some (.ap ((lx l).1.map gg),D++[.bB]):=by
 have tk:∀k c,l[k]? =some c->lx (l.take (k+1))=jZ (lx (l.take k)) c:=λk c bj=>by
  unfold lx;rw [List.take_add_one,bj,List.foldl_append];rfl
 refine KI (kr (v:=.str l) (l:=l.map λc=>.str [c]) (g:=cx 3) (f:=xP)
  (λk ag ai=>(∃x,ag=[.str l,.ref D.length,.bool (lx (l.take k)).2,x,.u])/\ai=D++[.list ((lx (l.take k)).1.map gg)]/\(lx (l.take k)).1.length<=k/\((lx (l.take k)).2=true->∃bi m,(lx (l.take k)).1=bi++[((48:Int),m)])) (λk ag ai _=>by rw [CE,List.getElem?_map]) (λk x ag ai aw ax=>by
   revert aw;refine vF λbd bl cS Bu=>?_;revert bd;refine d7 λs bl=>?_;subst bl;subst bl;rw [List.getElem?_map] at ax;refine a2 (Option.map_eq_some_iff.mp ax) λc bj aV=>?_;subst aV;have cY:=(List.getElem?_eq_some_iff.mp bj).1;have A3:c∈List.range 128:=by
    unfold asc at bw;have:=List.all_eq_true.mp bw c (List.mem_of_getElem? bj);simp only [decide_eq_true_eq] at this;exact List.mem_range.mpr this
   have t:=tk k c bj;have st:=V1 (l:=l) (D:=D) (s:=lx (l.take k)) A3 (by lia) Bu;refine ⟨[.str l,.ref D.length,.bool (lx (l.take k)).2,.str [c],.u],_,_,rfl,st,⟨.str [c],by rw [t]⟩,by rw [t],?_,?_⟩
   .rw [t];unfold jZ;dsimp only;split
    .split
     .simp;lia
     .simp;lia
    .split
     .lia
     .simp;lia
   .intro ao;rw [t] at ao ⊢;unfold jZ at ao ⊢;dsimp only at ao ⊢;rw [if_pos ao];split
    .exact ⟨_,_,rfl⟩
    .exact ⟨_,_,rfl⟩) 100 0 (by simp;lia) (Nat.zero_le _) [.str l,.ref D.length,.bool false,.u,.u] (D++[.list []]) ⟨⟨_,rfl⟩,rfl,Nat.le_refl _,λh=>by cases h⟩) λbX al bH dh fK _ _=>?_;revert dh;refine d7 λx bl=>?_;subst bl;subst fK
 rw [List.length_map,List.take_length] at bH;have fY:a1 1 (cM aa) [.str l,.u,.u,.u,.u] D=some (.nx,[.str l,.ref D.length,.u,.u,.u],D++[.list []]):=rfl;have cP:a1 2 (ab (.bool false)) [.str l,.ref D.length,.u,.u,.u] (D++[.list []])=some (.nx,[.str l,.ref D.length,.bool false,.u,.u],D++[.list []]):=rfl;rw [Pj,V0,aF fY,aF cP,aF (ja (v:=.str l) (ai:=D++[.list []]) rfl (BS bw _) bH),b6 (c4 (Gx D _ rfl))]
 rfl
theorem HK (D:am):∀v∈b4,kD [v] D=some (.str (bq v),D):=by
 have:(b4.map λv=>kD [v] D)=(b4.map λv=>some (.str (bq v),D)):=by rfl'
 exact List.map_inj_left.mp this
noncomputable def pc:List Nat:=[110,117,109,98,101,114]
noncomputable def pi:List Nat:=[112,108,97,105,110]
noncomputable def pw:List Nat:=[116,101,120,116]
noncomputable def pt:List Nat:=[115,109,97,108,108]
noncomputable def natN:List Nat:=[110,97,116,117,114,97,108]
noncomputable def sL:List Nat:=[110,97,116,117,114,97,108,32,115,109,97,108,108]
noncomputable def mR (ep v:V):V:=((iP [ep,v] []).map (·.1)).getD .none
theorem TY (D:am):∀w∈List.range 4,∀v∈b4,iP [.int (w:Int),v] D=some (.int (ct w v),D):=by
 have:((List.range 4).map λ(w:Nat)=>b4.map λv=>iP [.int (w:Int),v] D)=((List.range 4).map λ(w:Nat)=>b4.map λv=>some (.int (ct w v),D)):=by rfl'
 exact λa bw b aA=>List.map_inj_left.mp (List.map_inj_left.mp this a bw) b aA
theorem xz (D:am):∀r∈[pc,pi,pw,pt],∀v∈b4,iP [.str r,v] D=some (mR (.str r) v,D):=by
 have:([pc,pi,pw,pt].map λr=>b4.map λv=>iP [.str r,v] D)=([pc,pi,pw,pt].map λr=>b4.map λv=>some (mR (.str r) v,D)):=by rfl'
 exact λa bw b aA=>List.map_inj_left.mp (List.map_inj_left.mp this a bw) b aA
theorem ZM:∀v∈b4,asc ((bq v).map up1)=true:=by
 have:(b4.all λv=>asc ((bq v).map up1))=true:=by rfl'
 exact List.all_eq_true.mp this
theorem To (D:am):∀v∈b4,p' [.str (bq v)] D=some (.str ((bq v).map up1),D):=by
 have:(b4.map λv=>p' [.str (bq v)] D)=(b4.map λv=>some (.str ((bq v).map up1),D)):=by rfl'
 exact List.map_inj_left.mp this
noncomputable def sU (l:List Nat):V:=.ap ((lx l).1.map gg)
theorem TX (D:am) {v:V} (aI:v∈b4):iP [.str natN,v] D=some (sU (bq v),D++[.bB]):=by
 have Dv:=cG (D:=D) (iG v aI);have av:ak oU (H (ak kD (H (G 1) aa)) aa) [.str natN,v,.u,.u,.u,.u,.u,.u,.u] D=some (sU (bq v),D++[.bB]):=by
  simp only [ak,H,aa,ff,List.getElem?_cons_succ,List.getElem?_cons_zero,Option.bind_some,Dv,HK D v aI,Option.map_some,IS (te v aI) (yr v aI)];rfl
 rw [F3];unfold v5;rw [aF ((ch (ai:=D) (by rfl')).trans rfl),aF ((ch (ai:=D) (by rfl')).trans rfl),aF ((ch (ai:=D) (by rfl')).trans rfl),b6 ((dw (ai:=D) (by rfl')).trans (b6 (c4 av)))]
 rfl
theorem TW (D:am) {v:V} (aI:v∈b4):iP [.str sL,v] D=some (sU ((bq v).map up1),D++[.bB]):=by
 have Dv:=cG (D:=D) (iG v aI);have up:=To D v aI;have hb:bS ik p' (ak kD (H (G 1) aa)) aa [.str sL,v,.u,.u,.u,.u,.u,.u,.u] D=some (.str ((bq v).map up1),D):=by
  refine (nW (v:=.str (bq v)) (ai:=D) (l:=[]) (aY:=D) ?_ rfl rfl).trans up;simp only [ak,H,aa,ff,List.getElem?_cons_succ,List.getElem?_cons_zero,Option.bind_some,Dv,HK D v aI,Option.map_some]
 have av:ak oU (H (bS ik p' (ak kD (H (G 1) aa)) aa) aa) [.str sL,v,.u,.u,.u,.u,.u,.u,.u] D=some (sU ((bq v).map up1),D++[.bB]):=by
  refine (eS (l:=[.str ((bq v).map up1)]) (ai:=D) ?_).trans (IS (ZM v aI) (by rw [List.length_map];exact yr v aI));simp only [H,aa,hb,Option.bind_some,Option.map_some]
 rw [F3];unfold v5;rw [aF ((ch (ai:=D) (by rfl')).trans rfl),aF ((ch (ai:=D) (by rfl')).trans rfl),aF ((ch (ai:=D) (by rfl')).trans rfl),aF ((ch (ai:=D) (by rfl')).trans rfl),b6 ((dw (ai:=D) (by rfl')).trans (b6 (c4 av)))]
 rfl
structure k1 (ep:V) (rk:V->Int) (L:List V) (cb:V->V):Prop where
 set:ez ep=true
 aaV:∀v∈L,ez v=true
 JE:∀v∈L,ez (cb v)=true
 sF:∀D,∀v∈L,∃g,iP [ep,v] D=some (cb v,D++g)
 lt:∀D,∀a∈L,∀b∈L,kK D (cb a) (cb b)=some (.bool (decide (rk a < rk b)))
theorem u1 {f:Option (V×am)} {v:V} (h:f=some (v,D)):∃g,f=some (v,D++g):=⟨[],by rw [h];simp⟩
theorem WO {w:Nat} (hw:w∈List.range 4):k1 (.int (w:Int)) (ct w) b4 (λv=>.int (ct w v)):=
 ⟨rfl,iG,λ_ _=>rfl,λD v aI=>u1 (TY D w hw v aI),λD a _ b _=>rfl⟩
theorem Jz:k1 (.str pc) (cO 1) b4 (mR (.str pc)):=
 ⟨rfl,iG,List.all_eq_true.mp (show (b4.all λv=>ez (mR (.str pc) v))=true by rfl'),λD v aI=>u1 (xz D pc (by simp) v aI),λD=>im (by rfl')⟩
theorem WN:k1 (.str pw) (cO 2) b4 (mR (.str pw)):=
 ⟨rfl,iG,List.all_eq_true.mp (show (b4.all λv=>ez (mR (.str pw) v))=true by rfl'),λD v aI=>u1 (xz D pw (by simp) v aI),λD=>im (by rfl')⟩
theorem WM:k1 (.str pt) (cO 10) b4 (mR (.str pt)):=
 ⟨rfl,iG,List.all_eq_true.mp (show (b4.all λv=>ez (mR (.str pt) v))=true by rfl'),λD v aI=>u1 (xz D pt (by simp) v aI),λD=>im (by rfl')⟩
theorem Jy:k1 (.str natN) (cO 6) b4 (λv=>sU (bq v)):=
 ⟨rfl,iG,λ_ _=>rfl,λD v aI=>⟨_,TX D aI⟩,λD=>im (by rfl')⟩
theorem Jx:k1 (.str sL) (cO 14) b4 (λv=>sU ((bq v).map up1)):=
 ⟨rfl,iG,λ_ _=>rfl,λD v aI=>⟨_,TW D aI⟩,λD=>im (by rfl')⟩
theorem WL {L:List V} (fp:L=hY.take 6\/L=hY.drop 6\/L=jH.take 8\/L=(jH.drop 8).take 6):k1 (.str pi) (cO 0) L (mR (.str pi)):=by
 have bn:=pO.At (pf:=0) (.inr fp);refine ⟨rfl,λv aI=>iG v (bn v aI),λv aI=>List.all_eq_true.mp (show (b4.all λv=>ez (mR (.str pi) v))=true by rfl') v (bn v aI),λD v aI=>u1 (xz D pi (by simp) v (bn v aI)),λD=>?_⟩;rcases fp with rfl | rfl | rfl | rfl
 .exact im (by rfl')
 .exact im (by rfl')
 .exact im (by rfl')
 .exact im (by rfl')
noncomputable def ux:aU:=(af (a1 8 (ak iP (H (G 1) (H (aT (aT (G 4) (aM eA (G 7) (ab (.int 1)))) (G 2)) aa)))) (af (a7 (ek (gP (a' (G 3)) (aD kK (G 8) (G 6)) (aD kK (G 6) (G 8)))) (af pn aq) aq) (af (a1 7 (aM eA (G 7) (ab (.int 1)))) aq)))
noncomputable def BL:aU:=(af (a1 6 (ak iP (H (G 1) (H (aT (G 5) (G 2)) aa)))) (af (a1 7 (ak bG (H (G 4) aa))) (af (g4 (aD eZ (G 7) (ab (.int 0))) ux 100) (af (b9 (bS c2 rV (G 4) (H (G 7) (H (G 5) aa)))) aq))))
theorem Sk:zG=af (a1 4 (cM aa)) (af (e7 (G 0) (cx 5) BL 100) (af (aR (ib (G 4))) aq)):=rfl
theorem xY (ep:V) (D:am) (h:ez ep=true):iV D ep=some (ep,D):=cG h
section
variable {ep:V} {rk:V->Int} {L:List V} {cb:V->V} {items:List V} {at':Int} {pv:V->V} {dn:Bool}
theorem Sl (dc:k1 ep rk L cb) {x:V} (ax:pv x∈L) (Y':ez x=true) {made:List V} (aP:∀y∈made,(∀D,item D y (.int at')=some (pv y))/\pv y∈L/\ez y=true) (cS:made.length<=7) {j:Nat} (aX:D[j]? =some (.list made)) (x8:V):
  ∃p j6 al,g4 (aD eZ (G 7) (ab (.int 0))) ux 100 [.ap items,ep,.int at',.bool dn,.ref j,x,cb (pv x),.int (made.length:Int),x8,.u,.u] D=some (.nx,[.ap items,ep,.int at',.bool dn,.ref j,x,cb (pv x),.int ((p:Nat):Int),j6,.u,.u],al)/\
   Fr dx D al/\p<=made.length/\(∀y,made[p]? =some y->(if dn then -rk (pv x) else rk (pv x)) < (if dn then -rk (pv y) else rk (pv y)))/\(∀y,p≠0->made[p - 1]? =some y->¬(if dn then -rk (pv x) else rk (pv x)) < (if dn then -rk (pv y) else rk (pv y))):=by
 refine hn (vw (t:=aD eZ (G 7) (ab (.int 0))) (f:=ux)
  (λn ag ai=>∃j6,ag=[.ap items,ep,.int at',.bool dn,.ref j,x,cb (pv x),.int (n:Int),j6,.u,.u]/\Fr dx D ai/\n<=made.length/\(∀y,made[n]? =some y->(if dn then -rk (pv x) else rk (pv x)) < (if dn then -rk (pv y) else rk (pv y))))
  (λag ai=>∃p j6,ag=[.ap items,ep,.int at',.bool dn,.ref j,x,cb (pv x),.int ((p:Nat):Int),j6,.u,.u]/\Fr dx D ai/\p<=made.length/\(∀y,made[p]? =some y->(if dn then -rk (pv x) else rk (pv x)) < (if dn then -rk (pv y) else rk (pv y)))/\(∀y,p≠0->made[p - 1]? =some y->¬(if dn then -rk (pv x) else rk (pv x)) < (if dn then -rk (pv y) else rk (pv y))))
  (λn ag ai dv=>by
   revert dv;refine rl λj6 bl F a3 aj=>?_;subst bl;have dR:aD eZ (G 7) (ab (.int 0)) [.ap items,ep,.int at',.bool dn,.ref j,x,cb (pv x),.int (n:Int),j6,.u,.u] ai=some (decide ((n:Int) > 0),ai):=by simp! only []
   by_cases h0:n=0
   .subst h0;exact .inl ⟨ai,dR,0,j6,rfl,F,a3,aj,λy h=>absurd rfl h⟩
   .right
    rw [decide_eq_true (by lia)] at dR;have cY:n - 1 < made.length:=by lia
    have cr:made[n - 1]? =some made[n - 1]:=List.getElem?_eq_getElem cY;refine iz (aP _ (List.getElem_mem cY)) λky eb s2=>?_;generalize made[n - 1]=y at cr ky eb s2;have nD:=F.at aX λw=>w;have bj:(n:Int) - 1=((n - 1:Nat):Int):=by lia
    have eE:item ai (.ref j) (.int ((n:Int) - 1))=some y:=by rw [bj];exact item_list nD cr
    refine cH (dc.sF ai (pv y) eb) λg sF=>?_;have cP:a1 8 (ak iP (H (G 1) (H (aT (aT (G 4) (aM eA (G 7) (ab (.int 1)))) (G 2)) aa))) [.ap items,ep,.int at',.bool dn,.ref j,x,cb (pv x),.int (n:Int),j6,.u,.u] ai=some (.nx,[.ap items,ep,.int at',.bool dn,.ref j,x,cb (pv x),.int (n:Int),cb (pv y),.u,.u],ai++g):=by
     simp! only [xY ep _ dc.set,eE,ky,sF]
    have TH:=dc.lt (ai++g) (pv x) ax (pv y) eb;have TJ:=dc.lt (ai++g) (pv y) eb (pv x) ax;have r1:=cG (D:=ai++g) (dc.JE _ ax);have cp:=cG (D:=ai++g) (dc.JE _ eb);have fT:gP (a' (G 3)) (aD kK (G 8) (G 6)) (aD kK (G 6) (G 8)) [.ap items,ep,.int at',.bool dn,.ref j,x,cb (pv x),.int (n:Int),cb (pv y),.u,.u] (ai++g)=some (decide ((if dn then -rk (pv x) else rk (pv x)) < (if dn then -rk (pv y) else rk (pv y))),ai++g):=by
     cases dn with
     | true=>
      have:decide (rk (pv y) < rk (pv x))=decide (-rk (pv x) < -rk (pv y)):=by rw [decide_eq_decide];lia
      simp! only [r1,cp,TJ,this]
     | false=>simp! only [r1,cp,TH]
    by_cases jT:(if dn then -rk (pv x) else rk (pv x)) < (if dn then -rk (pv y) else rk (pv y))
    .right
     rw [decide_eq_true jT] at fT;have j3:ek (gP (a' (G 3)) (aD kK (G 8) (G 6)) (aD kK (G 6) (G 8))) [.ap items,ep,.int at',.bool dn,.ref j,x,cb (pv x),.int (n:Int),cb (pv y),.u,.u] (ai++g)=some (false,ai++g):=by
      simp only [ek,fT,Option.map_some,Bool.not_true]
     have h9:a1 7 (aM eA (G 7) (ab (.int 1))) [.ap items,ep,.int at',.bool dn,.ref j,x,cb (pv x),.int (n:Int),cb (pv y),.u,.u] (ai++g)=some (.nx,[.ap items,ep,.int at',.bool dn,.ref j,x,cb (pv x),.int ((n - 1:Nat):Int),cb (pv y),.u,.u],ai++g):=by
      simp! only [bj]
     refine ⟨ai,_,_,n - 1,dR,?_,by lia,cb (pv y),rfl,F.t (Fr.app _ g),by lia,λz hz=>?_⟩
     .unfold ux;rw [aF cP,aF ((ch j3).trans rfl),aF h9];rfl
     .rw [cr] at hz;revert hz;refine s1 λbd=>?_;subst bd;exact jT
    .left
     rw [decide_eq_false jT] at fT;have j3:ek (gP (a' (G 3)) (aD kK (G 8) (G 6)) (aD kK (G 6) (G 8))) [.ap items,ep,.int at',.bool dn,.ref j,x,cb (pv x),.int (n:Int),cb (pv y),.u,.u] (ai++g)=some (true,ai++g):=by
      simp only [ek,fT,Option.map_some,Bool.not_false]
     refine ⟨ai,_,_,dR,?_,n,cb (pv y),rfl,F.t (Fr.app _ g),a3,aj,λz _ hz=>?_⟩
     .unfold ux;rw [aF cP,JK ((dw j3).trans rfl)]
     .rw [cr] at hz;revert hz;refine s1 λbd=>?_;subst bd;exact jT) 100 made.length (by lia) [.ap items,ep,.int at',.bool dn,.ref j,x,cb (pv x),.int (made.length:Int),x8,.u,.u] D ⟨x8,rfl,Fr.refl D,Nat.le_refl _,λy dr=>by rw [List.getElem?_eq_none (Nat.le_refl _)] at dr;exact bU dr⟩) λbX al e ci=>?_;revert ci;refine yT λp j6 aV F aw aj ao=>?_;subst aV
 exact ⟨p,j6,al,e,F,aw,aj,ao⟩
theorem VD (dc:k1 ep rk L cb) (aJ:∀x∈items,(∀D,item D x (.int at')=some (pv x))/\pv x∈L/\ez x=true) (cS:items.length<=7):
  ∃al,sq [.ap items,ep,.int at',.bool dn] D=some (.ap (co (λx=>if dn then -rk (pv x) else rk (pv x)) items),al)/\Fr dx D al:=by
 refine fj (kr (v:=.ap items) (l:=items) (g:=cx 5) (f:=BL)
  (λk ag ai=>(∃x5 h8 x7 x8,ag=[.ap items,ep,.int at',.bool dn,.ref D.length,x5,h8,x7,x8,.u,.u])/\Fr dx D ai/\ai[D.length]? =some (.list (co (λx=>if dn then -rk (pv x) else rk (pv x)) (items.take k))))
  (λk ag ai _=>l2 items ai k) (λk x ag ai dv ax=>by
   revert dv;refine og λbd F aX=>?_;revert bd;refine pL λx5 h8 x7 x8 fK=>?_;subst fK;have RZ:=List.mem_of_getElem? ax;have cY:=(List.getElem?_eq_some_iff.mp ax).1;refine iz (aJ x RZ) λeE iO s1=>?_;have jc:items.take (k+1)=items.take k++[x]:=by rw [List.take_add_one,ax];rfl
   have G8:∀y∈co (λx=>if dn then -rk (pv x) else rk (pv x)) (items.take k),(∀D,item D y (.int at')=some (pv y))/\pv y∈L/\ez y=true:=λy dr=>aJ y (List.mem_of_mem_take ((oN _).mp dr));have wS:=Hy (λx=>if dn then -rk (pv x) else rk (pv x)) (items.take k);have G4:(co (λx=>if dn then -rk (pv x) else rk (pv x)) (items.take k)).length<=7:=by rw [uC,List.length_take];lia
   rw [jc,oO];generalize co (λx=>if dn then -rk (pv x) else rk (pv x)) (items.take k)=made at aX G8 wS G4 ⊢;refine cH (dc.sF ai (pv x) iO) λg sF=>?_;have cP:a1 6 (ak iP (H (G 1) (H (aT (G 5) (G 2)) aa))) [.ap items,ep,.int at',.bool dn,.ref D.length,x,h8,x7,x8,.u,.u] ai=some (.nx,[.ap items,ep,.int at',.bool dn,.ref D.length,x,cb (pv x),x7,x8,.u,.u],ai++g):=by
    simp! only [xY ep _ dc.set,xY x _ s1,eE,sF]
   have nD:(ai++g)[D.length]? =some (.list made):=jq g aX;have dF:a1 7 (ak bG (H (G 4) aa)) [.ap items,ep,.int at',.bool dn,.ref D.length,x,cb (pv x),x7,x8,.u,.u] (ai++g)=some (.nx,[.ap items,ep,.int at',.bool dn,.ref D.length,x,cb (pv x),.int (made.length:Int),x8,.u,.u],ai++g):=by
    simp! only [len_list nD]
   refine KN (Sl (items:=items) (dn:=dn) dc iO s1 G8 G4 nD x8) λp j6 aY bN eR aw aj ao=>?_;have r':=eR.at nD λw=>w;have Rn:=Hn (λx=>if dn then -rk (pv x) else rk (pv x)) x made p wS aw aj ao;have gI:rV [.ref D.length,.int (p:Int),x] aY=some (.none,aY.set D.length (.list (made.take p++x::made.drop p))):=by
    have Wk:(0:Int)<=(p:Int):=by lia
    have c6:(p:Int)<=(made.length:Int):=by lia
    have dt:made.length+1<=big:=by unfold big;lia
    show (listAt aY (.ref D.length)).bind _=_;rw [si r'];exact if_pos (by rw [decide_eq_true Wk,decide_eq_true c6,decide_eq_true dt];rfl)
   have jK:bS c2 rV (G 4) (H (G 7) (H (G 5) aa)) [.ap items,ep,.int at',.bool dn,.ref D.length,x,cb (pv x),.int (p:Int),j6,.u,.u] aY=some (.none,aY.set D.length (.list (made.take p++x::made.drop p))):=by
    simp! only [ip r',xY x _ s1,gI]
   refine ⟨[.ap items,ep,.int at',.bool dn,.ref D.length,x,h8,x7,x8,.u,.u],_,aY.set D.length (.list (made.take p++x::made.drop p)),rfl,?_,⟨x,cb (pv x),.int (p:Int),j6,rfl⟩,?_,?_⟩
   .unfold BL;rw [aF cP,aF dF,aF bN,aF (fP jK)];rfl
   .refine (F.t ((Fr.app ai g).t eR)).trans (Fr.set (W:=λj=>j=D.length) _ _ _ rfl) (λ_ w=>w) λj aX w=>?_;lia
   .rw [Rn];exact gh r') 100 0 (by lia) (Nat.zero_le _) [.ap items,ep,.int at',.bool dn,.ref D.length,.u,.u,.u,.u,.u,.u] (D++[.list []]) ⟨⟨_,_,_,_,rfl⟩,Fr.app _ _,eL D _⟩) λbX al e dh F aX=>?_;revert dh;refine pL λx5 h8 x7 x8 fK=>?_;subst fK
 rw [List.take_length] at aX;have fY:a1 4 (cM aa) [.ap items,ep,.int at',.bool dn,.u,.u,.u,.u,.u,.u,.u] D=some (.nx,[.ap items,ep,.int at',.bool dn,.ref D.length,.u,.u,.u,.u,.u,.u],D++[.list []]):=rfl;have m9:ib (G 4) [.ap items,ep,.int at',.bool dn,.ref D.length,x5,h8,x7,x8,.u,.u] al=some (.ap (co (λx=>if dn then -rk (pv x) else rk (pv x)) items),al.set D.length .bB):=by
  exact t7 rfl aX
 refine ⟨al.set D.length .bB,?_,F.trans (Fr.set (W:=λj=>j=D.length) _ _ _ rfl) (λ_ w=>w) λj aX w=>by lia⟩;rw [Pg,Sk,aF fY,aF (ja (v:=.ap items) (ai:=D++[.list []]) (by simp! only []) rfl e),b6 (c4 m9)]
 rfl
end
theorem Sa (n:Nat):(nM (some 1) (some 8) n).length<=7:=by
 simp only [nM,sliceBounds,sliceRange,List.length_map,List.length_range,Option.getD_none];have O:(1:Int) > 0:=by lia
 have ah:¬(1:Int) < 0:=by lia
 have au:¬(8:Int) < 0:=by lia
 have ay:¬(63:Int) < 0:=by lia
 simp only [O,ah,au,ay,if_true,if_false];split <;> lia
theorem Sb (n:Nat):(nM none (some 63) n).length<=63:=by
 simp only [nM,sliceBounds,sliceRange,List.length_map,List.length_range,Option.getD_none];have O:(1:Int) > 0:=by lia
 have ah:¬(1:Int) < 0:=by lia
 have au:¬(8:Int) < 0:=by lia
 have ay:¬(63:Int) < 0:=by lia
 simp only [O,ah,au,ay,if_true,if_false];split <;> lia
theorem I9 {l:List V} {lo aJ:Option Int} {x:V} (h:x∈fG l lo aJ):x∈l:=by
 unfold fG at h;refine a2 (List.mem_filterMap.mp h) λi _ e=>?_;exact List.mem_of_getElem? e
theorem I7 (l:List V) (lo aJ:Option Int):(fG l lo aJ).length<=(nM lo aJ l.length).length:=List.length_filterMap_le _ _
theorem CZ {j:Nat} {n c:Int} (h:D[j]? =some (.list [.int n])) (h0:0 < c) (hs:g5 c=true):gb [.ref j,.int c] D=some (.int (n.fmod c),D.set j (.list [.int (n.fdiv c)])):=by
 have a9:item D (.ref j) (.int 0)=some (.int n):=item_list (k:=0) h rfl;have st:pq D (.ref j) (.int 0) (.int (n.fdiv c))=some (D.set j (.list [.int (n.fdiv c)])):=Dn (k:=0) (.int (n.fdiv c)) h (by simp);have cP:a1 2 (aM fH (aT (G 0) (ab (.int 0))) (G 1)) [.ref j,.int c,.u] D=some (.nx,[.ref j,.int c,.int (n.fmod c)],D):=by
  simp! only [a9,sJ D h0]
 have x:aM u2 (aT (G 0) (ab (.int 0))) (G 1) [.ref j,.int c,.int (n.fmod c)] D=some (.int (n.fdiv c),D):=by
  have:(decide (0 < c) && g5 c)=true:=by rw [decide_eq_true h0,hs];rfl
  simp! only [a9,UF this]
 rw [Pd];unfold zD;rw [aF cP,aF (JM x rfl rfl st)]
 rfl
theorem nz (n:Int) {c:Nat} (h:0 < c):∃k:Nat,k < c/\n.fmod (c:Int)=(k:Int):=by
 have aj:(0:Int) < (c:Int):=by lia
 have e:n.fmod (c:Int)=n % (c:Int):=Int.fmod_eq_emod_of_nonneg _ (by lia);have ao:=Int.emod_nonneg n (show (c:Int)≠0 by lia);have aL:=Int.emod_lt_of_pos n aj;exact ⟨(n % (c:Int)).toNat,by lia,by lia⟩
noncomputable def kc (bk pl:Bool) (ba:Nat):List V:=if pl && bk then (if ba=1 then hY.drop 6 else hY.take 6) else hY
noncomputable def kf (bk pl:Bool) (ba:Nat):List V:=if pl && !bk then (if ba=1 then (jH.drop 8).take 6 else jH.take 8) else jH
theorem YD {a b:V} (h:q1 a b=true):a=b:=by
 have e:∀x:Option Bool,x.getD false=true->x=some true:=λx h=>by
  cases x with
  | none=>cases h
  | some b=>exact congrArg some h
 refine dM (λe=>?_) (dM (λe=>?_) (dM (λe=>?_) (λe=>?_))) (e _ h)
 .exact yx (λe=>yx (λ_=>rfl) e) e
 .exact Dz (λi e=>Dz (λj e=>congrArg V.bool (eq_of_beq (Option.some.inj e))) e) e
 .exact vp (λi e=>vp (λj e=>congrArg V.int (eq_of_beq (Option.some.inj e))) e) e
 .exact vu (λi e=>vu (λj e=>congrArg V.str (eq_of_beq (Option.some.inj e))) e) e
theorem H4 {L:List V} {x:V} (h:(L.any (q1 x))=true):x∈L:=by
 refine a2 (List.any_eq_true.mp h) λy dr e=>?_;rw [YD e];exact dr
noncomputable def qv (bk pl:Bool) (ba a:Nat):Nat:=if pl && bk then a % 6+6 * ba else a
noncomputable def q9 (bk pl:Bool) (ba b:Nat):Nat:=if pl && !bk then (if ba=1 then 8+b % 6 else b % 8) else b
noncomputable def oP (k:Nat):V:=hY[k]?.getD .none
noncomputable def valAt (k:Nat):V:=jH[k]?.getD .none
noncomputable def k6:List Bool:=[true,false]
theorem S7:∀bk∈k6,∀pl∈k6,∀ba∈List.range 2,∀a∈List.range 12,((kc bk pl ba).any (q1 (oP (qv bk pl ba a))))=true/\((List.range 12).contains (qv bk pl ba a))=true:=by
 have:(k6.all λbk=>k6.all λpl=>(List.range 2).all λba=>(List.range 12).all λa=>((kc bk pl ba).any (q1 (oP (qv bk pl ba a)))) && ((List.range 12).contains (qv bk pl ba a)))=true:=by rfl'
 intro bk aA pl aw ba hf a bw;have:=List.all_eq_true.mp (List.all_eq_true.mp (List.all_eq_true.mp (List.all_eq_true.mp this bk aA) pl aw) ba hf) a bw;simpa using this
theorem ZX:∀bk∈k6,∀pl∈k6,∀ba∈List.range 2,∀b∈List.range 16,((kf bk pl ba).any (q1 (valAt (q9 bk pl ba b))))=true/\((List.range 16).contains (q9 bk pl ba b))=true:=by
 have:(k6.all λbk=>k6.all λpl=>(List.range 2).all λba=>(List.range 16).all λb=>((kf bk pl ba).any (q1 (valAt (q9 bk pl ba b)))) && ((List.range 16).contains (q9 bk pl ba b)))=true:=by rfl'
 intro bk aA pl aw ba hf a bw;have:=List.all_eq_true.mp (List.all_eq_true.mp (List.all_eq_true.mp (List.all_eq_true.mp this bk aA) pl aw) ba hf) a bw;simpa using this
theorem sG (b:Bool):b∈k6:=by cases b <;> simp [k6]
theorem S8 (D:am):∀k∈List.range 12,item D ra (.int (k:Int))=some (oP k):=by
 have:((List.range 12).map λ(k:Nat)=>item D ra (.int (k:Int)))=((List.range 12).map λ(k:Nat)=>some (oP k)):=by rfl'
 exact List.map_inj_left.mp this
theorem ZY (D:am):∀k∈List.range 16,item D rb (.int (k:Int))=some (valAt k):=by
 have:((List.range 16).map λ(k:Nat)=>item D rb (.int (k:Int)))=((List.range 16).map λ(k:Nat)=>some (valAt k)):=by rfl'
 exact List.map_inj_left.mp this
noncomputable def Ab:aU:=(a7 (bp (a' (G 2)) (bp (a' (G 1)) bW)) (af (a1 7 (aM cV (aM fH (G 7) (ab (.int 6))) (aM gM (ab (.int 6)) (G 3)))) aq) (af (a7 (a' (G 2)) (af (a1 8 (cn (aD oEq (G 3) (ab (.int 1))) (aM cV (ab (.int 8)) (aM fH (G 8) (ab (.int 6)))) (aM fH (G 8) (ab (.int 8))))) aq) aq) aq))
theorem SJ (x n:V) (kB j:Nat) (a3:ez n=true) (D:am):∀bk∈k6,∀pl∈k6,∀ba∈List.range 2,∀a∈List.range 12,∀b∈List.range 16,
  Ab [x,.bool bk,.bool pl,.int (ba:Int),.ref kB,n,.ref j,.int (a:Int),.int (b:Int),.u,.u,.u] D=some (.nx,[x,.bool bk,.bool pl,.int (ba:Int),.ref kB,n,.ref j,.int (qv bk pl ba a:Int),.int (q9 bk pl ba b:Int),.u,.u,.u],D):=by
 intro bk _ pl _ ba hf a _ b _;have j0:g5 6=true:=by rfl'
 have GS:=List.mem_range.mp hf;have YR:g5 (ba:Int)=true:=by
  rcases (show ba=0\/ba=1 by lia) with rfl | rfl <;> rfl'
 have H1:∀y:Int,fH D (.int y) (.int 6)=some (.int (y.fmod 6)):=λy=>sJ D (by lia);have TP:∀y:Int,fH D (.int y) (.int 8)=some (.int (y.fmod 8)):=λy=>sJ D (by lia);have gZ:∀y:Nat,(y:Int).fmod 6=((y % 6:Nat):Int):=λy=>by rw [Int.fmod_eq_emod_of_nonneg _ (by lia)];lia
 have f8:∀y:Nat,(y:Int).fmod 8=((y % 8:Nat):Int):=λy=>by rw [Int.fmod_eq_emod_of_nonneg _ (by lia)];lia
 unfold Ab qv q9
 cases pl with
 | false=>
  rw [ch (ai:=D) (show bp (a' (G 2)) (bp (a' (G 1)) bW) [x,.bool bk,.bool false,.int (ba:Int),.ref kB,n,.ref j,.int (a:Int),.int (b:Int),.u,.u,.u] D=some (false,D) from rfl),aF ((ch (ai:=D) (show a' (G 2) [x,.bool bk,.bool false,.int (ba:Int),.ref kB,n,.ref j,.int (a:Int),.int (b:Int),.u,.u,.u] D=some (false,D) from rfl)).trans rfl)]
  rfl
 | true=>
  cases bk with
  | true=>
   have E:a1 7 (aM cV (aM fH (G 7) (ab (.int 6))) (aM gM (ab (.int 6)) (G 3))) [x,.bool true,.bool true,.int (ba:Int),.ref kB,n,.ref j,.int (a:Int),.int (b:Int),.u,.u,.u] D=some (.nx,[x,.bool true,.bool true,.int (ba:Int),.ref kB,n,.ref j,.int ((a % 6+6 * ba:Nat):Int),.int (b:Int),.u,.u,.u],D):=by
    have:((a % 6+6 * ba:Nat):Int)=((a % 6:Nat):Int)+6 * (ba:Int):=by lia
    rw [this]
    simp! only [H1,gZ,CJ YR]
   rw [dw (ai:=D) (show bp (a' (G 2)) (bp (a' (G 1)) bW) [x,.bool true,.bool true,.int (ba:Int),.ref kB,n,.ref j,.int (a:Int),.int (b:Int),.u,.u,.u] D=some (true,D) from rfl),aF E]
   rfl
  | false=>
   have E:a1 8 (cn (aD oEq (G 3) (ab (.int 1))) (aM cV (ab (.int 8)) (aM fH (G 8) (ab (.int 6)))) (aM fH (G 8) (ab (.int 8)))) [x,.bool false,.bool true,.int (ba:Int),.ref kB,n,.ref j,.int (a:Int),.int (b:Int),.u,.u,.u] D=some (.nx,[x,.bool false,.bool true,.int (ba:Int),.ref kB,n,.ref j,.int (a:Int),.int ((if ba=1 then 8+b % 6 else b % 8:Nat):Int),.u,.u,.u],D):=by
    by_cases aj:ba=1
    .subst aj;have:((8+b % 6:Nat):Int)=8+((b % 6:Nat):Int):=by lia
     rw [if_pos rfl,this];have av:oEq D (.int ((1:Nat):Int)) (.int 1)=some (.bool true):=rfl
     simp! only [av,H1,gZ]
    .have ao:¬(ba:Int)=1:=by lia
     rw [if_neg aj]
     simp! only [h2,ao,decide_false,TP,f8]
   rw [ch (ai:=D) (show bp (a' (G 2)) (bp (a' (G 1)) bW) [x,.bool false,.bool true,.int (ba:Int),.ref kB,n,.ref j,.int (a:Int),.int (b:Int),.u,.u,.u] D=some (false,D) from rfl),aF ((dw (ai:=D) (show a' (G 2) [x,.bool false,.bool true,.int (ba:Int),.ref kB,n,.ref j,.int (a:Int),.int (b:Int),.u,.u,.u] D=some (true,D) from rfl)).trans (aF E))]
   rfl
noncomputable def C4:aU:=(af (a1 6 (cM (H (G 5) aa))) (af (eB [8,7] (bM (H (ak gb (H (G 6) (H (ab (.int 12)) aa))) (H (ak gb (H (G 6) (H (ab (.int 16)) aa))) aa)))) (af Ab (af (kP (G 4) (aT (ab ra) (G 7)) (aT (ab rb) (G 8))) aq))))
theorem VZ:zH=af (a1 4 hc) (af (e7 (kn (G 0) (ed (ab (.int 1))) (ed (ab (.int 8)))) (cx 5) C4 100) (af (aR (tW 4)) aq)):=rfl
structure rx (bk pl:Bool) (ba:Nat) (es:List (V×V)):Prop where
 cX:(es.map (·.1)).Nodup
 k:∀p∈es,p.1∈kc bk pl ba
 v:∀p∈es,p.2∈kf bk pl ba
theorem vO {bk pl:Bool} {ba:Nat} {v:V} (h:v∈kc bk pl ba):v∈hY:=by
 unfold kc at h;split at h
 .split at h
  .exact List.mem_of_mem_drop h
  .exact List.mem_of_mem_take h
 .exact h
theorem EI {bk pl:Bool} {ba:Nat} {v:V} (h:v∈kf bk pl ba):v∈jH:=by
 unfold kf at h;split at h
 .split at h
  .exact List.mem_of_mem_drop (List.mem_of_mem_take h)
  .exact List.mem_of_mem_take h
 .exact h
theorem HF {v:V} (h:v∈hY):(∃k,je v=some k)/\se v=true:=by
 have:(hY.all λv=>(je v).isSome && se v)=true:=by rfl'
 have:=List.all_eq_true.mp this v h;rw [Bool.and_eq_true] at this;exact ⟨Option.isSome_iff_exists.mp this.1,this.2⟩
theorem Y7 {bk pl:Bool} {ba:Nat} {es:List (V×V)} (P:rx bk pl ba es) {key v:V} {k:er} (hk:je key=some k) (aj:key∈kc bk pl ba) (ao:v∈kf bk pl ba):
  rx bk pl ba (n8 es k key v)/\(n8 es k key v).length<=es.length+1:=by
 unfold n8
 by_cases c:uj es k=true
 .rw [if_pos c];have qB:(es.map (λp=>if nK k p then (p.1,v) else p)).map (·.1)=es.map (·.1):=by
   rw [List.map_map];refine List.map_congr_left λp _=>?_;simp only [Function.comp];split <;> rfl
  refine ⟨⟨by rw [qB];exact P.cX,λp aw=>?_,λp aw=>?_⟩,by simp⟩
  .refine a2 (List.mem_map.mp aw) λq bL aV=>?_;subst aV;split
   .exact P.k q bL
   .exact P.k q bL
  .refine a2 (List.mem_map.mp aw) λq bL aV=>?_;subst aV;split
   .exact ao
   .exact P.v q bL
 .rw [if_neg c];refine ⟨⟨?_,λp aw=>?_,λp aw=>?_⟩,by simp⟩
  .rw [List.map_append,List.map_cons,List.map_nil];refine List.nodup_append.mpr ⟨P.cX,by simp,λa bw b aA=>?_⟩;rw [List.mem_singleton] at aA;subst aA;intro q;refine a2 (List.mem_map.mp bw) λp aw e=>?_;refine c (List.any_eq_true.mpr ⟨p,aw,?_⟩);rw [uI (x:=k) (by rw [e,q];exact hk)];simp
  .rcases List.mem_append.mp aw with h | h
   .exact P.k p h
   .rw [List.mem_singleton] at h;rw [h];exact aj
  .rcases List.mem_append.mp aw with h | h
   .exact P.v p h
   .rw [List.mem_singleton] at h;rw [h];exact ao
theorem VP {xs:List V} (ax:∀x∈xs,∃n,x=V.int n) (bk pl:Bool) {ba:Nat} (hf:ba∈List.range 2):
  ∃es al,ss [.ap xs,.bool bk,.bool pl,.int (ba:Int)] D=some (.ap (es.map aH),al)/\Fr dx D al/\es.length<=7/\rx bk pl ba es:=by
 have aW:(fG xs (some 1) (some 8)).length<=7:=Nat.le_trans (I7 _ _ _) (Sa _);have aP:∀x∈fG xs (some 1) (some 8),∃n,x=V.int n:=λx h=>ax x (I9 h);have fh:∀x y:V,([x,y]:List V).length<=big:=λx y=>by unfold big;simp
 have B0:∀x:V,([x]:List V).length<=big:=λx=>by unfold big;simp
 have lh:∀dS:am,kn (G 0) (ed (ab (.int 1))) (ed (ab (.int 8))) [.ap xs,.bool bk,.bool pl,.int (ba:Int),.ref D.length,.u,.u,.u,.u,.u,.u,.u] dS=some (.ap (fG xs (some 1) (some 8)),dS):=λdS=>by
  have b:(fG xs (some 1) (some 8)).length<=big:=by unfold big;lia
  have av:ed (ab (.int 1)) [.ap xs,.bool bk,.bool pl,.int (ba:Int),.ref D.length,.u,.u,.u,.u,.u,.u,.u] dS=some (some 1,dS):=rfl;have aC:ed (ab (.int 8)) [.ap xs,.bool bk,.bool pl,.int (ba:Int),.ref D.length,.u,.u,.u,.u,.u,.u,.u] dS=some (some 8,dS):=rfl;simp only [kn,ff,List.getElem?_cons_zero,Option.bind_some,n5,av,aC,v2,b,if_true]
 generalize fG xs (some 1) (some 8)=cL at aW aP lh;refine fj (kr (v:=.ap cL) (l:=cL) (g:=cx 5) (f:=C4)
  (λk ag ai=>(∃x5 h8 x7 x8,ag=[.ap xs,.bool bk,.bool pl,.int (ba:Int),.ref D.length,x5,h8,x7,x8,.u,.u,.u])/\Fr dx D ai/\∃es,ai[D.length]? =some (.dict es)/\rx bk pl ba es/\es.length<=k)
  (λk ag ai _=>l2 cL ai k) (λk x ag ai dv ax=>by
   revert dv;refine og λbd F ci=>?_;revert bd;refine pL λx5 h8 x7 x8 fK=>?_;subst fK;revert ci;refine hN λes aX P cS=>?_;have cY:=(List.getElem?_eq_some_iff.mp ax).1;refine cH (aP x (List.mem_of_getElem? ax)) λn bl=>?_;subst bl;have wA:=eL ai (.list [.int n]);have eK:=CZ (c:=12) wA (by lia) (by rfl');rw [j1] at eK;have fO:=CZ (c:=16) (eL ai (.list [.int (n.fdiv 12)])) (by lia) (by rfl');rw [j1] at fO;refine a2 (nz n (c:=12) (by lia)) λa bw lO=>?_;refine a2 (nz (n.fdiv 12) (c:=16) (by lia)) λb aA nv=>?_;have P2:n.fmod 12=(a:Int):=lO;have P4:(n.fdiv 12).fmod 16=(b:Int):=nv;rw [P2] at eK;rw [P4] at fO;have cP:a1 6 (cM (H (G 5) aa)) [.ap xs,.bool bk,.bool pl,.int (ba:Int),.ref D.length,.int n,h8,x7,x8,.u,.u,.u] ai=some (.nx,[.ap xs,.bool bk,.bool pl,.int (ba:Int),.ref D.length,.int n,.ref ai.length,x7,x8,.u,.u,.u],ai++[.list [.int n]]):=by
    simp! only [B0]
   have dF:eB [8,7] (bM (H (ak gb (H (G 6) (H (ab (.int 12)) aa))) (H (ak gb (H (G 6) (H (ab (.int 16)) aa))) aa))) [.ap xs,.bool bk,.bool pl,.int (ba:Int),.ref D.length,.int n,.ref ai.length,x7,x8,.u,.u,.u] (ai++[.list [.int n]])=some (.nx,[.ap xs,.bool bk,.bool pl,.int (ba:Int),.ref D.length,.int n,.ref ai.length,.int (a:Int),.int (b:Int),.u,.u,.u],ai++[az.list [.int ((n.fdiv 12).fdiv 16)]]):=by
    simp! only [eK,fO,fh] <;> rfl
   have h9:=SJ (.ap xs) (.int n) D.length ai.length rfl (ai++[az.list [.int ((n.fdiv 12).fdiv 16)]]) bk (sG _) pl (sG _) ba hf a (List.mem_range.mpr bw) b (List.mem_range.mpr aA);refine cq (S7 bk (sG _) pl (sG _) ba hf a (List.mem_range.mpr bw)) λsf w1=>?_;refine cq (ZX bk (sG _) pl (sG _) ba hf b (List.mem_range.mpr aA)) λDE Z1=>?_;have SQ:=S8 (ai++[az.list [.int ((n.fdiv 12).fdiv 16)]]) _ (by simpa using w1);have ZP:=ZY (ai++[az.list [.int ((n.fdiv 12).fdiv 16)]]) _ (by simpa using Z1);have sf:=H4 sf;have DE:=H4 DE;generalize qv bk pl ba a=qw at *;generalize q9 bk pl ba b=j5 at *;refine cq (HF (vO sf)) λbd _=>?_;revert bd;refine d7 λkk lU=>?_;refine cq (Y7 P lU sf DE) λLD l'=>?_;have r':=jq [az.list [.int ((n.fdiv 12).fdiv 16)]] aX;have Dj:po (ai++[az.list [.int ((n.fdiv 12).fdiv 16)]]) (.ref D.length) (oP qw) (valAt j5)=some ((ai++[az.list [.int ((n.fdiv 12).fdiv 16)]]).set D.length (.dict (n8 es kk (oP qw) (valAt j5)))):=by
    have:es.length+1<=big:=by unfold big;lia
    simp only [po,rO r',lU,Option.bind_some,this,if_true]
   have jK:kP (G 4) (aT (ab ra) (G 7)) (aT (ab rb) (G 8)) [.ap xs,.bool bk,.bool pl,.int (ba:Int),.ref D.length,.int n,.ref ai.length,.int (qw:Int),.int (j5:Int),.u,.u,.u] (ai++[az.list [.int ((n.fdiv 12).fdiv 16)]])=some (.nx,[.ap xs,.bool bk,.bool pl,.int (ba:Int),.ref D.length,.int n,.ref ai.length,.int (qw:Int),.int (j5:Int),.u,.u,.u],(ai++[az.list [.int ((n.fdiv 12).fdiv 16)]]).set D.length (.dict (n8 es kk (oP qw) (valAt j5)))):=by
    simp only [kP,aT,ab,ff,List.getElem?_cons_succ,List.getElem?_cons_zero,Option.bind_some,s7,ir,SQ,ZP,Option.map_some,Dj]
   refine ⟨[.ap xs,.bool bk,.bool pl,.int (ba:Int),.ref D.length,.int n,h8,x7,x8,.u,.u,.u],_,(ai++[az.list [.int ((n.fdiv 12).fdiv 16)]]).set D.length (.dict (n8 es kk (oP qw) (valAt j5))),rfl,?_,⟨.int n,.ref ai.length,.int (qw:Int),.int (j5:Int),rfl⟩,?_,_,gh r',LD,by lia⟩
   .unfold C4;rw [aF cP,aF dF,aF h9,aF jK];rfl
   .refine (F.t (Fr.app ai _)).trans (Fr.set (W:=λj=>j=D.length) _ _ _ rfl) (λ_ w=>w) λj aX w=>?_;lia) 100 0 (by lia) (Nat.zero_le _) [.ap xs,.bool bk,.bool pl,.int (ba:Int),.ref D.length,.u,.u,.u,.u,.u,.u,.u] (D++[.dict []]) ⟨⟨_,_,_,_,rfl⟩,Fr.app _ _,[],eL D _,⟨by simp,λp h=>by simp at h,λp h=>by simp at h⟩,Nat.le_refl _⟩) λbX al e dh F ci=>?_;revert dh;refine pL λx5 h8 x7 x8 fK=>?_;subst fK;revert ci;refine hN λes aX P cS=>?_
 have fY:a1 4 hc [.ap xs,.bool bk,.bool pl,.int (ba:Int),.u,.u,.u,.u,.u,.u,.u,.u] D=some (.nx,[.ap xs,.bool bk,.bool pl,.int (ba:Int),.ref D.length,.u,.u,.u,.u,.u,.u,.u],D++[.dict []]):=rfl;have wG:es.all (λdA=>se dA.1)=true:=List.all_eq_true.mpr λp aw=>(HF (vO (P.k p aw))).2;have m9:tW 4 [.ap xs,.bool bk,.bool pl,.int (ba:Int),.ref D.length,x5,h8,x7,x8,.u,.u,.u] al=some (.ap (es.map aH),al.set D.length .bB++[.bB]):=by
  simp only [tW,List.getElem?_cons_succ,List.getElem?_cons_zero,Option.bind_some,rO aX,wG,if_true]
 refine ⟨es,al.set D.length .bB++[.bB],?_,(F.trans (Fr.set (W:=λj=>j=D.length) _ _ _ rfl) (λ_ w=>w) λj aX w=>by lia).t (Fr.app _ _),by lia,P⟩;rw [Ph,VZ,aF fY,aF (ja (v:=.ap cL) (ai:=D++[az.dict []]) (lh (D++[az.dict []])) rfl e),b6 (c4 m9)]
 rfl
noncomputable def bg (es:List (V×V)) (k:Nat):V×V:=es[k]?.getD (.none,.none)
noncomputable def eh (es:List (V×V)) (k:Nat):V:=.tup [(bg es k).1,(bg es k).2,bu k]
noncomputable def h4 (k v:V) (b:Bool):V:=.tup [.str (kindOf k),k,.str (kindOf v),v,.bool b]
theorem Jf {es:List (V×V)} {k:Nat} (h:k < es.length):es[k]? =some (bg es k):=by
 unfold bg;rw [List.getElem?_eq_getElem h];rfl
theorem mY {es:List (V×V)} {k:Nat} (h:k < es.length):bg es k∈es:=List.mem_of_getElem? (Jf h)
theorem HA {es:List (V×V)} {k:Nat} (h:k < es.length) (D:am):item D (.ap (es.map aH)) (.int (k:Int))=some (aH (bg es k)):=
 iN (by rw [List.getElem?_map,Jf h];rfl)
theorem VE {es:List (V×V)} (cS:es.length<=7) {ag:List V} (hs:∀p∈es,ck p.1=true/\ck p.2=true) (ie:G 12 ag D=some (.ap (es.map aH),D)) (h0:gR [none,none,some 12] ag=[.u,.u,.ap (es.map aH)]):
  e' true (ak dX (H (ak bG (H (G 12) aa)) aa)) [none,none,some 12] (cx 1) bW (bM (H (aT (aT (G 2) (G 1)) (ab (.int 0))) (H (aT (aT (G 2) (G 1)) (ab (.int 1))) (H (G 1) aa)))) 100 ag D=some (.ap ((List.range es.length).map (eh es)),D++[.bB]):=by
 have fh:∀x y z:V,([x,y,z]:List V).length<=big:=λx y z=>by unfold big;simp
 have comp:=mz (v:=.de 0 (es.length:Int) 1) (l:=gO es.length) (g:=cx 1) (t:=bW) (f:=bM (H (aT (aT (G 2) (G 1)) (ab (.int 0))) (H (aT (aT (G 2) (G 1)) (ab (.int 1))) (H (G 1) aa)))) (D:=D) (ρb:=[.u,.u,.ap (es.map aH)])
  (λx=>[.u,x,.ap (es.map aH)]) (λ_=>true) (λx=>eh es (eX x).toNat) (qO _) (λ_ _=>rfl) (λ_ _ _ _=>rfl) (λ_ _ _=>rfl) (λx ax _ bi=>by
   refine a2 (sH ax) λk hk aV=>?_;subst aV;have eE:=HA hk (D++[az.list bi]);have kB:item (D++[az.list bi]) (aH (bg es k)) (.int 0)=some (bg es k).1:=mJ (k:=0) rfl;have nI:item (D++[az.list bi]) (aH (bg es k)) (.int 1)=some (bg es k).2:=mJ (k:=1) rfl
   simp! only [bu,eE,kB,nI,fh,eh,Int.toNat_natCast]) (by rw [jA];unfold big;lia) 100 (by rw [jA];lia)
 have out:((gO es.length).filter (λ_=>true)).map (λx=>eh es (eX x).toNat)=(List.range es.length).map (eh es):=by
  rw [t5];unfold gO;rw [List.map_map];refine List.map_congr_left λk _=>?_;simp only [Function.comp,uv,Int.toNat_natCast]
 rw [out] at comp;have aJ:ak dX (H (ak bG (H (G 12) aa)) aa) ag D=some (.de 0 (es.length:Int) 1,D):=by
  have:bG [.ap (es.map aH)] D=some (.int (es.length:Int),D):=by rw [jn,List.length_map]
  simp only [ak,H,aa,ie,Option.bind_some,this,Option.map_some,Gj]
 rw [<- h0] at comp;exact pZ aJ (qu (by lia)) comp
noncomputable def c' (es:List (V×V)) (S:List Nat) (place:Nat) (cU:Bool):List V:=(List.range S.length).map λi=>h4 (if cU then bu i else (bg es (S[i]?.getD 0)).1) (bg es (S[i]?.getD 0)).2 (decide (S[i]?.getD 0=place))
noncomputable def Aw:aU:=(af (jj (f9 [5,6,7]) (aT (G 0) (G 4))) (af (a7 (a' (G 2)) (af (a1 5 (G 4)) aq) aq) (af (b9 (bS c2 c0 (G 3) (H (bM (H (ak gc (H (G 5) aa)) (H (G 5) (H (ak gc (H (G 6) aa)) (H (G 6) (H (aM oEq (G 7) (G 1)) aa)))))) aa))) aq)))
theorem OR:zF=af (a1 3 (cM aa)) (af (e7 (ak dX (H (ak bG (H (G 0) aa)) aa)) (cx 4) Aw 100) (af (aR (ib (G 3))) aq)):=rfl
theorem VB {es:List (V×V)} {S:List Nat} (eW:∀k∈S,k < es.length) (cS:S.length<=7) (hs:∀p∈es,ck p.1=true/\ck p.2=true) (place:Nat) (cU:Bool):
  sp [.ap (S.map (eh es)),.int (place:Int),.bool cU] D=some (.ap (c' es S place cU),D++[.bB]):=by
 have fh:∀a b c d e:V,([a,b,c,d,e]:List V).length<=big:=λa b c d e=>by unfold big;simp
 refine fZ (kr (v:=.de 0 (S.length:Int) 1) (l:=gO S.length) (g:=cx 4) (f:=Aw)
  (λk ag ai=>(∃x4 x5 h8 x7,ag=[.ap (S.map (eh es)),.int (place:Int),.bool cU,.ref D.length,x4,x5,h8,x7,.u,.u,.u])/\ai=D++[.list ((c' es S place cU).take k)])
  (λk ag ai _=>qO S.length ai k) (λk x ag ai dv ax=>by
   revert dv;refine gT λbd bl=>?_;revert bd;refine pL λx4 x5 h8 x7 fK=>?_;subst fK;subst bl;refine a2 (sH (List.mem_of_getElem? ax)) λi aJ aV=>?_;subst aV;have Rw:k=i:=by
    have cY:=(List.getElem?_eq_some_iff.mp ax).1;rw [jA] at cY;unfold gO at ax;rw [List.getElem?_map,List.getElem?_range cY] at ax;simp only [Option.map_some,Option.some.injEq,bu,V.int.injEq] at ax;lia
   subst Rw;have cr:S[k]? =some S[k]:=List.getElem?_eq_getElem aJ;have cY:=eW _ (List.getElem_mem aJ);have sc:=hs _ (mY cY);have bn:(c' es S place cU)[k]? =some (h4 (if cU then bu k else (bg es S[k]).1) (bg es S[k]).2 (decide (S[k]=place))):=by
    unfold c';rw [List.getElem?_map,List.getElem?_range aJ];simp only [Option.map_some,cr,Option.getD_some]
   generalize S[k]=s at cr cY sc bn;have a9:item (D++[az.list ((c' es S place cU).take k)]) (.ap (S.map (eh es))) (.int (k:Int))=some (eh es s):=iN (by rw [List.getElem?_map,cr];rfl);have cP:jj (f9 [5,6,7]) (aT (G 0) (G 4)) [.ap (S.map (eh es)),.int (place:Int),.bool cU,.ref D.length,bu k,x5,h8,x7,.u,.u,.u] (D++[az.list ((c' es S place cU).take k)])=some (.nx,[.ap (S.map (eh es)),.int (place:Int),.bool cU,.ref D.length,bu k,(bg es s).1,(bg es s).2,bu s,.u,.u,.u],D++[az.list ((c' es S place cU).take k)]):=by
    simp! only [bu,a9,eh]
   have dF:a7 (a' (G 2)) (af (a1 5 (G 4)) aq) aq [.ap (S.map (eh es)),.int (place:Int),.bool cU,.ref D.length,bu k,(bg es s).1,(bg es s).2,bu s,.u,.u,.u] (D++[az.list ((c' es S place cU).take k)])=some (.nx,[.ap (S.map (eh es)),.int (place:Int),.bool cU,.ref D.length,bu k,if cU then bu k else (bg es s).1,(bg es s).2,bu s,.u,.u,.u],D++[az.list ((c' es S place cU).take k)]):=by
    cases cU
    .simp! only []
    .simp! only [bu]
   have JR:ck (if cU then bu k else (bg es s).1)=true:=by
    cases cU
    .exact sc.1
    .rfl
   have q:oEq (D++[az.list ((c' es S place cU).take k)]) (bu s) (.int (place:Int))=some (.bool (decide (s=place))):=by
    unfold bu;rw [h2];congr 2;rw [decide_eq_decide];lia
   have BX:=sQ _ JR (D++[az.list ((c' es S place cU).take k)]);have BY:=sQ _ sc.2 (D++[az.list ((c' es S place cU).take k)]);have r1:=cG (D:=D++[az.list ((c' es S place cU).take k)]) (iu JR);have cp:=cG (D:=D++[az.list ((c' es S place cU).take k)]) (iu sc.2);have r3:iV (D++[az.list ((c' es S place cU).take k)]) (bu s)=some (bu s,D++[az.list ((c' es S place cU).take k)]):=rfl;have g:=eL D (.list ((c' es S place cU).take k));have dH:=ht (h4 (if cU then bu k else (bg es s).1) (bg es s).2 (decide (s=place))) g (by have:((c' es S place cU).take k).length<=7:=by {rw [List.length_take];lia};unfold big;lia);rw [j1] at dH;have jc:(c' es S place cU).take (k+1)=(c' es S place cU).take k++[h4 (if cU then bu k else (bg es s).1) (bg es s).2 (decide (s=place))]:=by rw [List.take_add_one,bn];rfl
   rw [<- jc] at dH;have h9:bS c2 c0 (G 3) (H (bM (H (ak gc (H (G 5) aa)) (H (G 5) (H (ak gc (H (G 6) aa)) (H (G 6) (H (aM oEq (G 7) (G 1)) aa)))))) aa) [.ap (S.map (eh es)),.int (place:Int),.bool cU,.ref D.length,bu k,if cU then bu k else (bg es s).1,(bg es s).2,bu s,.u,.u,.u] (D++[az.list ((c' es S place cU).take k)])=some (.none,D++[az.list ((c' es S place cU).take (k+1))]):=by
    refine (nW (v:=.ref D.length) (ai:=D++[az.list ((c' es S place cU).take k)]) (l:=[h4 (if cU then bu k else (bg es s).1) (bg es s).2 (decide (s=place))]) (aY:=D++[az.list ((c' es S place cU).take k)]) (by simp! only []) (ip g) ?_).trans dH;generalize (if cU=true then bu k else (bg es s).fst)=kk at *
    simp! only [r1,cp,r3,BX,BY,q,fh,h4]
   refine ⟨[.ap (S.map (eh es)),.int (place:Int),.bool cU,.ref D.length,bu k,x5,h8,x7,.u,.u,.u],_,D++[az.list ((c' es S place cU).take (k+1))],rfl,?_,⟨bu k,if cU then bu k else (bg es s).1,(bg es s).2,bu s,rfl⟩,rfl⟩;unfold Aw;rw [aF cP,aF dF,aF (fP h9)];rfl) 100 0 (by rw [jA];lia) (Nat.zero_le _) [.ap (S.map (eh es)),.int (place:Int),.bool cU,.ref D.length,.u,.u,.u,.u,.u,.u,.u] (D++[.list []]) ⟨⟨_,_,_,_,rfl⟩,by rw [List.take_zero]⟩) λbX al e dh fK=>?_;revert dh;refine pL λx4 x5 h8 x7 fK=>?_;subst fK;subst fK
 have fa:(c' es S place cU).length=S.length:=by simp [c']
 rw [jA,<- fa,List.take_length] at e;have fY:a1 3 (cM aa) [.ap (S.map (eh es)),.int (place:Int),.bool cU,.u,.u,.u,.u,.u,.u,.u,.u] D=some (.nx,[.ap (S.map (eh es)),.int (place:Int),.bool cU,.ref D.length,.u,.u,.u,.u,.u,.u,.u],D++[az.list []]):=rfl;have aZ:ak dX (H (ak bG (H (G 0) aa)) aa) [.ap (S.map (eh es)),.int (place:Int),.bool cU,.ref D.length,.u,.u,.u,.u,.u,.u,.u] (D++[az.list []])=some (.de 0 (S.length:Int) 1,D++[az.list []]):=by
  have:bG [.ap (S.map (eh es))] (D++[az.list []])=some (.int (S.length:Int),D++[az.list []]):=by rw [jn,List.length_map]
  simp! only [this,dX]
 rw [Pf,OR,aF fY,aF (ja aZ (qu (by lia)) (by rw [<- fa];exact e)),b6 (c4 (Gx D _ rfl))]
 rfl
end
section
open PySem
variable {D al:am} {o:ee} {R:d6}
noncomputable def iM:V->Bool | .ref _=>true | _=>false
noncomputable def dQ (ca:V->V) (b1:List (V×V)):List V:=b1.map λp=>h4 p.1 (ca p.2) (iM p.2)
noncomputable def Dk:aU:=(af (b9 (bS c2 c0 (G 1) (H (bM (H (ak gc (H (G 2) aa)) (H (G 2) (H (ak gc (H (ak hj (H (G 3) aa)) aa)) (H (ak hj (H (G 3) aa)) (H (ak ey (H (G 3) (H (ab (.con (.ref 181))) aa))) aa)))))) aa))) aq)
theorem YH:zK=af (a1 1 (cM aa)) (af (e7 (ak lq (H (G 0) aa)) (f9 [2,3]) Dk 100) (af (aR (ib (G 1))) aq)):=rfl
theorem iC.mI {N:Nat} {s v:V} (h:iC N D s v):ey [s,.con (.ref 181)] D=some (.bool (iM s),D):=by
 rw [ny _ 181 rfl];obtain ⟨h,rfl⟩ | ⟨r,fs,rfl,e,h,_⟩:=h
 .rw [wY h]
  cases v <;> first | rfl | (cases h;done)
 .rw [uB e];rfl
theorem C2 {N:Nat} {ca:V->V} {b1:List (V×V)} (A:a8 D o R) (bD:Good D R b1) (I:i4 N ca b1 D) (d3:N<=D.length):∃al,lX [.ref o.a] D=some (.ap (dQ ca b1),al)/\Fr dx D al:=by
 have fh:∀a b c d e:V,([a,b,c,d,e]:List V).length<=big:=λa b c d e=>by unfold big;simp
 have cS:=bD.cS;have cu:=A.app [az.list []];have jL:Good (D++[az.list []]) R b1:=bD.re (bD.slot.app _);have q4:=C3 cu jL;refine fj (kr (v:=.ap (b1.map aH)) (l:=b1.map aH) (g:=f9 [2,3]) (f:=Dk)
  (λk ag ai=>(∃m5 x3,ag=[.ref o.a,.ref D.length,m5,x3,.u,.u,.u,.u,.u])/\Fr dx D ai/\ai[D.length]? =some (.list ((dQ ca b1).take k)))
  (λk ag ai _=>l2 _ ai k) (λk x ag ai dv ax=>by
   revert dv;refine og λbd F aX=>?_;revert bd;refine mo λm5 x3 aV=>?_;subst aV;rw [List.getElem?_map] at ax;refine a2 (Option.map_eq_some_iff.mp ax) λp aw aV=>?_;subst aV;have cY:=(List.getElem?_eq_some_iff.mp aw).1;have lg:=List.mem_of_getElem? aw;have S:iC N ai p.2 (ca p.2):=(I p lg).fr F λ_ _ _ w=>w.elim;have w1:=(bD.key p lg).sc;have eK:=S.FX;have mI:=S.mI;have BX:=sQ _ w1 ai;have BY:=sQ _ S.sc ai;have r1:=cG (D:=ai) (iu w1);have cp:=cG (D:=ai) S.set;have bn:(dQ ca b1)[k]? =some (h4 p.1 (ca p.2) (iM p.2)):=by unfold dQ;rw [List.getElem?_map,aw];rfl
   have jc:(dQ ca b1).take (k+1)=(dQ ca b1).take k++[h4 p.1 (ca p.2) (iM p.2)]:=by rw [List.take_add_one,bn];rfl
   have dH:=ht (h4 p.1 (ca p.2) (iM p.2)) aX (by have:((dQ ca b1).take k).length<=7:=by {rw [List.length_take];lia};unfold big;lia);rw [<- jc] at dH;have h9:bS c2 c0 (G 1) (H (bM (H (ak gc (H (G 2) aa)) (H (G 2) (H (ak gc (H (ak hj (H (G 3) aa)) aa)) (H (ak hj (H (G 3) aa)) (H (ak ey (H (G 3) (H (ab (.con (.ref 181))) aa))) aa)))))) aa) [.ref o.a,.ref D.length,p.1,p.2,.u,.u,.u,.u,.u] ai=some (.none,ai.set D.length (.list ((dQ ca b1).take (k+1)))):=by
    refine (nW (v:=.ref D.length) (ai:=ai) (l:=[h4 p.1 (ca p.2) (iM p.2)]) (aY:=ai) (by simp! only []) (ip aX) ?_).trans dH;generalize ca p.2=yC at *
    simp! only [r1,cp,BX,BY,eK,mI,fh,h4]
   refine ⟨[.ref o.a,.ref D.length,p.1,p.2,.u,.u,.u,.u,.u],_,ai.set D.length (.list ((dQ ca b1).take (k+1))),rfl,?_,⟨p.1,p.2,rfl⟩,F.trans (Fr.set (W:=λj=>j=D.length) _ _ _ rfl) (λ_ w=>w) λj aX w=>?_,gh aX⟩
   .unfold Dk;rw [aF (fP h9)];rfl
   .lia) 100 0 (by simp;lia) (Nat.zero_le _) [.ref o.a,.ref D.length,.u,.u,.u,.u,.u,.u,.u] (D++[az.list []]++[az.bB]) ⟨⟨_,_,rfl⟩,(Fr.app _ _).t (Fr.app _ _),by rw [List.take_zero];exact jq _ (eL D _)⟩) λbX al e dh F aX=>?_;revert dh;refine mo λm5 x3 aV=>?_;subst aV
 have fa:(dQ ca b1).length=b1.length:=by simp [dQ]
 rw [List.length_map,<- fa,List.take_length] at aX;have fY:a1 1 (cM aa) [.ref o.a,.u,.u,.u,.u,.u,.u,.u,.u] D=some (.nx,[.ref o.a,.ref D.length,.u,.u,.u,.u,.u,.u,.u],D++[az.list []]):=rfl;have aZ:ak lq (H (G 0) aa) [.ref o.a,.ref D.length,.u,.u,.u,.u,.u,.u,.u] (D++[az.list []])=some (.ap (b1.map aH),D++[az.list []]++[az.bB]):=by
  simp! only [q4]
 have m9:ib (G 1) [.ref o.a,.ref D.length,m5,x3,.u,.u,.u,.u,.u] al=some (.ap (dQ ca b1),al.set D.length .bB):=by
  exact t7 rfl aX
 refine ⟨al.set D.length .bB,?_,F.trans (Fr.set (W:=λj=>j=D.length) _ _ _ rfl) (λ_ w=>w) λj aX w=>by lia⟩;rw [Pl,YH,aF fY,aF (ja aZ rfl e),b6 (c4 m9)]
 rfl
theorem IU {N:Nat} {ca:V->V} {b1:List (V×V)} (A:a8 D o R) (bD:Good D R b1) (I:i4 N ca b1 D):∃al,nP [.ref o.a] D=some (.ap ((b1.map (·.2)).filter iM),al)/\Fr dx D al:=by
 have cS:=bD.cS;have q4:=C3 A bD;have comp:=mz (v:=.ap (b1.map aH)) (l:=b1.map aH) (g:=f9 [1,2]) (t:=a' (ak ey (H (G 2) (H (ab (.con (.ref 181))) aa)))) (f:=G 2) (D:=D++[az.bB]) (ρb:=[.u,.u,.u,.u,.u])
  (λx=>[.u,tk 0 x,tk 1 x,.u,.u]) (λx=>iM (tk 1 x)) (tk 1) (l2 _) (λx ax=>by
   refine a2 (jg ax) λp aw aV=>?_;subst aV;rfl) (λx ax y dr=>by
   refine a2 (jg ax) λp aw aV=>?_;subst aV;refine a2 (jg dr) λq bL aV=>?_;subst aV;rfl) (λx ax bi=>by
   refine a2 (jg ax) λp aw aV=>?_;subst aV;have S:iC N (D++[az.bB]++[az.list bi]) p.2 (ca p.2):=((I p aw).fr (Fr.app (W:=dx) D [az.bB]) λ_ _ _ w=>w.elim).fr (Fr.app (W:=dx) _ _) λ_ _ _ w=>w.elim;have mI:=S.mI;have cp:=cG (D:=D++[az.bB]++[az.list bi]) S.set
   simp! only [aH,cp,mI]) (λx ax _ bi=>by
   refine a2 (jg ax) λp aw aV=>?_;subst aV;have S:iC N (D++[az.bB]++[az.list bi]) p.2 (ca p.2):=((I p aw).fr (Fr.app (W:=dx) D [az.bB]) λ_ _ _ w=>w.elim).fr (Fr.app (W:=dx) _ _) λ_ _ _ w=>w.elim;have cp:=cG (D:=D++[az.bB]++[az.list bi]) S.set
   simp! only [aH,cp]) (by simp;unfold big;lia) 100 (by simp;lia)
 have out:((b1.map aH).filter (λx=>iM (tk 1 x))).map (tk 1)=(b1.map (·.2)).filter iM:=by
  rw [List.filter_map,List.map_map,List.filter_map]
  rfl
 rw [out] at comp;refine ⟨_,?_,(Fr.app D [az.bB]).t (Fr.app _ [az.bB])⟩;have aJ:ak lq (H (G 0) aa) [.ref o.a,.u] D=some (.ap (b1.map aH),D++[az.bB]):=by simp! only [q4]
 have c:e' true (ak lq (H (G 0) aa)) [none,none,none,none,none] (f9 [1,2]) (a' (ak ey (H (G 2) (H (ab (.con (.ref 181))) aa)))) (G 2) 100 [.ref o.a,.u] D=some (.ap ((b1.map (·.2)).filter iM),D++[az.bB]++[az.bB]):=by
  have h0:gR [none,none,none,none,none] [V.ref o.a,.u]=[.u,.u,.u,.u,.u]:=rfl;have ih:jd (D++[az.bB]) (.ap (b1.map aH))=true:=rfl;simp only [e',aJ,Option.bind_some,ih,if_true,h0,comp,fin,sZ (eL _ _),j1]
 rw [Pk];unfold zJ;rw [b6 (c4 c)]
 rfl
theorem LX (l:List V) (k:Nat) (hk:k < l.length):(∀j,j<=k->eX (l[j]?.getD .none)<=eX (l[argBest (λi j=>decide (eX (l[i]?.getD .none) > eX (l[j]?.getD .none))) k]?.getD .none))/\argBest (λi j=>decide (eX (l[i]?.getD .none) > eX (l[j]?.getD .none))) k<=k:=by
 induction k with
 | zero=>exact ⟨λj aX=>by rw [Nat.le_zero.mp aX];exact Int.le_refl _,Nat.le_refl _⟩
 | succ k bJ=>
  refine cq (bJ (by lia)) λaj ao=>?_;unfold argBest;generalize argBest (λi j=>decide (eX (l[i]?.getD .none) > eX (l[j]?.getD .none))) k=m at aj ao ⊢
  by_cases c:eX (l[k+1]?.getD .none) > eX (l[m]?.getD .none)
  .rw [if_pos (by simpa using c)];refine ⟨λj aX=>?_,Nat.le_refl _⟩
   by_cases q:j<=k
   .have:=aj j q;lia
   .rw [show j=k+1 by lia];exact Int.le_refl _
  .rw [if_neg (by simpa using c)];refine ⟨λj aX=>?_,by lia⟩
   by_cases q:j<=k
   .exact aj j q
   .rw [show j=k+1 by lia];lia
theorem H':∀(ps:List (V×V)) (n:Int),(∀p∈ps,∀i,p.1=.int i->jY < i)->jY<=n->n<=ps.foldl (λn p=>g2 n p.1) n/\(∀p∈ps,∀i,p.1=.int i->i+1<=ps.foldl (λn p=>g2 n p.1) n)/\(ps.foldl (λn p=>g2 n p.1) n=n\/∃p∈ps,∃i,p.1=.int i/\ps.foldl (λn p=>g2 n p.1) n=i+1)
 | [],n,_,_=>⟨Int.le_refl _,λp h=>by simp at h,.inl rfl⟩
 | p::ps,n,h,a3=>by
  have hk:n<=g2 n p.1/\(∀i,p.1=.int i->i+1<=g2 n p.1)/\(g2 n p.1=n\/∃i,p.1=.int i/\g2 n p.1=i+1):=by
   cases aw:p.1 with
   | int i=>
    unfold g2;dsimp only
    by_cases c:n<=i
    .rw [if_pos c];exact ⟨by lia,λj e=>by cases e;lia,.inr ⟨i,rfl,rfl⟩⟩
    .rw [if_neg c];exact ⟨by lia,λj e=>by cases e;lia,.inl rfl⟩
   | _=>exact ⟨Int.le_refl _,(λi e=>by cases e),.inl rfl⟩
  refine iz (H' ps (g2 n p.1) (λq bL=>h q (List.mem_cons_of_mem _ bL)) (by lia)) λa b c=>?_;rw [List.foldl_cons];refine ⟨by lia,λq bL i e=>?_,?_⟩
  .rcases List.mem_cons.mp bL with rfl | bL
   .have:=hk.2.1 i e;lia
   .exact b q bL i e
  .rcases c with c | ⟨q,bL,i,e,c⟩
   .rcases hk.2.2 with d | ⟨i,e,d⟩
    .exact .inl (c.trans d)
    .exact .inr ⟨p,List.mem_cons_self ..,i,e,c.trans d⟩
   .exact .inr ⟨q,List.mem_cons_of_mem _ bL,i,e,c⟩
theorem S' {k:V} (h:ho k) (D:am):oEq D (.str (kindOf k)) (.str [105,110,116])=some (.bool (hX k)):=by
 rcases h with ⟨i,rfl⟩ | ⟨l,rfl,_⟩ <;> rfl
theorem VN {ps:List (V×V)} (cS:ps.length<=7) (e4:∀p∈ps,iA p.1) (hs:∀p∈ps,ez p.2=true) (cU:Bool):
  ∃al,sr [.ap (ps.map aH),.bool cU] D=some (.int (if cU/\ps≠[] then (ps.length:Int) else iR ps),al)/\Fr dx D al:=by
 have b0:([]:List V).length<=big:=Nat.zero_le _;have ko:gw D (.ap (ps.map aH)) (.ap [])=some (.bool (!(ps.map aH).isEmpty)):=rfl;have dW:bp (a' (G 1)) (bp (aD gw (G 0) (ef aa)) bW) [.ap (ps.map aH),.bool cU,.u,.u,.u] D=some (decide (cU=true/\ps≠[]),D):=by
  cases cU with
  | false=>simp only [bC,outF,aq,af,a7,aR,b9,a1,pn,bI,l9,jC,jj,eB,ab,ff,dU,aM,cn,nt,p6,p5,iI,a',aD,ek,gP,bp,dI,bW,fD,ak,bS,aN,aT,bM,ef,cM,hc,la,aa,H,lw,ed,cx,f9,kQ,dO,n9,CK,iU,pg,mT,x',xZ,s7,qX,yb,n5,ir,x6,x2,ya,Option.bind_some,Option.map_some,List.getElem?_cons_zero,List.getElem?_cons_succ,List.set_cons_zero,List.set_cons_succ,if_true,if_false,reduceIte,Bool.false_eq_true,Bool.not_true,Bool.not_false];simp
  | true=>
   cases ps with
   | nil=>simp only [bC,outF,aq,af,a7,aR,b9,a1,pn,bI,l9,jC,jj,eB,ab,ff,dU,aM,cn,nt,p6,p5,iI,a',aD,ek,gP,bp,dI,bW,fD,ak,bS,aN,aT,bM,ef,cM,hc,la,aa,H,lw,ed,cx,f9,kQ,dO,n9,CK,iU,pg,mT,x',xZ,s7,qX,yb,n5,ir,x6,x2,ya,Option.bind_some,Option.map_some,List.getElem?_cons_zero,List.getElem?_cons_succ,List.set_cons_zero,List.set_cons_succ,if_true,if_false,reduceIte,Bool.false_eq_true,Bool.not_true,Bool.not_false,b0,ko];simp
   | cons p ps=>simp only [bC,outF,aq,af,a7,aR,b9,a1,pn,bI,l9,jC,jj,eB,ab,ff,dU,aM,cn,nt,p6,p5,iI,a',aD,ek,gP,bp,dI,bW,fD,ak,bS,aN,aT,bM,ef,cM,hc,la,aa,H,lw,ed,cx,f9,kQ,dO,n9,CK,iU,pg,mT,x',xZ,s7,qX,yb,n5,ir,x6,x2,ya,Option.bind_some,Option.map_some,List.getElem?_cons_zero,List.getElem?_cons_succ,List.set_cons_zero,List.set_cons_succ,if_true,if_false,reduceIte,Bool.false_eq_true,Bool.not_true,Bool.not_false,b0,ko];simp
 by_cases c:cU=true/\ps≠[]
 .rw [decide_eq_true c] at dW;refine ⟨D,?_,Fr.refl D⟩;have av:ak bG (H (G 0) aa) [.ap (ps.map aH),.bool cU,.u,.u,.u] D=some (.int (ps.length:Int),D):=by
   have:bG [.ap (ps.map aH)] D=some (.int (ps.length:Int),D):=by rw [jn,List.length_map]
   simp! only [this]
  rw [if_pos c,F4];unfold v6;rw [b6 ((dw dW).trans (b6 (c4 av)))]
  rfl
 .rw [decide_eq_false c] at dW;rw [if_neg c];have comp:=mz (v:=.ap (ps.map aH)) (l:=ps.map aH) (g:=f9 [1,2]) (t:=aD oEq (ak gc (H (G 1) aa)) (ab (.str [105,110,116]))) (f:=G 1) (D:=D) (ρb:=[.u,.u,.u,.u])
   (λx=>[.u,tk 0 x,tk 1 x,.u]) (λx=>hX (tk 0 x)) (tk 0) (l2 _) (λx ax=>by
    refine a2 (jg ax) λp aw aV=>?_;subst aV;rfl) (λx ax y dr=>by
    refine a2 (jg ax) λp aw aV=>?_;subst aV;refine a2 (jg dr) λq bL aV=>?_;subst aV;rfl) (λx ax bi=>by
    refine a2 (jg ax) λp aw aV=>?_;subst aV;have K:=(e4 p aw).1;have r1:=cG (D:=D++[az.list bi]) K.set;have bO:=sQ _ K.sc (D++[az.list bi]);have sf:=S' K (D++[az.list bi])
    simp! only [aH,r1,bO,sf]) (λx ax _ bi=>by
    refine a2 (jg ax) λp aw aV=>?_;subst aV;have r1:=cG (D:=D++[az.list bi]) (e4 p aw).1.set
    simp! only [aH,r1]) (by simp;unfold big;lia) 100 (by simp;lia)
  have out:((ps.map aH).filter (λx=>hX (tk 0 x))).map (tk 0)=(ps.map (·.1)).filter hX:=by
   rw [List.filter_map,List.map_map,List.filter_map]
   rfl
  rw [out] at comp;have nl:=pZ (i:=G 0) (pl:=[none,none,none,none]) (ag:=[.ap (ps.map aH),.bool cU,.u,.u,.u]) (by simp! only []) rfl comp;have dF:=hI (k:=2) nl;simp only [List.set_cons_zero,List.set_cons_succ] at dF;have oJ:∀v,v∈(ps.map (·.1)).filter hX↔∃p∈ps,∃i,p.1=.int i/\v=.int i:=λv=>by
   rw [List.mem_filter,List.mem_map]
   constructor
   .rintro ⟨⟨p,aw,rfl⟩,aJ⟩
    cases h:p.1 with
    | int i=>exact ⟨p,aw,i,h,rfl⟩
    | _=>rw [h] at aJ;cases aJ
   .rintro ⟨p,aw,i,e,rfl⟩
    exact ⟨⟨p,aw,e⟩,rfl⟩
  have lo:∀p∈ps,∀i,p.1=.int i->jY < i:=λp aw i e=>by
   have:=((e4 p aw).2 i e).1;unfold jY;lia
  refine iz (H' ps jY lo (Int.le_refl _)) λe5 eY nY=>?_;have qm:ps.foldl (λn p=>g2 n p.1) jY=iR ps:=rfl;rw [qm] at e5 eY nY;have wG:((ps.map (·.1)).filter hX).all hX=true:=List.all_eq_true.mpr λv aI=>(List.mem_filter.mp aI).2;generalize (ps.map (·.1)).filter hX=l at dF oJ wG;have fT:aD gw (G 2) (ef aa) [.ap (ps.map aH),.bool cU,.ap l,.u,.u] (D++[az.bB])=some (!l.isEmpty,D++[az.bB]):=by
   have P7:gw (D++[az.bB]) (.ap l) (.ap [])=some (.bool (!l.isEmpty)):=rfl
   simp! only [b0,P7]
  refine ⟨D++[az.bB],?_,Fr.app _ _⟩;have bN:cn (aD gw (G 2) (ef aa)) (aM cV (ak t3 (H (G 2) aa)) (ab (.int 1))) (dU ej (aM kL (ab (.int 2)) (ab (.int 63)))) [.ap (ps.map aH),.bool cU,.ap l,.u,.u] (D++[az.bB])=some (.int (iR ps),D++[az.bB]):=by
   by_cases h0:l=[]
   .subst h0;have:iR ps=jY:=by
     rcases nY with h | ⟨p,aw,i,e,_⟩
     .exact h
     .exact absurd ((oJ _).mpr ⟨p,aw,i,e,rfl⟩) (by simp)
    rw [this];have Wj:kL (D++[az.bB]) (.int 2) (.int 63)=some (.int 9223372036854775808):=by rfl'
    simp only [cn,fT,Option.bind_some,List.isEmpty_nil,Bool.not_true,Bool.false_eq_true,if_false,dU,aM,ab,Wj,ej,Option.map_some]
    rfl
   .have fa:0 < l.length:=List.length_pos_iff.mpr h0;have cW:l.isEmpty=false:=by cases l with | nil=>exact absurd rfl h0 | cons a b=>rfl
    rw [cW] at fT;refine cq (LX l (l.length - 1) (by lia)) λqB qC=>?_;have AP:t3 [.ap l] (D++[az.bB])=some (.int (eX (l[argBest (λi j=>decide (eX (l[i]?.getD .none) > eX (l[j]?.getD .none))) (l.length - 1)]?.getD .none)),D++[az.bB]):=by
     exact if_pos (by rw [wG,decide_eq_true fa];rfl)
    generalize argBest (λi j=>decide (eX (l[i]?.getD .none) > eX (l[j]?.getD .none))) (l.length - 1)=m at qB qC AP;have aP:m < l.length:=by lia
    refine a2 ((oJ l[m]).mp (List.getElem_mem aP)) λp aw ci=>?_;revert ci;refine eQ λi e ev=>?_;have OX:eX (l[m]?.getD .none)=i:=by rw [List.getElem?_eq_getElem aP,Option.getD_some,ev];rfl
    rw [OX] at qB AP;have up:=eY p aw i e;have dn:iR ps=i+1:=by
     rcases nY with h | ⟨q,bL,j,bH,h⟩
     .have:=lo p aw i e;lia
     .refine cH (List.getElem_of_mem ((oJ (.int j)).mpr ⟨q,bL,j,bH,rfl⟩)) λSM ci=>?_;obtain ⟨Rq,P6⟩:=ci;have:=qB SM (by lia);rw [List.getElem?_eq_getElem Rq,Option.getD_some,P6] at this;have this:j<=i:=this;lia
    rw [dn];simp only [cn,fT,Option.bind_some,Bool.not_false,if_true,aM,ak,H,aa,ff,List.getElem?_cons_succ,List.getElem?_cons_zero,n5,Option.map_some,AP,ab,Io]
  rw [F4];unfold v6;rw [aF ((ch dW).trans rfl),aF dF,b6 (c4 bN)]
  rfl
noncomputable def JA (f:Nat):List Nat:=if f=1\/f=7 then pc else if f=2 then pw else if f=3 then pt else if f=4 then natN else if f=5 then sL else pi
noncomputable def eM (ar f w:Nat):V:=if ar=6\/ar=7\/ar=8 then .int (w:Int) else if ar=9 then .str natN else if ar=10 then .str sL else .str (JA f)
theorem VS (D:am):∀ar∈List.range 11,∀f∈List.range 8,∀w∈List.range 4,su [.int (ar:Int),.int (f:Int),.int (w:Int)] D=some (eM ar f w,D):=by
 have:((List.range 11).map λ(ar:Nat)=>(List.range 8).map λ(f:Nat)=>(List.range 4).map λ(w:Nat)=>su [.int (ar:Int),.int (f:Int),.int (w:Int)] D)=((List.range 11).map λ(ar:Nat)=>(List.range 8).map λ(f:Nat)=>(List.range 4).map λ(w:Nat)=>some (eM ar f w,D)):=by rfl'
 exact λa bw b aA c bj=>List.map_inj_left.mp (List.map_inj_left.mp (List.map_inj_left.mp this a bw) b aA) c bj
noncomputable def jh (f:Nat):Int:=if f=1\/f=7 then 1 else if f=2 then 2 else if f=3 then 10 else if f=4 then 6 else if f=5 then 14 else 0
noncomputable def fA (f:Nat):Int:=if f=6 then 8 else if f=7 then 9 else jh f
theorem IH (D:am):∀f∈List.range 8,(item D ti (.int (f:Int)),sD [.int (fA f)] D)=(some (.int (fA f)),some (.int (jh f),D)):=by
 have:((List.range 8).map λ(f:Nat)=>(item D ti (.int (f:Int)),sD [.int (fA f)] D))=((List.range 8).map λ(f:Nat)=>(some (.int (fA f)),some (.int (jh f),D))):=by rfl'
 exact List.map_inj_left.mp this
theorem V3 (f:Nat):oi (jh f):=by
 unfold oi jh
 repeat (first | (split;(first | lia | skip)) | lia)
theorem IC {v:V} (aI:ez v=true) (D:am):dO 181 lp [v] D=some (.ref D.length,D++[.inst 181 [v,.int 0,.ref (D.length+1)],.list []]):=by
 have e:lp [.ref D.length,v] (D++[.inst 181 []])=some (.none,D++[.inst 181 [v,.int 0,.ref (D.length+1)],.list []]):=by
  rw [O'];unfold zz;have q:∀dS:am,G 1 [.ref D.length,v] dS=some (v,dS):=λdS=>by simp! only [cG aI]
  refine (congrArg outF ((hi (g':=[]) (w:=v) (q _) rfl rfl).trans ?_)).trans (CV [.ref D.length,v] _);refine (hi (w:=.int 0) rfl rfl rfl).trans ?_;refine (hi (qz _ D _ _) rfl rfl).trans ?_
  rfl
 exact sI e
noncomputable def qb (n:Nat):am:=[.inst 823 [.none,.none,.none,.none,.ref (n+1),.ref (n+2)],.dict [],.list []]
theorem Vo (ag:List V) (D:am):ak (dO 823 nO) aa ag D=some (.ref D.length,D++qb D.length):=by
 have e:nO [.ref D.length] (D++[.inst 823 []])=some (.none,D++qb D.length):=by
  rw [O5];unfold zu qb;refine (congrArg outF ((hi (g':=[]) (w:=.none) rfl rfl rfl).trans ?_)).trans (CV [.ref D.length,.none,.none,.none,.none] _);refine (hi (w:=.none) rfl rfl rfl).trans ?_;refine (hi (w:=.none) rfl rfl rfl).trans ?_;refine (hi (w:=.none) rfl rfl rfl).trans ?_;refine (hi (Ar _ D _ _) rfl rfl).trans ?_;refine (hi (qz _ D _ _) rfl rfl).trans ?_
  rfl
 simp only [ak,aa,Option.bind_some,sI e]
theorem QC (ag:List V) (D g:am) (x:az):ak (dO 823 nO) aa ag (D++(x::g))=some (.ref (D.length+1+g.length),D++(x::(g++qb (D.length+1+g.length)))):=by
 have h:(D++(x::g)).length=D.length+1+g.length:=by simp;lia
 have:=Vo ag (D++(x::g));rw [h] at this;rw [this];simp
theorem Vj {C k:Nat} {ag:List V} {fs:List V} {g:am} {w:V} (aZ:ag[0]? =some (.ref D.length)) (hk:fs[k]? =some w) (hw:uz w=true):aN C k (G 0) ag (D++(.inst C fs::g))=some (w,D++(.inst C fs::g)):=by
 simp only [aN,ff,aZ,Option.bind_some,ir,gq (qd D g (.inst C fs)) hk hw,Option.map_some]
noncomputable def hg (n:Nat):List V:=[.ref (n+1),.ref (n+2),.ref (n+3),.ref (n+4),.ref (n+4),.ref (n+7),.int 0,.ref (n+8),.ref (n+9),.int 0,.int 12,.int 0,.none,.int 0,.ref (n+10),.ref (n+11),.ref (n+12),.ref (n+13),.ref (n+14),.bool false]
noncomputable def fg (n:Nat):am:=[.dict [],.dict [],.dict []]++qb (n+4)++[.list [],.list [],.list [],.dict [],.dict [],.dict [],.list [],.list []]
theorem hC {k m m':Nat} {fv:bK} {fJ:aU} {ag:List V} {w:V} (aI:fv ag (D++(.inst 922 ((hg D.length).take k)::(fg D.length).take m))=some (w,D++(.inst 922 ((hg D.length).take k)::(fg D.length).take m'))) (aZ:ag[0]? =some (.ref D.length)) (hk:k=((hg D.length).take k).length) (hw:(hg D.length).take (k+1)=(hg D.length).take k++[w]):
  af (bI 922 k (G 0) fv) fJ ag (D++(.inst 922 ((hg D.length).take k)::(fg D.length).take m))=fJ ag (D++(.inst 922 ((hg D.length).take (k+1))::(fg D.length).take m')):=by
 rw [hw];exact hi aI aZ hk
theorem uP {m:Nat} {ag:List V} {x:az} (h:((fg D.length).take m).length=m) (ao:(fg D.length).take (m+1)=(fg D.length).take m++[.list []]):cM aa ag (D++(x::(fg D.length).take m))=some (.ref (D.length+(m+1)),D++(x::(fg D.length).take (m+1))):=by
 rw [ao,qz,h];congr 3;lia
theorem rQ {m:Nat} {ag:List V} {x:az} (h:((fg D.length).take m).length=m) (ao:(fg D.length).take (m+1)=(fg D.length).take m++[.dict []]):hc ag (D++(x::(fg D.length).take m))=some (.ref (D.length+(m+1)),D++(x::(fg D.length).take (m+1))):=by
 rw [ao,Ar,h];congr 3;lia
theorem QE {m:Nat} {ag:List V} {x:az} (h:((fg D.length).take m).length=m) (ao:(fg D.length).take (m+3)=(fg D.length).take m++qb (D.length+1+m)):ak (dO 823 nO) aa ag (D++(x::(fg D.length).take m))=some (.ref (D.length+(m+1)),D++(x::(fg D.length).take (m+3))):=by
 rw [ao,QC,h];congr 3;lia
theorem Vp (ag:List V) (D:am):ak (dO 922 oS) aa ag D=some (.ref D.length,D++(.inst 922 (hg D.length)::fg D.length)):=by
 have e:oS [.ref D.length] (D++[.inst 922 []])=some (.none,D++(.inst 922 (hg D.length)::fg D.length)):=by
  rw [O7];unfold zw;refine Eq.trans (congrArg outF (a₂:=some (.nx,[.ref D.length,.int 12,.none,.u],D++(.inst 922 (hg D.length)::fg D.length))) ?_) (CV _ _);refine Eq.trans (hC (k:=0) (m:=0) (m':=1) (rQ (m:=0) rfl rfl) rfl rfl rfl) ?_;refine Eq.trans (hC (k:=1) (m:=1) (m':=2) (rQ (m:=1) rfl rfl) rfl rfl rfl) ?_;refine Eq.trans (hC (k:=2) (m:=2) (m':=3) (rQ (m:=2) rfl rfl) rfl rfl rfl) ?_;refine Eq.trans (hC (k:=3) (m:=3) (m':=6) (QE (m:=3) rfl rfl) rfl rfl rfl) ?_;refine Eq.trans (hC (k:=4) (m:=6) (m':=6) (Vj rfl (w:=.ref (D.length+4)) rfl rfl) rfl rfl rfl) ?_;refine Eq.trans (hC (k:=5) (m:=6) (m':=7) (uP (m:=6) rfl rfl) rfl rfl rfl) ?_;refine Eq.trans (hC (w:=.int 0) (k:=6) (m:=7) (m':=7) (rfl) rfl rfl rfl) ?_;refine Eq.trans (hC (k:=7) (m:=7) (m':=8) (uP (m:=7) rfl rfl) rfl rfl rfl) ?_;refine Eq.trans (hC (k:=8) (m:=8) (m':=9) (uP (m:=8) rfl rfl) rfl rfl rfl) ?_;refine Eq.trans (hC (w:=.int 0) (k:=9) (m:=9) (m':=9) (rfl) rfl rfl rfl) ?_;refine Eq.trans (hC (w:=.int 12) (k:=10) (m:=9) (m':=9) (rfl) rfl rfl rfl) ?_;refine Eq.trans (hC (w:=.int 0) (k:=11) (m:=9) (m':=9) (rfl) rfl rfl rfl) ?_;refine Eq.trans (hC (w:=.none) (k:=12) (m:=9) (m':=9) (rfl) rfl rfl rfl) ?_;refine Eq.trans (hC (w:=.int 0) (k:=13) (m:=9) (m':=9) (rfl) rfl rfl rfl) ?_;refine Eq.trans (hC (k:=14) (m:=9) (m':=10) (rQ (m:=9) rfl rfl) rfl rfl rfl) ?_;refine Eq.trans (hC (k:=15) (m:=10) (m':=11) (rQ (m:=10) rfl rfl) rfl rfl rfl) ?_;refine Eq.trans (hC (k:=16) (m:=11) (m':=12) (rQ (m:=11) rfl rfl) rfl rfl rfl) ?_;refine Eq.trans (hC (k:=17) (m:=12) (m':=13) (uP (m:=12) rfl rfl) rfl rfl rfl) ?_;refine Eq.trans (hC (k:=18) (m:=13) (m':=14) (uP (m:=13) rfl rfl) rfl rfl rfl) ?_;refine Eq.trans (hC (w:=.bool false) (k:=19) (m:=14) (m':=14) (rfl) rfl rfl rfl) ?_
  rfl
 simp only [ak,aa,Option.bind_some,sI e]
noncomputable def slotAt (es:List (V×V)) (place r i:Nat):V:=if i=place then .ref r else (bg es i).2
noncomputable def cA (es:List (V×V)) (place r:Nat):List (V×V):=(List.range es.length).map λi=>((bg es i).1,slotAt es place r i)
noncomputable def ki (es:List (V×V)) (place n k:Nat):am:=.list (((cA es place (n+1)).map aH).take k)::(if place < k then [.inst 181 [(bg es place).2,.int 2,.ref (n+2)],.list []] else [])
noncomputable def we:aU:=(af (jj (f9 [4,5]) (aT (G 0) (G 3))) (af (a7 (aD oEq (G 3) (G 1)) (af (a1 5 (ak (dO 181 lp) (H (G 5) aa))) (af (bI 181 1 (G 5) (ab (.int 2))) aq)) aq) (af (b9 (bS c2 c0 (G 2) (H (bM (H (G 4) (H (G 5) aa))) aa))) aq)))
theorem ML:zB=af (a1 2 (cM aa)) (af (e7 (ak dX (H (ak bG (H (G 0) aa)) aa)) (cx 3) we 100) (af (aR (ak mN (H (G 2) aa))) aq)):=rfl
theorem xT (es:List (V×V)) (place r:Nat):(cA es place r).length=es.length:=by simp [cA]
theorem Wf {es:List (V×V)} {k:Nat} (hk:k < es.length) (place r:Nat):(cA es place r)[k]? =some ((bg es k).1,slotAt es place r k):=by
 unfold cA;rw [List.getElem?_map,List.getElem?_range hk];rfl
theorem MM {es:List (V×V)} (cS:es.length<=7) (hs:∀p∈es,ck p.1=true/\ck p.2=true) (place:Nat) {k:Nat} (hk:k < es.length) (x4 x5:V):
  we [.ap (es.map aH),.int (place:Int),.ref D.length,bu k,x4,x5,.u,.u,.u,.u] (D++ki es place D.length k)=some (.nx,[.ap (es.map aH),.int (place:Int),.ref D.length,bu k,(bg es k).1,slotAt es place (D.length+1) k,.u,.u,.u,.u],D++ki es place D.length (k+1)):=by
 have sc:=hs _ (mY hk);have fh:∀a b:V,([a,b]:List V).length<=big:=λa b=>by unfold big;simp
 have a9:∀dS:am,item dS (.ap (es.map aH)) (.int (k:Int))=some (aH (bg es k)):=HA hk;have cP:∀dS:am,jj (f9 [4,5]) (aT (G 0) (G 3)) [.ap (es.map aH),.int (place:Int),.ref D.length,bu k,x4,x5,.u,.u,.u,.u] dS=some (.nx,[.ap (es.map aH),.int (place:Int),.ref D.length,bu k,(bg es k).1,(bg es k).2,.u,.u,.u,.u],dS):=λdS=>by
  simp! only [bu,a9,aH]
 have dW:∀dS:am,aD oEq (G 3) (G 1) [.ap (es.map aH),.int (place:Int),.ref D.length,bu k,(bg es k).1,(bg es k).2,.u,.u,.u,.u] dS=some (decide (k=place),dS):=λdS=>by
  have:decide ((k:Int)=(place:Int))=decide (k=place):=by rw [decide_eq_decide];lia
  simp! only [bu,h2,this]
 have RD:=Wf hk place (D.length+1);have jc:((cA es place (D.length+1)).map aH).take (k+1)=((cA es place (D.length+1)).map aH).take k++[.tup [(bg es k).1,slotAt es place (D.length+1) k]]:=by
  rw [List.take_add_one,List.getElem?_map,RD];rfl
 have GU:(((cA es place (D.length+1)).map aH).take k).length < big:=by rw [List.length_take];unfold big;lia
 have fin:∀(s:V) (g:am),ez s=true->af (b9 (bS c2 c0 (G 2) (H (bM (H (G 4) (H (G 5) aa))) aa))) aq [.ap (es.map aH),.int (place:Int),.ref D.length,bu k,(bg es k).1,s,.u,.u,.u,.u] (D++(.list (((cA es place (D.length+1)).map aH).take k)::g))=some (.nx,[.ap (es.map aH),.int (place:Int),.ref D.length,bu k,(bg es k).1,s,.u,.u,.u,.u],D++(.list (((cA es place (D.length+1)).map aH).take k++[.tup [(bg es k).1,s]])::g)):=λs g hs=>by
  have GF:=qd D g (.list (((cA es place (D.length+1)).map aH).take k));have dH:=ht (.tup [(bg es k).1,s]) GF GU;rw [Dp] at dH;have E:bS c2 c0 (G 2) (H (bM (H (G 4) (H (G 5) aa))) aa) [.ap (es.map aH),.int (place:Int),.ref D.length,bu k,(bg es k).1,s,.u,.u,.u,.u] (D++(.list (((cA es place (D.length+1)).map aH).take k)::g))=some (.none,D++(.list (((cA es place (D.length+1)).map aH).take k++[.tup [(bg es k).1,s]])::g)):=by
   have r1:=λdS:am=>cG (D:=dS) (iu sc.1);have cp:=λdS:am=>cG (D:=dS) hs
   simp! only [ip GF,r1,cp,fh,dH]
  rw [aF (fP E)];rfl
 unfold we;rw [aF (cP _)]
 by_cases aw:k=place
 .subst aw;have k7:ki es k D.length k=[.list (((cA es k (D.length+1)).map aH).take k)]:=by unfold ki;rw [if_neg (Nat.lt_irrefl k)]
  have iD:ki es k D.length (k+1)=[.list (((cA es k (D.length+1)).map aH).take k++[.tup [(bg es k).1,.ref (D.length+1)]]),.inst 181 [(bg es k).2,.int 2,.ref (D.length+2)],.list []]:=by
   unfold ki;rw [if_pos (Nat.lt_succ_self k),jc];unfold slotAt;rw [if_pos rfl]
  generalize ((cA es k (D.length+1)).map aH).take k=kd at k7 iD fin;have ji:=IC (iu sc.2) (D++[az.list kd]);have aW:(D++[az.list kd]).length=D.length+1:=by simp
  rw [aW] at ji;have dF:a1 5 (ak (dO 181 lp) (H (G 5) aa)) [.ap (es.map aH),.int (k:Int),.ref D.length,bu k,(bg es k).1,(bg es k).2,.u,.u,.u,.u] (D++[az.list kd])=some (.nx,[.ap (es.map aH),.int (k:Int),.ref D.length,bu k,(bg es k).1,.ref (D.length+1),.u,.u,.u,.u],D++[az.list kd]++[az.inst 181 [(bg es k).2,.int 0,.ref (D.length+2)],az.list []]):=by
   have cp:=λdS:am=>cG (D:=dS) (iu sc.2);have LW:H (G 5) aa [.ap (es.map aH),.int (k:Int),.ref D.length,bu k,(bg es k).1,(bg es k).2,.u,.u,.u,.u] (D++[az.list kd])=some ([(bg es k).2],D++[az.list kd]):=by simp! only [cp]
   have:=hI (k:=5) ((eS LW).trans ji);simpa only [List.set_cons_zero,List.set_cons_succ] using this
  have t9:(D++[az.list kd]++[az.inst 181 [(bg es k).2,.int 0,.ref (D.length+2)],az.list []])[D.length+1]? =some (.inst 181 [(bg es k).2,.int 0,.ref (D.length+2)]):=by
   rw [<- aW];exact qd _ _ _
  have fs:=jp (k:=1) (.int 2) t9 (by simp);have YE:(D++[az.list kd]++[az.inst 181 [(bg es k).2,.int 0,.ref (D.length+2)],az.list []]).set (D.length+1) (.inst 181 [(bg es k).2,.int 2,.ref (D.length+2)])=D++(az.list kd::[az.inst 181 [(bg es k).2,.int 2,.ref (D.length+2)],az.list []]):=by
   rw [<- aW,Dp,List.append_assoc];rfl
  have Gy:g0 181 1 (D++[az.list kd]++[az.inst 181 [(bg es k).2,.int 0,.ref (D.length+2)],az.list []]) (.ref (D.length+1)) (.int 2)=some (D++(az.list kd::[az.inst 181 [(bg es k).2,.int 2,.ref (D.length+2)],az.list []])):=fs.trans (congrArg some YE);have h9:bI 181 1 (G 5) (ab (.int 2)) [.ap (es.map aH),.int (k:Int),.ref D.length,bu k,(bg es k).1,.ref (D.length+1),.u,.u,.u,.u] (D++[az.list kd]++[az.inst 181 [(bg es k).2,.int 0,.ref (D.length+2)],az.list []])=some (.nx,[.ap (es.map aH),.int (k:Int),.ref D.length,bu k,(bg es k).1,.ref (D.length+1),.u,.u,.u,.u],D++(az.list kd::[az.inst 181 [(bg es k).2,.int 2,.ref (D.length+2)],az.list []])):=by
   simp only [bI,ab,ff,List.getElem?_cons_succ,List.getElem?_cons_zero,Option.bind_some,ir,Gy,Option.map_some]
  have td:=dW (D++ki es k D.length k);rw [decide_eq_true rfl] at td;have lh:slotAt es k (D.length+1) k=.ref (D.length+1):=by unfold slotAt;rw [if_pos rfl]
  rw [k7] at td ⊢;rw [iD,lh,aF ((dw td).trans ((aF dF).trans (aF h9)))];exact fin _ _ rfl
 .have c:ki es place D.length (k+1)=.list (((cA es place (D.length+1)).map aH).take k++[.tup [(bg es k).1,(bg es k).2]])::(if place < k then [.inst 181 [(bg es place).2,.int 2,.ref (D.length+2)],.list []] else []):=by
   unfold ki;rw [jc];have aj:slotAt es place (D.length+1) k=(bg es k).2:=by unfold slotAt;rw [if_neg aw]
   rw [aj];congr 1
   by_cases q:place < k
   .rw [if_pos q,if_pos (by lia)]
   .rw [if_neg q,if_neg (by lia)]
  have td:=dW (D++ki es place D.length k);rw [decide_eq_false aw] at td;have lh:slotAt es place (D.length+1) k=(bg es k).2:=by unfold slotAt;rw [if_neg aw]
  rw [c,lh,aF ((ch td).trans rfl)];exact fin _ _ (iu sc.2)
theorem Vt {es:List (V×V)} (cS:es.length<=7) (hs:∀p∈es,ck p.1=true/\ck p.2=true) (e4:∀p∈es,iA p.1) (cX:(es.map (·.1)).Nodup) (place:Nat):
  ∃al o R,sn [.ap (es.map aH),.int (place:Int)] D=some (.ref o.a,al)/\Fr dx D al/\a8 al o R/\Good al R (cA es place (D.length+1))/\R.sh=false/\R.next=iR es/\(∀j,cR o j->D.length<=j/\(place < es.length->D.length+1 < j))/\(place < es.length->al[D.length+1]? =some (.inst 181 [(bg es place).2,.int 2,.ref (D.length+2)])):=by
 refine fZ (kr (v:=.de 0 (es.length:Int) 1) (l:=gO es.length) (g:=cx 3) (f:=we)
  (λk ag ai=>(∃x3 x4 x5,ag=[.ap (es.map aH),.int (place:Int),.ref D.length,x3,x4,x5,.u,.u,.u,.u])/\ai=D++ki es place D.length k)
  (λk ag ai _=>qO es.length ai k) (λk x ag ai dv ax=>by
   revert dv;refine gT λbd bl=>?_;revert bd;refine ro λx3 x4 x5 dh=>?_;subst dh;subst bl;have cY:=(List.getElem?_eq_some_iff.mp ax).1;rw [jA] at cY;have RX:x=bu k:=by
    unfold gO at ax;rw [List.getElem?_map,List.getElem?_range cY] at ax;revert ax;refine s1 λbd=>?_;subst bd;rfl
   subst RX;exact ⟨[.ap (es.map aH),.int (place:Int),.ref D.length,bu k,x4,x5,.u,.u,.u,.u],_,_,rfl,MM cS hs place cY x4 x5,⟨bu k,(bg es k).1,slotAt es place (D.length+1) k,rfl⟩,rfl⟩) 100 0 (by rw [jA];lia) (Nat.zero_le _) [.ap (es.map aH),.int (place:Int),.ref D.length,.u,.u,.u,.u,.u,.u,.u] (D++[az.list []]) ⟨⟨_,_,_,rfl⟩,rfl⟩) λbX ai e dh fK=>?_;revert dh;refine ro λx3 x4 x5 dh=>?_;subst dh;subst fK
 rw [jA] at e;have Rj:ki es place D.length es.length=.list ((cA es place (D.length+1)).map aH)::(if place < es.length then [az.inst 181 [(bg es place).2,.int 2,.ref (D.length+2)],az.list []] else []):=by
  unfold ki;rw [List.take_of_length_le (by rw [List.length_map,xT];exact Nat.le_refl _)]
 rw [Rj] at e;have wA:=qd D (if place < es.length then [az.inst 181 [(bg es place).2,.int 2,.ref (D.length+2)],az.list []] else []) (az.list ((cA es place (D.length+1)).map aH));have pJ:Fr dx D (D++(az.list ((cA es place (D.length+1)).map aH)::(if place < es.length then [az.inst 181 [(bg es place).2,.int 2,.ref (D.length+2)],az.list []] else []))):=Fr.app _ _;have ic:place < es.length->(D++(az.list ((cA es place (D.length+1)).map aH)::(if place < es.length then [az.inst 181 [(bg es place).2,.int 2,.ref (D.length+2)],az.list []] else [])))[D.length+1]? =some (.inst 181 [(bg es place).2,.int 2,.ref (D.length+2)]):=λq=>by
  rw [if_pos q,List.getElem?_append_right (by lia),show D.length+1 - D.length=1 by lia];rfl
 have aW:D.length+1<=(D++(az.list ((cA es place (D.length+1)).map aH)::(if place < es.length then [az.inst 181 [(bg es place).2,.int 2,.ref (D.length+2)],az.list []] else []))).length:=by simp
 have jb:place < es.length->D.length+2 < (D++(az.list ((cA es place (D.length+1)).map aH)::(if place < es.length then [az.inst 181 [(bg es place).2,.int 2,.ref (D.length+2)],az.list []] else []))).length:=λq=>by rw [if_pos q];simp
 generalize (D++(az.list ((cA es place (D.length+1)).map aH)::(if place < es.length then [az.inst 181 [(bg es place).2,.int 2,.ref (D.length+2)],az.list []] else [])):am)=ai at e wA pJ ic aW jb;have mem:∀p∈cA es place (D.length+1),∃i,i < es.length/\p=((bg es i).1,slotAt es place (D.length+1) i):=λp aw=>by
  unfold cA at aw;refine a2 (List.mem_map.mp aw) λi aJ aV=>?_;subst aV;exact ⟨i,List.mem_range.mp aJ,rfl⟩
 have keys:(cA es place (D.length+1)).map (·.1)=es.map (·.1):=by
  unfold cA;rw [List.map_map];refine List.ext_getElem (by simp) λi aj ao=>?_;simp only [List.getElem_map,List.getElem_range,Function.comp,bg];simp only [List.length_map,List.length_range] at aj;rw [List.getElem?_eq_getElem aj];rfl
 refine oe (II (D:=ai) (v:=.ref D.length) (ps:=cA es place (D.length+1)) rfl (λal F=>by
  have:=F.at wA λw=>w;refine ⟨wZ this,λk=>by simp only [Il,my this,Option.map_some]⟩) (λp aw=>by
  refine a2 (mem p aw) λi aJ aV=>?_;subst aV;exact e4 (bg es i) (mY aJ)) (λp aw=>by
  refine a2 (mem p aw) λi aJ aV=>?_;subst aV;dsimp only;unfold slotAt
  by_cases q:i=place
  .rw [if_pos q];exact ⟨.inr (.inr ⟨_,_,rfl,ic (by lia)⟩),λz=>by cases z⟩
  .rw [if_neg q];have:=(hs _ (mY aJ)).2;exact ⟨.inl this,λz=>by rw [z] at this;cases this⟩) (by rw [xT];exact cS) (by rw [keys];exact cX)) λaY o R aC fr nx=>?_
 have Ux:iR (cA es place (D.length+1))=iR es:=by
  unfold iR;have aj:∀(l:List (V×V)) (n:Int),l.foldl (λn p=>g2 n p.1) n=(l.map (·.1)).foldl g2 n:=λl n=>by rw [List.foldl_map]
  rw [aj,aj,keys]
 refine ⟨aY,o,R,?_,pJ.t fr.fr,fr.arr,fr.good,fr.sh,nx.trans Ux,λj w=>?_,λq=>fr.fr.at (ic q) λw=>w⟩
 .have fY:a1 2 (cM aa) [.ap (es.map aH),.int (place:Int),.u,.u,.u,.u,.u,.u,.u,.u] D=some (.nx,[.ap (es.map aH),.int (place:Int),.ref D.length,.u,.u,.u,.u,.u,.u,.u],D++[az.list []]):=rfl;have aZ:ak dX (H (ak bG (H (G 0) aa)) aa) [.ap (es.map aH),.int (place:Int),.ref D.length,.u,.u,.u,.u,.u,.u,.u] (D++[az.list []])=some (.de 0 (es.length:Int) 1,D++[az.list []]):=by
   have:bG [.ap (es.map aH)] (D++[az.list []])=some (.int (es.length:Int),D++[az.list []]):=by rw [jn,List.length_map]
   simp! only [this,dX]
  have m9:ak mN (H (G 2) aa) [.ap (es.map aH),.int (place:Int),.ref D.length,x3,x4,x5,.u,.u,.u,.u] ai=some (.ref o.a,aY):=by
   refine (eS (l:=[.ref D.length]) (ai:=ai) ?_).trans aC
   simp! only []
  rw [Pb,ML,aF fY,aF (ja aZ (qu (by lia)) e),b6 (c4 m9)]
  rfl
 .have:=fr.own j w;exact ⟨by lia,λq=>by have:=jb q;lia⟩
end
section
open PySem
section
variable {es:List (V×V)} {place r0:Nat} {bk rn:Bool} {g:V->Int}
noncomputable def fe (x:V):V->V | .ref _=>x | v=>v
noncomputable def n4 (es:List (V×V)) (place r0 k:Nat):V×V:=((bg es k).1,slotAt es place r0 k)
noncomputable def t2 (es:List (V×V)) (bk:Bool) (g:V->Int) (k:Nat):Int:=g (if bk then (bg es k).1 else (bg es k).2)
noncomputable def dE (es:List (V×V)) (bk:Bool) (g:V->Int):List Nat:=co (t2 es bk g) (List.range es.length)
noncomputable def sorted (es:List (V×V)) (place r0:Nat) (bk:Bool) (g:V->Int):List (V×V):=(dE es bk g).map (n4 es place r0)
noncomputable def hR (es:List (V×V)) (place r0:Nat) (bk rn:Bool) (g:V->Int):List (V×V):=if rn then gG ((sorted es place r0 bk g).map (·.2)) else sorted es place r0 bk g
noncomputable def iW (es:List (V×V)) (place:Nat) (bk:Bool) (g:V->Int):V->Int:=s8 (fe (bg es place).2) bk g
theorem C':cA es place r0=(List.range es.length).map (n4 es place r0):=rfl
theorem Z5 {x v:V} (h:ck v=true):fe x v=v:=by cases v <;> first | rfl | (cases h;done)
theorem pj (hs:∀p∈es,ck p.1=true/\ck p.2=true) (k:Nat):ck (bg es k).1=true/\ck (bg es k).2=true:=by
 by_cases h:k < es.length
 .exact hs _ (mY h)
 .unfold bg;rw [List.getElem?_eq_none (by lia)];exact ⟨rfl,rfl⟩
theorem tl (hs:∀p∈es,ck p.1=true/\ck p.2=true) (k:Nat):fe (bg es place).2 (slotAt es place r0 k)=(bg es k).2:=by
 unfold slotAt
 by_cases h:k=place
 .rw [if_pos h,h];rfl
 .rw [if_neg h];exact Z5 (pj hs k).2
theorem Kl (hs:∀p∈es,ck p.1=true/\ck p.2=true) (k:Nat):j4 (fe (bg es place).2) bk (n4 es place r0 k)=if bk then (bg es k).1 else (bg es k).2:=by
 unfold j4 n4
 cases bk
 .exact tl hs k
 .rfl
theorem WG (hs:∀p∈es,ck p.1=true/\ck p.2=true) (k:Nat):iW es place bk g (aH (n4 es place r0 k))=t2 es bk g k:=by
 unfold iW t2;rw [va,Kl hs]
theorem Dt (hs:∀p∈es,ck p.1=true/\ck p.2=true):co (λp=>iW es place bk g (aH p)) (cA es place r0)=sorted es place r0 bk g:=by
 rw [C',BR];unfold sorted dE;rw [show (λb=>iW es place bk g (aH (n4 es place r0 b)))=t2 es bk g from funext λk=>WG hs k]
theorem AE (l:List V):(gG l).map (·.2)=l:=by
 unfold gG;rw [List.map_map];exact Df l .none
theorem JW (hs:∀p∈es,ck p.1=true/\ck p.2=true):k3 (λp=>iW es place bk g (aH p)) (sorted es place r0 bk g):=by
 rw [<- Dt hs];exact Hy _ _
theorem Y0 (hs:∀p∈es,ck p.1=true/\ck p.2=true) (aA:rn=true->bk=false):co (λp=>iW es place bk g (aH p)) (hR es place r0 bk rn g)=hR es place r0 bk rn g:=by
 refine Sz _ _ ?_;unfold hR
 cases rn with
 | false=>exact JW hs
 | true=>
  have qj:=aA rfl;subst qj;rw [if_pos rfl];have h:=JW (place:=place) (r0:=r0) (bk:=false) (g:=g) hs;unfold k3 at h ⊢;have e:∀l:List (V×V),l.Pairwise (λa b=>iW es place false g (aH a)<=iW es place false g (aH b))↔(l.map (·.2)).Pairwise (λa b=>g (fe (bg es place).2 a)<=g (fe (bg es place).2 b)):=λl=>by
   rw [List.pairwise_map];rfl
  rw [e,AE];exact (e _).mp h
theorem Um (hs:∀p∈es,ck p.1=true/\ck p.2=true) (aA:rn=true->bk=false):(if rn then gG ((co (λp=>iW es place bk g (aH p)) (hR es place r0 bk rn g)).map (·.2)) else co (λp=>iW es place bk g (aH p)) (hR es place r0 bk rn g))=hR es place r0 bk rn g:=by
 rw [Y0 hs aA]
 cases rn with
 | false=>rfl
 | true=>
  unfold hR;simp only [if_true];rw [AE]
theorem Un (hs:∀p∈es,ck p.1=true/\ck p.2=true):(if rn then gG ((co (λp=>iW es place bk g (aH p)) (cA es place r0)).map (·.2)) else co (λp=>iW es place bk g (aH p)) (cA es place r0))=hR es place r0 bk rn g:=by
 rw [Dt hs];rfl
theorem Y4 {k:Nat}:k∈dE es bk g↔k < es.length:=by
 unfold dE;rw [oN,List.mem_range]
theorem Y3:(dE es bk g).length=es.length:=by unfold dE;rw [uC,List.length_range]
structure iB (es:List (V×V)) (place r0:Nat) (bk rn:Bool) (g:V->Int) (L:List V) (b1:List (V×V)):Prop where
 kb:∀p∈b1,iA p.1
 cX:(b1.map (·.1)).Nodup
 len:b1.length=es.length
 slot:∀p∈b1,∃i,i < es.length/\p.2=slotAt es place r0 i
 sort:(if rn then gG ((co (λp=>iW es place bk g (aH p)) b1).map (·.2)) else co (λp=>iW es place bk g (aH p)) b1)=hR es place r0 bk rn g
 jV:∀p∈b1,j4 (fe (bg es place).2) bk p∈L
theorem Wg:(cA es place r0).map (·.1)=es.map (·.1):=by
 unfold cA;rw [List.map_map];refine List.ext_getElem (by simp) λi aj ao=>?_;simp only [List.getElem_map,List.getElem_range,Function.comp,bg];simp only [List.length_map,List.length_range] at aj;rw [List.getElem?_eq_getElem aj];rfl
theorem qU {p:V×V} (aw:p∈cA es place r0):∃i,i < es.length/\p=n4 es place r0 i:=by
 rw [C'] at aw;refine a2 (List.mem_map.mp aw) λi aJ aV=>?_;subst aV;exact ⟨i,List.mem_range.mp aJ,rfl⟩
theorem Wo {L:List V} (hs:∀p∈es,ck p.1=true/\ck p.2=true) (kb:∀p∈es,iA p.1) (cX:(es.map (·.1)).Nodup) (fp:∀p∈es,(if bk then p.1 else p.2)∈L):iB es place r0 bk rn g L (cA es place r0) where
 kb:=λp aw=>by refine a2 (qU aw) λi aJ aV=>?_;subst aV;exact kb (bg es i) (mY aJ)
 cX:=by rw [Wg];exact cX
 len:=xT _ _ _
 slot:=λp aw=>by refine a2 (qU aw) λi aJ aV=>?_;subst aV;exact ⟨i,aJ,rfl⟩
 sort:=Un hs
 jV:=λp aw=>by
  refine a2 (qU aw) λi aJ aV=>?_;subst aV;rw [Kl hs];exact fp _ (mY aJ)
theorem Y1 (hs:∀p∈es,ck p.1=true/\ck p.2=true):(sorted es place r0 bk g).Perm (cA es place r0):=by
 rw [<- Dt hs];exact uD _ _
theorem P9 {l:List V} {p:V×V} (aw:p∈gG l):∃i,i < l.length/\p.1=bu i/\p.2∈l:=by
 unfold gG at aw;refine a2 (List.mem_map.mp aw) λi aJ aV=>?_;subst aV;have aJ:=List.mem_range.mp aJ;exact ⟨i,aJ,rfl,by simp [aJ]⟩
theorem Wn {L:List V} (cS:es.length<=7) (hs:∀p∈es,ck p.1=true/\ck p.2=true) (aA:rn=true->bk=false) (Q:iB es place r0 bk rn g L (cA es place r0)):iB es place r0 bk rn g L (hR es place r0 bk rn g):=by
 have c3:=Y1 (place:=place) (r0:=r0) (bk:=bk) (g:=g) hs;have h5:(sorted es place r0 bk g).length=es.length:=c3.length_eq.trans (xT _ _ _);have eg:=Um (place:=place) (r0:=r0) (g:=g) hs aA
 cases wR:rn with
 | false=>
  subst wR;exact ⟨λp aw=>Q.kb p (c3.mem_iff.mp aw),(c3.map _).nodup_iff.mpr Q.cX,h5,λp aw=>Q.slot p (c3.mem_iff.mp aw),eg,λp aw=>Q.jV p (c3.mem_iff.mp aw)⟩
 | true=>
  subst wR;have qj:=aA rfl;subst qj;have mem:∀p∈hR es place r0 false true g,∃i q,i < es.length/\p.1=bu i/\q∈cA es place r0/\p.2=q.2:=λp aw=>by
   refine gk (P9 (l:=(sorted es place r0 false g).map (·.2)) aw) λi aJ e ao=>?_;rw [List.length_map,h5] at aJ;refine a2 (List.mem_map.mp ao) λq bL aC=>?_;exact ⟨i,q,aJ,e,c3.mem_iff.mp bL,aC.symm⟩
  refine ⟨λp aw=>?_,?_,?_,λp aw=>?_,eg,λp aw=>?_⟩
  .refine fj (mem p aw) λi q aJ e _ _=>?_;rw [e];exact ⟨.inl ⟨_,rfl⟩,λj q=>by unfold bu at q;cases q;lia⟩
  .show ((gG ((sorted es place r0 false g).map (·.2))).map (·.1)).Nodup;unfold gG;rw [List.map_map];refine List.pairwise_map.mpr ((show ((List.range ((sorted es place r0 false g).map (·.2)).length)).Pairwise (· ≠·) from List.nodup_range).imp λ{a b} h q=>h ?_);simp only [Function.comp,bu,V.int.injEq] at q;lia
  .show (gG ((sorted es place r0 false g).map (·.2))).length=_;rw [tZ,List.length_map,h5]
  .refine fj (mem p aw) λi q aJ e bL aC=>?_;rw [aC];exact Q.slot q bL
  .refine fj (mem p aw) λi q aJ e bL aC=>?_;have:=Q.jV q bL;unfold j4 at this ⊢;simp only [Bool.false_eq_true,if_false] at this ⊢;rw [aC];exact this
theorem Hu (hs:∀p∈es,ck p.1=true/\ck p.2=true) (k:Nat):iM (slotAt es place r0 k)=decide (k=place):=by
 unfold slotAt
 by_cases h:k=place
 .rw [if_pos h,decide_eq_true h];rfl
 .rw [if_neg h,decide_eq_false h];have:=(pj hs k).2
  cases aI:(bg es k).2 <;> first | rfl | (rw [aI] at this;cases this;done)
theorem YF (hs:∀p∈es,ck p.1=true/\ck p.2=true):dQ (fe (bg es place).2) (hR es place r0 bk rn g)=c' es (dE es bk g) place rn:=by
 refine List.ext_getElem ?_ λi aj ao=>?_
 .unfold dQ c' hR sorted
  cases rn <;> simp [tZ]
 .have aJ:i < (dE es bk g).length:=by simpa [c'] using ao
  have row:∀(k:V),h4 k (fe (bg es place).2 (slotAt es place r0 (dE es bk g)[i])) (iM (slotAt es place r0 (dE es bk g)[i]))=h4 k (bg es (dE es bk g)[i]).2 (decide ((dE es bk g)[i]=place)):=λk=>by
   rw [tl hs,Hu hs]
  cases rn with
  | false=>simp [dQ,c',hR,sorted,n4,row,aJ]
  | true=>simp [dQ,c',hR,sorted,n4,row,aJ,gG]
noncomputable def eG (es:List (V×V)) (place r0:Nat):List V:=if place < es.length then [.ref r0] else []
theorem Gn (hs:∀p∈es,ck p.1=true/\ck p.2=true) (l:List Nat):(l.map (slotAt es place r0)).filter iM=List.replicate (l.count place) (.ref r0):=by
 induction l with
 | nil=>rfl
 | cons k l bJ=>
  rw [List.map_cons,List.filter_cons,Hu hs,bJ,List.count_cons]
  by_cases h:k=place
  .have hk:slotAt es place r0 k=.ref r0:=by unfold slotAt;rw [if_pos h]
   subst h;simp [hk,List.replicate_succ]
  .have:¬(k == place)=true:=by simpa using h
   simp [h]
theorem FH (n p:Nat):(List.range n).count p=if p < n then 1 else 0:=by
 induction n with
 | zero=>rfl
 | succ n bJ=>
  rw [List.range_succ,List.count_append,bJ,List.count_singleton]
  by_cases h:n=p
  .subst h;simp
  .have ao:¬(n == p)=true:=by simpa using h
   by_cases q:p < n
   .simp [h,q,show p < n+1 by lia]
   .simp [h,q,show ¬p < n+1 by lia]
theorem Wx (hs:∀p∈es,ck p.1=true/\ck p.2=true):((cA es place r0).map (·.2)).filter iM=eG es place r0:=by
 have:(cA es place r0).map (·.2)=(List.range es.length).map (slotAt es place r0):=by rw [C',List.map_map];rfl
 rw [this,Gn hs,FH];unfold eG;split <;> rfl
theorem Ww (hs:∀p∈es,ck p.1=true/\ck p.2=true):((hR es place r0 bk rn g).map (·.2)).filter iM=eG es place r0:=by
 have h0:(sorted es place r0 bk g).map (·.2)=(dE es bk g).map (slotAt es place r0):=by unfold sorted;rw [List.map_map];rfl
 have aj:(hR es place r0 bk rn g).map (·.2)=(dE es bk g).map (slotAt es place r0):=by
  unfold hR
  cases rn
  .exact h0
  .rw [if_pos rfl,AE];exact h0
 have xQ:(dE es bk g).count place=(List.range es.length).count place:=(uD _ _).count_eq _;rw [aj,Gn hs,xQ,FH];unfold eG;split <;> rfl
end
end
section
open PySem
variable {D al:am} {o:ee} {R:d6}
structure fu where
 es:List (V×V)
 place:Nat
 r0:Nat
 bk:Bool
 rn:Bool
 g:V->Int
 L:List V
 h:Nat
 hh:Nat
 gY:Nat
 nn:Nat
 fs:List V
 ea:List V
 xU:V
 B:Nat
 T:Nat
structure j8 (c:fu):Prop where
 cS:c.es.length<=7
 hs:∀p∈c.es,ck p.1=true/\ck p.2=true
 aA:c.rn=true->c.bk=false
 q:iB c.es c.place c.r0 c.bk c.rn c.g c.L (cA c.es c.place c.r0)
 r0:c.place < c.es.length->c.r0 < c.B
 h:c.B<=c.h/\c.h < c.T
 hh:c.B<=c.hh/\c.hh < c.T
 gY:c.B<=c.gY/\c.gY < c.T
 nn:c.B<=c.nn/\c.nn < c.T
 a3:c.h≠c.nn
 f0:c.ea[0]? =some (.ref c.gY)
 gH:c.ea[5]? =some (.ref c.nn)
 gZ:c.ea[6]? =some (.int 0)
noncomputable def fu.ps (c:fu):List (V×V):=cA c.es c.place c.r0
noncomputable def fu.c6 (c:fu):List (V×V):=hR c.es c.place c.r0 c.bk c.rn c.g
noncomputable def fu.ca (c:fu):V->V:=fe (bg c.es c.place).2
noncomputable def fu.rk (c:fu):V->Int:=iW c.es c.place c.bk c.g
noncomputable def fu.iB (c:fu) (b1:List (V×V)):Prop:=My.iB c.es c.place c.r0 c.bk c.rn c.g c.L b1
structure gE (c:fu) (N:List V) (b1:List (V×V)) (o:ee) (R:d6) (D:am):Prop where
 ju:D[c.h]? =some (.inst 181 (.ref o.a::c.fs))
 arr:a8 D o R
 good:Good D R b1
 vs:∀j,V.ref j∈R.vs->j=c.r0/\c.place < c.es.length
 ref:c.place < c.es.length->∃k,2<=k/\D[c.r0]? =some (.inst 181 [(bg c.es c.place).2,.int k,c.xU])
 aG:mr D c.hh c.gY c.ea
 hF:D[c.nn]? =some (.list N)
 own:∀j,cR o j->j < c.B\/c.T<=j
 ln:c.T<=D.length
end
section
open PySem
variable {D al:am} {o:ee} {R:d6}
variable {c:fu} {N:List V} {b1:List (V×V)}
theorem gE.s2 (C:j8 c) (Q:c.iB b1) (S:gE c N b1 o R D):∀v∈R.vs,hr D v:=λv aI=>by
 by_cases a3:v=.hole
 .exact .inr (.inl a3)
 .refine a2 (oE S.good aI a3) λp aw aV=>?_;subst aV;refine a2 (Q.slot p aw) λi aJ e=>?_
  by_cases q:i=c.place
  .refine a2 (S.ref (by lia)) λk hk aC=>?_;refine .inr (.inr ⟨c.r0,_,k,_,?_,aC,hk⟩);rw [e];unfold slotAt;rw [if_pos q]
  .left
   rw [e];unfold slotAt;rw [if_neg q];exact (pj C.hs i).2
theorem gE.pd (C:j8 c) (S:gE c N b1 o R D) {j:Nat} (aX:c.B<=j):V.ref j∉R.vs:=λq=>by
 refine cq (S.vs j q) λe aw=>?_;have:=C.r0 aw;lia
theorem gE.ifs (C:j8 c) (Q:c.iB b1) (S:gE c N b1 o R D) {W:Nat->Prop} (r6:∀j,W j->c.B<=j) {ai:am} (F:dG W R.vs D ai):i4 c.B c.ca b1 ai:=λp aw=>by
 refine a2 (Q.slot p aw) λi aJ e=>?_;have aI:c.ca p.2=(bg c.es i).2:=by rw [e];exact tl C.hs i
 rw [aI];have sc:=(pj C.hs i).2
 by_cases q:i=c.place
 .subst q;refine a2 (S.ref aJ) λk hk aC=>?_;have lh:p.2=.ref c.r0:=by rw [e];unfold slotAt;rw [if_pos rfl]
  have aP:V.ref c.r0∈R.vs:=by rw [<- lh];exact (r2 S.good aw).1
  have aZ:=C.r0 aJ;refine a2 (F.up c.r0 _ k _ (λw=>by have:=r6 _ w;lia) aP aC hk) λw0 _ bN=>?_;exact .inr ⟨c.r0,_,lh,bN,sc,aZ⟩
 .have lh:p.2=(bg c.es i).2:=by rw [e];unfold slotAt;rw [if_neg q]
  exact .inl ⟨by rw [lh];exact sc,lh.symm⟩
theorem Kc {W:Nat->Prop} (r6:∀j,W j->j=c.nn) (C:j8 c) (Q:c.iB b1) (S:gE c N b1 o R D) {I1:Nat->am->Prop} {a4:ee} {bV:d6} (K:EF o c.h c.fs W D al R b1 c.rk c.rn I1 a4 bV) {vT:List V} (d3:al[c.nn]? =some (.list vT)):
  gE c vT c.c6 a4 bV al:=by
 have qh:∀j,(W j\/j=c.h)->c.B<=j:=λj w=>by
  rcases w with w | w
  .rw [r6 j w];exact C.nn.1
  .rw [w];exact C.h.1
 have keep:∀{j:Nat} {dz:az},c.B<=j->j≠c.nn->j≠c.h->D[j]? =some dz->al[j]? =some dz:=λaA e5 eY e=>(K.rw.same _ (fQ e) (λw=>by
  rcases w with w | w
  .exact e5 (r6 _ w)
  .exact eY w) (S.pd C aA)).trans e
 have eE:c.hh≠c.nn:=λq=>by have:=S.aG.i;rw [q,S.hF] at this;cases this
 have ky:c.gY≠c.nn:=λq=>by have:=S.aG.d;rw [q,S.hF] at this;cases this
 have qs:c.hh≠c.h:=λq=>by have:=S.aG.i;rw [q,S.ju] at this;cases this
 have BJ:c.gY≠c.h:=λq=>by have:=S.aG.d;rw [q,S.ju] at this;cases this
 refine ⟨K.ref,K.arr,?_,λj aX=>S.vs j (K.vs j aX),λaw=>?_,⟨keep C.hh.1 eE qs S.aG.i,S.aG.f0,S.aG.gZ,keep C.gY.1 ky BJ S.aG.d⟩,d3,λj w=>?_,Nat.le_trans S.ln K.rw.len⟩
 .have:=K.good;have bL:(if c.rn then gG ((co (λp=>c.rk (aH p)) b1).map (·.2)) else co (λp=>c.rk (aH p)) b1)=c.c6:=Q.sort;rw [bL] at this;exact this
 .refine a2 (S.ref aw) λk hk e=>?_;have aZ:=C.r0 aw;have nw:¬(W c.r0\/c.r0=c.h):=λw=>by have:=qh _ w;lia
  by_cases aP:V.ref c.r0∈R.vs
  .exact K.rw.up c.r0 _ k _ nw aP e hk
  .exact ⟨k,hk,(K.rw.same _ (fQ e) nw aP).trans e⟩
 .rcases K.own j w with q | ⟨_,q⟩
  .right;have:=S.ln;lia
  .exact S.own j q
theorem HE (Q:c.iB b1):∀p∈b1,ck p.1=true:=λp aw=>(Q.kb p aw).1.sc
structure zi (c:fu) (N vT:List V) (b1:List (V×V)) (o:ee) (R:d6) (D al:am) (a4:ee) (bV:d6):Prop where
 dg:gE c vT c.c6 a4 bV al
 next:bV.next=if c.rn/\b1≠[] then pb b1.length else R.next
 sh:bV.sh=false
 own:∀j,cR a4 j->D.length<=j\/(R.sh=false/\cR o j)
 rw:dG (λj=>j=c.nn\/j=c.h) R.vs D al
theorem ZG {pf:Int} {dn:Bool} (C:j8 c) (Q:c.iB b1) (S:gE c N b1 o R D) (aw:oi pf) (fp:pO pf c.L) (cr:c.g=λv=>if dn then -cO pf v else cO pf v):
  ∃al a4 bV,gf [.ref c.hh,.ref c.h,hU pf c.bk dn,.bool c.rn] D=some (.bool true,al)/\zi c N N b1 o R D al a4 bV:=by
 have BA:c.rk=s8 c.ca c.bk λv=>if dn then -cO pf v else cO pf v:=by unfold fu.rk iW fu.ca;rw [cr]
 have qh:∀j,ha c.h j->c.B<=j:=λj w=>by rw [show j=c.h from w];exact C.h.1
 refine kW (IX (W:=dx) (host:=.ref c.hh) (rule:=hU pf c.bk dn) (rk:=c.rk) (rn:=c.rn) (I:=λ_=>i4 c.B c.ca b1) (I1:=λ_=>i4 c.B c.ca b1) S.ju S.arr S.good (S.s2 C Q) (S.pd C C.h.1) Q.kb Q.cX (λ_ w=>w.elim) (λ_ w=>w.elim) (λw=>w.elim) (λ_ _ w=>w.elim) (λai F=>by
  have aW:c.B<=ai.length:=by have:=F.len;have:=S.ln;have:=C.h;lia
  refine ⟨?_,(S.ifs C Q qh F).fr (M:=ai.length) aW (Fr.app _ _)⟩;rw [BA];exact Vd (λj w=>by rcases w with w | w;exact w.elim;lia) (by lia) aw fp Q.jV (HE Q)) ⟨rfl,rfl⟩) λal a4 bV e K=>?_
 have d3:al[c.nn]? =some (.list N):=(K.rw.same _ (fQ S.hF) (λw=>by
  rcases w with w | w
  .exact w.elim
  .exact C.a3 w.symm) (S.pd C C.nn.1)).trans S.hF
 refine ⟨al,a4,bV,e,Kc (λj w=>w.elim) C Q S K d3,K.next,K.sh,K.own,⟨K.rw.len,λj aX a3 aP=>K.rw.same j aX (λw=>a3 ?_) aP,λj x h t a3 aP e q=>K.rw.up j x h t (λw=>a3 ?_) aP e q⟩⟩
 .rcases w with w | w
  .exact w.elim
  .exact .inr w
 .rcases w with w | w
  .exact w.elim
  .exact .inr w
theorem ZH {w s:Nat} {nm:List Nat} (C:j8 c) (Q:c.iB b1) (S:gE c N b1 o R D) (hw:w∈List.range 4) (hs:s∈List.range 4) (wP:nm.length<=10) (qN:N.length+1 < big) (fp:c.L=b4) (cr:c.g=λv=>ct w v):
  ∃al a4 bV,gf [.ref c.hh,.ref c.h,fc w s c.bk nm,.bool c.rn] D=some (.bool true,al)/\zi c N (if 2<=b1.length/\s=1 then N++[iQ nm] else N) b1 o R D al a4 bV:=by
 have BA:c.rk=s8 c.ca c.bk λv=>ct w v:=by unfold fu.rk iW fu.ca;rw [cr]
 have qh:∀j,ha c.h j->c.B<=j:=λj w=>by rw [show j=c.h from w];exact C.h.1
 refine kW (IX (W:=λj=>j=c.nn) (host:=.ref c.hh) (rule:=fc w s c.bk nm) (rk:=c.rk) (rn:=c.rn) (I:=λt=>Eo c.B c.ca b1 c.hh c.gY c.nn t c.ea N nm s) (I1:=λt=>y2 c.B c.ca b1 c.hh c.gY c.nn t c.ea N nm s) S.ju S.arr S.good (S.s2 C Q) (S.pd C C.h.1) Q.kb Q.cX (λj w=>by rw [w];have:=C.nn;have:=S.ln;lia) (λj w z=>by
   rw [w] at z;have:=S.own _ z;have:=C.nn;lia) (λw=>C.a3 w) (λj aX w=>by rw [w] at aX;exact S.pd C C.nn.1 aX) (λai F=>by
  have ig:c.T<=ai.length:=Nat.le_trans S.ln F.len;have oF:=C.h;have aj:=C.hh;have ao:=C.gY;have aL:=C.nn;have keep:∀{j:Nat} {dz:az},c.B<=j->j≠c.h->D[j]? =some dz->ai[j]? =some dz:=λaA eY e=>(F.same _ (fQ e) eY (S.pd C aA)).trans e;have qs:c.hh≠c.h:=λq=>by have:=S.aG.i;rw [q,S.ju] at this;cases this
  have BJ:c.gY≠c.h:=λq=>by have:=S.aG.d;rw [q,S.ju] at this;cases this
  refine ⟨?_,false,⟨(S.ifs C Q qh F).fr (M:=ai.length) (by lia) (Fr.app _ _),⟨jq _ (keep aj.1 qs S.aG.i),S.aG.f0,S.aG.gZ,jq _ (keep ao.1 BJ S.aG.d)⟩,?_,eL _ _⟩,λq=>by cases q⟩
  .rw [BA];exact Vf (by lia) (by lia) (by lia) (by lia) (by lia) (by lia) C.gH qN wP hw hs (λp aw=>by have:=Q.jV p aw;rw [fp] at this;exact this) (HE Q)
  .simp only [Bool.false_eq_true,if_false,List.append_nil];exact jq _ (keep aL.1 C.a3.symm S.hF)) ⟨rfl,rfl⟩) λal a4 bV e K=>?_
 have d3:al[c.nn]? =some (.list (if 2<=b1.length/\s=1 then N++[iQ nm] else N)):=by
  by_cases ao:2<=b1.length
  .refine fZ (K.many ao) λt a6 U hZ gm=>?_;have:=gm.at U.hF (λw=>C.a3 (show c.nn=c.h from w).symm);rw [this]
   by_cases aj:s=1
   .have O:(if 2<=b1.length/\s=1 then N++[iQ nm] else N)=N++[iQ nm]:=if_pos ⟨ao,aj⟩;rw [O,decide_eq_true aj,if_pos rfl]
   .have O:(if 2<=b1.length/\s=1 then N++[iQ nm] else N)=N:=if_neg λq=>aj q.2;rw [O,decide_eq_false aj];simp
  .rw [if_neg (λq=>ao q.1)];exact ((K.cS (by lia)).same _ (fQ S.hF) (λw=>C.a3 (show c.nn=c.h from w).symm) (S.pd C C.nn.1)).trans S.hF
 exact ⟨al,a4,bV,e,Kc (λj w=>w) C Q S K d3,K.next,K.sh,K.own,K.rw⟩
end
section
open PySem
variable {D al:am}
noncomputable def cE (ar:Nat):Bool:=decide (ar=4\/ar=5\/ar=8)
noncomputable def km (ar:Nat):Bool:=decide (ar=1\/ar=3\/ar=5)
noncomputable def dY (ar:Nat):Bool:=decide (ar=0\/ar=1\/ar=6)
noncomputable def mS (ar:Nat):List Nat:=if ar=6 then [117,115,111,114,116] else if ar=7 then [117,97,115,111,114,116] else [117,107,115,111,114,116]
noncomputable def s9 (ar f w s:Nat):V:=if ar=6\/ar=7\/ar=8 then fc w s (cE ar) (mS ar) else if ar=9 then hU 6 false false else if ar=10 then hU 14 false false else hU (jh f) (cE ar) (km ar)
noncomputable def em (ar f w s:Nat):V:=if ar=6\/ar=7\/ar=8 then fl w s else .int (fA f)
theorem Vu {f:Nat} (hf:f∈List.range 8) {h hh:Nat} {bk dn rn:Bool} {r:Option (V×am)} (e:gf [.ref hh,.ref h,hU (jh f) bk dn,.bool rn] D=r):
  kF [.ref hh,.ap [.ref h,.int (fA f)],.bool bk,.bool dn,.bool rn] D=outF (r.bind λp=>some (.ret p.1,[.ref hh,.ap [.ref h,.int (fA f)],.bool bk,.bool dn,.bool rn,hU (jh f) bk dn,.u,.u],p.2)):=by
 have pf:=(Prod.mk.inj (IH D f hf)).2;have a9:item D (.ap [.ref h,.int (fA f)]) (.int 0)=some (.ref h):=iN (k:=0) rfl;have eE:item D (.ap [.ref h,.int (fA f)]) (.int 1)=some (.int (fA f)):=iN (k:=1) rfl;have fh:∀a b c d:V,([a,b,c,d]:List V).length<=big:=λa b c d=>by unfold big;simp
 have cP:a1 5 (bM (H (ab (.str [102,108,97,103,115])) (H (ak sD (H (aT (G 1) (ab (.int 1))) aa)) (H (G 2) (H (G 3) aa))))) [.ref hh,.ap [.ref h,.int (fA f)],.bool bk,.bool dn,.bool rn,.u,.u,.u] D=some (.nx,[.ref hh,.ap [.ref h,.int (fA f)],.bool bk,.bool dn,.bool rn,hU (jh f) bk dn,.u,.u],D):=by
  simp! only [eE,pf,fh,hU]
 have dF:ak gf (H (G 0) (H (aT (G 1) (ab (.int 0))) (H (G 5) (H (G 4) aa)))) [.ref hh,.ap [.ref h,.int (fA f)],.bool bk,.bool dn,.bool rn,hU (jh f) bk dn,.u,.u] D=r:=by
  refine (eS (l:=[.ref hh,.ref h,hU (jh f) bk dn,.bool rn]) (ai:=D) ?_).trans e
  simp! only [a9,hU]
 rw [PV];unfold z9;rw [aF cP];simp only [af,aR,dF]
 cases r <;> rfl
theorem MN {f:Nat} (hf:f∈List.range 8) {h hh:Nat} {bk dn rn:Bool} (e:gf [.ref hh,.ref h,hU (jh f) bk dn,.bool rn] D=some (.bool true,al)):
  kF [.ref hh,.ap [.ref h,.int (fA f)],.bool bk,.bool dn,.bool rn] D=some (.bool true,al):=(Vu hf e).trans rfl
theorem EO (h:Nat) (x:V) (D:am):item D (.ap [.ref h,x]) (.int 0)=some (.ref h):=iN (k:=0) rfl
theorem LY (h:Nat) (x:V) (D:am):item D (.ap [.ref h,x]) (.int 1)=some x:=iN (k:=1) rfl
theorem B1 (a b c d:V):([a,b,c,d]:List V).length<=big:=by unfold big;simp
theorem zl {A:bf} {b:aU} {nm:List Nat} {bk rn:Bool} {w s h hh:Nat} (iK:∀J O D,A [J,O] D=outF (b [J,O,.u] D))
  (aA:b=(af (aR (ak gf (H (G 0) (H (aT (G 1) (ab (.int 0))) (H (bM (H (ab (.str [117,115,101,114])) (H (aT (G 1) (ab (.int 1))) (H (ab (.bool bk)) (H (ab (.str nm)) aa))))) (H (ab (.bool rn)) aa)))))) aq))
  (e:gf [.ref hh,.ref h,fc w s bk nm,.bool rn] D=some (.bool true,al)):A [.ref hh,.ap [.ref h,fl w s]] D=some (.bool true,al):=by
 have a9:=EO h (fl w s) D;have eE:=LY h (fl w s) D;have E:ak gf (H (G 0) (H (aT (G 1) (ab (.int 0))) (H (bM (H (ab (.str [117,115,101,114])) (H (aT (G 1) (ab (.int 1))) (H (ab (.bool bk)) (H (ab (.str nm)) aa))))) (H (ab (.bool rn)) aa)))) [.ref hh,.ap [.ref h,fl w s],.u] D=some (.bool true,al):=by
  refine (eS (l:=[.ref hh,.ref h,fc w s bk nm,.bool rn]) (ai:=D) ?_).trans e
  simp! only [a9,eE,B1,fc]
 rw [iK,aA,b6 (c4 E)]
 rfl
theorem EL {A:bf} {b:aU} {pf:Int} {h hh:Nat} {x:V} (iK:∀J O D,A [J,O] D=outF (b [J,O,.u] D))
  (aA:b=(af (aR (ak gf (H (G 0) (H (aT (G 1) (ab (.int 0))) (H (bM (H (ab (.str [102,108,97,103,115])) (H (ab (.int pf)) (H (ab (.bool false)) (H (ab (.bool false)) aa))))) (H (ab (.bool false)) aa)))))) aq))
  (e:gf [.ref hh,.ref h,hU pf false false,.bool false] D=some (.bool true,al)):A [.ref hh,.ap [.ref h,x]] D=some (.bool true,al):=by
 have a9:=EO h x D;have E:ak gf (H (G 0) (H (aT (G 1) (ab (.int 0))) (H (bM (H (ab (.str [102,108,97,103,115])) (H (ab (.int pf)) (H (ab (.bool false)) (H (ab (.bool false)) aa))))) (H (ab (.bool false)) aa)))) [.ref hh,.ap [.ref h,x],.u] D=some (.bool true,al):=by
  refine (eS (l:=[.ref hh,.ref h,hU pf false false,.bool false]) (ai:=D) ?_).trans e
  simp! only [a9,B1,hU]
 rw [iK,aA,b6 (c4 E)]
 rfl
theorem rA {A:bf} {b:aU} {f:Nat} (hf:f∈List.range 8) {h hh:Nat} {bk dn rn:Bool} (iK:∀J O D,A [J,O] D=outF (b [J,O,.u] D))
  (aA:b=(af (aR (ak kF (H (G 0) (H (G 1) (H (ab (.bool bk)) (H (ab (.bool dn)) (H (ab (.bool rn)) aa))))))) aq))
  (e:gf [.ref hh,.ref h,hU (jh f) bk dn,.bool rn] D=some (.bool true,al)):A [.ref hh,.ap [.ref h,.int (fA f)]] D=some (.bool true,al):=by
 have E:ak kF (H (G 0) (H (G 1) (H (ab (.bool bk)) (H (ab (.bool dn)) (H (ab (.bool rn)) aa))))) [.ref hh,.ap [.ref h,.int (fA f)],.u] D=some (.bool true,al):=by
  refine (eS (l:=[.ref hh,.ap [.ref h,.int (fA f)],.bool bk,.bool dn,.bool rn]) (ai:=D) ?_).trans (MN hf e)
  simp! only []
 rw [iK,aA,b6 (c4 E)]
 rfl
theorem lM {F:bf} {ar hh h:Nat} {x:V} (Y':ez x=true) (e:F [.ref hh,.ap [.ref h,x]] D=some (.bool true,al)):ak F (H (G 1) (H (G 2) aa)) [.int (ar:Int),.ref hh,.ap [.ref h,x],.u,.u,.u,.u,.u,.u,.u,.u,.u,.u,.u] D=some (.bool true,al):=by
 refine (eS (l:=[.ref hh,.ap [.ref h,x]]) (ai:=D) ?_).trans e
 simp! only []
theorem ut {t:dp} {f g:bK} {ag:List V} {r:V×am} (h:t ag D=some (true,D)) (e:f ag D=some r):cn t f g ag D=some r:=by simp only [cn,h,Option.bind_some,if_true,e]
theorem us {t:dp} {f g:bK} {ag:List V} {r:V×am} (h:t ag D=some (false,D)) (e:g ag D=some r):cn t f g ag D=some r:=by simp only [cn,h,Option.bind_some,Bool.false_eq_true,if_false,e]
theorem VA {ar f w s:Nat} (gL:ar < 11) (hf:f∈List.range 8) {h hh:Nat} (e:gf [.ref hh,.ref h,s9 ar f w s,.bool (dY ar)] D=some (.bool true,al)):
  so [.int (ar:Int),.ref hh,.ap [.ref h,em ar f w s]] D=some (.bool true,al):=by
 rw [Pe];unfold zE;rcases (show ar=0\/ar=1\/ar=2\/ar=3\/ar=4\/ar=5\/ar=6\/ar=7\/ar=8\/ar=9\/ar=10 by lia) with rfl | rfl | rfl | rfl | rfl | rfl | rfl | rfl | rfl | rfl | rfl
 .rw [show em 0 f w s=.int (fA f) from rfl];have q:=lM (ar:=0) rfl (rA hf PU rfl e);rw [b6 ((dw (ai:=D) (by rfl')).trans (b6 ((dw (ai:=D) (by rfl')).trans (b6 (c4 (ut (by rfl') q))))))];rfl
 .rw [show em 1 f w s=.int (fA f) from rfl];have q:=lM (ar:=1) rfl (rA hf PR rfl e);rw [b6 ((dw (ai:=D) (by rfl')).trans (b6 ((dw (ai:=D) (by rfl')).trans (b6 (c4 (us (by rfl') q))))))];rfl
 .rw [show em 2 f w s=.int (fA f) from rfl];have q:=lM (ar:=2) rfl (rA hf Pq rfl e);rw [b6 ((dw (ai:=D) (by rfl')).trans ((aF ((ch (ai:=D) (by rfl')).trans rfl)).trans (b6 (c4 (ut (by rfl') q)))))];rfl
 .rw [show em 3 f w s=.int (fA f) from rfl];have q:=lM (ar:=3) rfl (rA hf Pp rfl e);rw [b6 ((dw (ai:=D) (by rfl')).trans ((aF ((ch (ai:=D) (by rfl')).trans rfl)).trans (b6 (c4 (us (by rfl') q)))))];rfl
 .rw [show em 4 f w s=.int (fA f) from rfl];have q:=lM (ar:=4) rfl (rA hf PA rfl e);rw [aF ((ch (ai:=D) (by rfl')).trans rfl),b6 ((dw (ai:=D) (by rfl')).trans (b6 (c4 (ut (by rfl') q))))];rfl
 .rw [show em 5 f w s=.int (fA f) from rfl];have q:=lM (ar:=5) rfl (rA hf Pz rfl e);rw [aF ((ch (ai:=D) (by rfl')).trans rfl),b6 ((dw (ai:=D) (by rfl')).trans (b6 (c4 (us (by rfl') q))))];rfl
 .rw [show em 6 f w s=fl w s from rfl];have q:=lM (ar:=6) rfl (zl P1 rfl e);rw [aF ((ch (ai:=D) (by rfl')).trans rfl),aF ((ch (ai:=D) (by rfl')).trans rfl),b6 ((dw (ai:=D) (by rfl')).trans (b6 (c4 (ut (by rfl') q))))];rfl
 .rw [show em 7 f w s=fl w s from rfl];have q:=lM (ar:=7) rfl (zl PY rfl e);rw [aF ((ch (ai:=D) (by rfl')).trans rfl),aF ((ch (ai:=D) (by rfl')).trans rfl),b6 ((dw (ai:=D) (by rfl')).trans (b6 (c4 (us (by rfl') q))))];rfl
 .rw [show em 8 f w s=fl w s from rfl];have q:=lM (ar:=8) rfl (zl PZ rfl e);rw [aF ((ch (ai:=D) (by rfl')).trans rfl),aF ((ch (ai:=D) (by rfl')).trans rfl),aF ((ch (ai:=D) (by rfl')).trans rfl),b6 ((dw (ai:=D) (by rfl')).trans (b6 (c4 q)))];rfl
 .rw [show em 9 f w s=.int (fA f) from rfl];have q:=lM (ar:=9) rfl (EL (x:=.int (fA f)) PJ rfl e);rw [aF ((ch (ai:=D) (by rfl')).trans rfl),aF ((ch (ai:=D) (by rfl')).trans rfl),aF ((ch (ai:=D) (by rfl')).trans rfl),aF ((ch (ai:=D) (by rfl')).trans rfl),b6 (c4 (ut (by rfl') q))];rfl
 .rw [show em 10 f w s=.int (fA f) from rfl];have q:=lM (ar:=10) rfl (EL (x:=.int (fA f)) PI rfl e);rw [aF ((ch (ai:=D) (by rfl')).trans rfl),aF ((ch (ai:=D) (by rfl')).trans rfl),aF ((ch (ai:=D) (by rfl')).trans rfl),aF ((ch (ai:=D) (by rfl')).trans rfl),b6 (c4 (us (by rfl') q))];rfl
end
section
open PySem
variable {D al:am} {o:ee} {R:d6}
noncomputable def gn:V->Bool | .str l=>asc l | v=>ck v
structure pP (k:Nat) (d:PyData):Prop where
 e:PyData.eqv d d=true
 d:d.depth<=k
structure pQ (k:Nat) (d:List PyData):Prop where
 e:PyData.eqvAll d d=true
 d:PyData.depthAll d<=k
theorem xM (k:Nat):pQ k []:=⟨rfl,Nat.zero_le _⟩
theorem n0 {k:Nat} {d:PyData} {c5:List PyData} (a:pP k d) (b:pQ k c5):pQ k (d::c5):=
 ⟨by rw [PyData.eqvAll,a.e,b.e];rfl,by simp only [PyData.depthAll];have:=a.d;have:=b.d;lia⟩
theorem Ix {k:Nat} {c5:List PyData} (b:pQ k c5):pP (k+1) (.tuple c5):=⟨by rw [PyData.eqv];exact b.e,by simp only [PyData.depth];have:=b.d;lia⟩
theorem CP {k:Nat} {c5:List PyData} (b:pQ k c5):pP (k+1) (.list c5):=⟨by rw [PyData.eqv];exact b.e,by simp only [PyData.depth];have:=b.d;lia⟩
theorem u4 {l:List Nat} (h:asc l=true) (D:am):∃d,hT D (.str l)=some d/\pP 0 d:=⟨_,tP h D,by simp [PyData.eqv],by simp [PyData.depth]⟩
theorem CQ {v:V} (h:gn v=true) (D:am):∃d,hT D v=some d/\pP 0 d:=by
 cases v with
 | str l=>exact u4 h D
 | none=>exact ⟨_,rfl,by simp [PyData.eqv],by simp [PyData.depth]⟩
 | bool b=>exact ⟨_,rfl,by simp [PyData.eqv],by simp [PyData.depth]⟩
 | int i=>exact ⟨_,rfl,by simp [PyData.eqv],by simp [PyData.depth]⟩
 | _=>cases h
theorem HH (v:V):asc (kindOf v)=true:=by cases v <;> rfl
theorem FW (D:am):kl D []=some []:=rfl
theorem np {v:V} {l:List V} {d:PyData} {c5:List PyData} (aj:hT D v=some d) (ao:kl D l=some c5):kl D (v::l)=some (d::c5):=by
 show (hT D v).bind _=_;rw [aj,ao];rfl
theorem FV {l:List V} {c5:List PyData} (h:kl D l=some c5):hT D (.tup l)=some (.tuple c5):=congrArg (Option.map _) h
theorem U8 {k v:V} {b:Bool} (hk:gn k=true) (aI:gn v=true) (D:am):∃d,hT D (h4 k v b)=some d/\pP 1 d:=by
 refine a2 (u4 (HH k) D) λeK av c1=>?_;refine a2 (CQ hk D) λfO aC a4=>?_;refine a2 (u4 (HH v) D) λAm bN kI=>?_;refine a2 (CQ aI D) λAn du iT=>?_;refine a2 (CQ (v:=.bool b) rfl D) λtV fo UA=>?_;exact ⟨_,FV (np av (np aC (np bN (np du (np fo (FW D)))))),Ix (n0 c1 (n0 a4 (n0 kI (n0 iT (n0 UA (xM 0))))))⟩
theorem U' {l:List V} (h:∀x∈l,∃k v b,x=h4 k v b/\gn k=true/\gn v=true) (D:am):∃c5,kl D l=some c5/\pQ 1 c5:=by
 induction l with
 | nil=>exact ⟨[],rfl,xM 1⟩
 | cons x l bJ=>
  refine oe (h x (List.mem_cons_self ..)) λk v b dh hk aI=>?_;subst dh;refine a2 (U8 (b:=b) hk aI D) λd av c1=>?_;refine a2 (bJ λy dr=>h y (List.mem_cons_of_mem _ dr)) λc5 aC a4=>?_;exact ⟨d::c5,np av aC,n0 c1 a4⟩
theorem eq_self {v:V} {d:PyData} {k:Nat} (e:ox D v=some d) (h:pP k d) (hk:k<=100):kJ D v v=some true:=by
 have:d.depth<=100:=Nat.le_trans h.d hk;simp only [kJ,e,Option.bind_some,this,if_true,h.e]
theorem H8 {l:List V} (h:∀x∈l,∃k v b,x=h4 k v b/\gn k=true/\gn v=true) (D:am):ec D (.ap l) (.ap l)=some (.bool false):=by
 refine a2 (U' h D) λc5 e o=>?_;have aC:ox D (.ap l)=some (.list c5):=congrArg (Option.map _) e;simp only [ec,eq_self aC (CP o) (by lia),Option.map_some,Bool.not_true]
theorem OQ {es:List (V×V)} {S:List Nat} {place:Nat} {cU:Bool} (hs:∀k,gn (bg es k).1=true/\gn (bg es k).2=true):∀x∈c' es S place cU,∃k v b,x=h4 k v b/\gn k=true/\gn v=true:=λx ax=>by
 unfold c' at ax;refine a2 (List.mem_map.mp ax) λi _ aV=>?_;subst aV;refine ⟨_,_,_,rfl,?_,(hs _).2⟩
 cases cU
 .exact (hs _).1
 .rfl
theorem U9 {l:List V} (h:∀x∈l,∃nm,x=iQ nm/\asc nm=true) (D:am):∃c5,kl D l=some c5/\pQ 1 c5:=by
 induction l with
 | nil=>exact ⟨[],rfl,xM 1⟩
 | cons x l bJ=>
  refine a2 (h x (List.mem_cons_self ..)) λnm bl hk=>?_;subst bl;have bw:asc (nm++jF++me)=true:=by
   have aj:asc jF=true:=by rfl'
   have ao:asc me=true:=by rfl'
   unfold asc at *;rw [List.all_append,List.all_append,hk,aj,ao];rfl
  refine a2 (u4 (l:=wr) (by rfl') D) λeK av c1=>?_;refine a2 (u4 bw D) λfO aC a4=>?_;refine a2 (bJ λy dr=>h y (List.mem_cons_of_mem _ dr)) λc5 bN kI=>?_;exact ⟨.tuple [eK,fO]::c5,np (FV (np av (np aC (FW D)))) bN,n0 (Ix (n0 c1 (n0 a4 (xM 0)))) kI⟩
theorem Qc {i j:Nat} {l:List V} (aJ:D[i]? =some (.list l)) (aX:D[j]? =some (.list l)) (h:∀x∈l,∃nm,x=iQ nm/\asc nm=true):oEq D (.ref i) (.ref j)=some (.bool true):=by
 refine a2 (U9 h D) λc5 e o=>?_;have av:∀{i:Nat},D[i]? =some (.list l)->ox D (.ref i)=some (.list c5):=λaJ=>by unfold ox;rw [sZ aJ,e];rfl
 have d:(PyData.list c5).depth<=100:=Nat.le_trans (CP o).d (by lia);simp only [oEq,kJ,av aJ,av aX,Option.bind_some,d,if_true,(CP o).e,Option.map_some]
noncomputable def eo (x0 x1:V) (ar:Nat) (x3 x4 x5:V) (s:Nat) (x7 x8 x9:V) (rn:Bool) (x11:V) (es:List (V×V)) (x13:V) (due:List V) (x15 x16:V) (refs:List V) (h hh:Nat) (X:V) (mm:Nat) (x22 x23:V):List V:=
 [x0,x1,.int (ar:Int),x3,x4,x5,.int (s:Int),x7,x8,x9,.bool rn,x11,.ap (es.map aH),x13,.ap due,x15,x16,.ap refs,.ref h,.ref hh,.ap [.ref h,X],.ref mm,x22,x23,.u,.u,.u,.u,.u,.u,.u,.u,.u,.u,.u,.u,.u,.u,.u,.u,.u,.u,.u,.u]
noncomputable def wt:bK:=ak so (H (G 2) (H (G 19) (H (G 20) aa)))
noncomputable def yq:dp:=bp (aD eZ (ak bG (H (G 12) aa)) (ab (.int 1))) (bp (aD fq (G 2) (bM (H (ab (.int 6)) (H (ab (.int 7)) (H (ab (.int 8)) aa))))) (bp (aD oEq (G 6) (ab (.int 1))) bW))
noncomputable def Az:bK:=bS c2 c0 (G 21) (H (bM (H (ab (.str [68,101,112,114,101,99,97,116,101,100])) (H (aM cV (aM cV (aM cV (aT (ab yA) (G 2)) (ab (.str [40,41,58,32]))) (ab yB)) (ab yz)) aa))) aa)
noncomputable def Dx:dp:=dI (aD ec (ak lX (H (aN 181 0 (G 18)) aa)) (G 14)) (dI (aD ec (aN 316 7 (aN 181 0 (G 18))) (ak sr (H (G 12) (H (G 10) aa)))) fD)
noncomputable def wu:bK:=ak nP (H (aN 181 0 (G 18)) aa)
noncomputable def vh:dp:=dI (aD ec (ak bG (H (G 23) aa)) (ak bG (H (G 17) aa))) (dI (bp (aD gw (G 17) (ef aa)) (bp (aD mT (aT (G 23) (ab (.int 0))) (aT (G 17) (ab (.int 0)))) bW)) fD)
noncomputable def xV:aU:=af (aR (ab (.bool false))) aq
noncomputable def uK:aU:=(af (a7 (ek (a' wt)) xV aq) (af (a7 yq (af (b9 Az) aq) aq) (af (a7 Dx xV aq) (af (a1 23 wu) (af (a7 vh xV aq) aq)))))
end
section
open PySem
variable {D al:am} {o:ee} {R:d6} {c:fu} {N:List V} {b1:List (V×V)}
theorem gE.fr {mm:Nat} {M:List V} (S:gE c N b1 o R D) (aP:D[mm]? =some (.list M)) (aj:c.B<=mm/\mm < c.T) (ao:mm≠c.nn) (F:Fr (λj=>j=mm) D al):gE c N b1 o R al:=by
 have e5:∀{j:Nat} {C:Nat} {fs:List V},D[j]? =some (.inst C fs)->¬j=mm:=λe q=>by rw [q,aP] at e;cases e
 have eY:∀j,cR o j->¬j=mm:=λj w q=>by have:=S.own j w;lia
 refine ⟨F.at S.ju (e5 S.ju),S.arr.fr F eY,S.good.re λv aI=>?_,S.vs,λaw=>?_,⟨F.at S.aG.i (e5 S.aG.i),S.aG.f0,S.aG.gZ,F.at S.aG.d λq=>by have:=S.aG.d;rw [q,aP] at this;cases this⟩,F.at S.hF λq=>ao q.symm,S.own,Nat.le_trans S.ln F.1⟩
 .rcases S.good.slot v aI with q | q | ⟨r,fs,q,e⟩
  .exact .inl q
  .exact .inr (.inl q)
  .exact .inr (.inr ⟨r,fs,q,F.at e (e5 e)⟩)
 .refine a2 (S.ref aw) λk hk e=>?_;exact ⟨k,hk,F.at e (e5 e)⟩
theorem Hk (D:am):∀ar∈List.range 11,fq D (.int (ar:Int)) (.tup [.int 6,.int 7,.int 8])=some (.bool (decide (ar=6\/ar=7\/ar=8))):=by
 have:((List.range 11).map λ(ar:Nat)=>fq D (.int (ar:Int)) (.tup [.int 6,.int 7,.int 8]))=((List.range 11).map λ(ar:Nat)=>some (.bool (decide (ar=6\/ar=7\/ar=8)))):=by rfl'
 exact List.map_inj_left.mp this
noncomputable def kH (n ar s:Nat) (N:List V):List V:=if 2<=n/\(ar=6\/ar=7\/ar=8)/\s=1 then N++[iQ (mS ar)] else N
noncomputable def na (c:fu):Int:=if c.rn=true/\c.es≠[] then (c.es.length:Int) else iR c.es
section
variable {x0 x1 x3 x4 x5 x7 x8 x9 x11 x13 x15 x16 X x22 x23:V} {ar s mm:Nat} {refs due:List V} {rn:Bool} {es:List (V×V)} {h hh:Nat}
theorem Zg (gL:ar < 11):yq (eo x0 x1 ar x3 x4 x5 s x7 x8 x9 rn x11 es x13 due x15 x16 refs h hh X mm x22 x23) D=some (decide (2<=es.length/\(ar=6\/ar=7\/ar=8)/\s=1),D):=by
 have i:=Hk D ar (List.mem_range.mpr gL);have dL:bG [.ap (es.map aH)] D=some (.int (es.length:Int),D):=by rw [jn,List.length_map]
 have fh:∀a b c:V,([a,b,c]:List V).length<=big:=λa b c=>by unfold big;simp
 unfold yq eo
 by_cases aj:2<=es.length
 .have c6:((es.length:Int) > 1):=by lia
  by_cases ao:(ar=6\/ar=7\/ar=8)
  .rw [decide_eq_true ao] at i
   by_cases aL:s=1
   .subst aL;have hH:oEq D (.int ((1:Nat):Int)) (.int 1)=some (.bool true):=rfl;rw [decide_eq_true ⟨aj,ao,rfl⟩]
    simp! only [dL,c6,decide_true,fh,i,hH]
   .have hH:¬((s:Int)=1):=by lia
    rw [decide_eq_false (λq=>aL q.2.2)]
    simp! only [dL,c6,decide_true,fh,i,h2,hH,decide_false]
  .rw [decide_eq_false ao] at i;rw [decide_eq_false (λq=>ao q.2.1)]
   simp! only [dL,c6,decide_true,fh,i]
 .have c6:¬((es.length:Int) > 1):=by lia
  rw [decide_eq_false (λq=>aj q.1)]
  simp! only [dL,c6,decide_false]
theorem PM (ao:ar=6\/ar=7\/ar=8) (aP:D[mm]? =some (.list N)) (aA:N.length < big):Az (eo x0 x1 ar x3 x4 x5 s x7 x8 x9 rn x11 es x13 due x15 x16 refs h hh X mm x22 x23) D=some (.none,D.set mm (.list (N++[iQ (mS ar)]))):=by
 have dH:=ht (iQ (mS ar)) aP aA;refine (nW (v:=.ref mm) (ai:=D) (l:=[iQ (mS ar)]) (aY:=D) rfl (ip aP) ?_).trans dH;rcases ao with rfl | rfl | rfl <;> rfl'
theorem Zi (C:j8 c) (iK:∀k,gn (bg c.es k).1=true/\gn (bg c.es k).2=true) (QR:∀p∈c.es,iA p.1) (Q:c.iB c.c6) (S:gE c N c.c6 o R D) (qm:R.next=na c) (GQ:due=c' c.es (dE c.es c.bk c.g) c.place c.rn):
  ∃al,Dx (eo x0 x1 ar x3 x4 x5 s x7 x8 x9 c.rn x11 c.es x13 due x15 x16 refs c.h hh X mm x22 x23) D=some (false,al)/\Fr dx D al:=by
 have oF:c.B<=c.h:=C.h.1;have I:=S.ifs C Q (W:=ha c.h) (λj w=>by rw [show j=c.h from w];exact oF) (dG.refl D);refine a2 (C2 S.arr S.good I (by have:=S.ln;have:=C.h;lia)) λai av e1=>?_;have RM:dQ c.ca c.c6=due:=by rw [GQ];exact YF C.hs
 rw [RM] at av;refine a2 (VN (D:=ai) C.cS QR (λp aw=>iu (C.hs p aw).2) c.rn) λaY aC eR=>?_;have f1:fld 181 0 D (.ref c.h)=some (.ref o.a):=gq S.ju rfl rfl;have f2:fld 181 0 ai (.ref c.h)=some (.ref o.a):=gq (e1.at S.ju λw=>w) rfl rfl;have mB:=(S.arr.fr e1 λ_ _ w=>w).mB;rw [qm] at mB;have Rh:na c=(if c.rn=true/\c.es≠[] then (c.es.length:Int) else iR c.es):=rfl;rw [<- Rh] at aC;have uX:=H8 (l:=due) (by rw [GQ];exact OQ iK) ai;have pa:ec aY (.int (na c)) (.int (na c))=some (.bool false):=by rw [CL,decide_eq_true rfl];rfl
 refine ⟨aY,?_,e1.t eR⟩;unfold Dx eo
 simp! only [f1,av,uX,f2,mB,aC,pa]
theorem Zh (aZ:∀(al:am),Fr dx D al->refs≠[]->∃r,refs[0]? =some (.ref r)/\mL al r=true) (f1:fld 181 0 D (.ref h)=some (.ref o.a)) (av:∃ai,nP [.ref o.a] D=some (.ap refs,ai)/\Fr dx D ai):
  ∃al,af (a1 23 wu) (af (a7 vh xV aq) aq) (eo x0 x1 ar x3 x4 x5 s x7 x8 x9 rn x11 es x13 due x15 x16 refs h hh X mm x22 x23) D=some (.nx,eo x0 x1 ar x3 x4 x5 s x7 x8 x9 rn x11 es x13 due x15 x16 refs h hh X mm x22 (.ap refs),al)/\Fr dx D al:=by
 revert av;refine eQ λai av e1=>?_;have cP:a1 23 wu (eo x0 x1 ar x3 x4 x5 s x7 x8 x9 rn x11 es x13 due x15 x16 refs h hh X mm x22 x23) D=some (.nx,eo x0 x1 ar x3 x4 x5 s x7 x8 x9 rn x11 es x13 due x15 x16 refs h hh X mm x22 (.ap refs),ai):=by
  unfold wu eo
  simp! only [f1,av]
 have dL:bG [.ap refs] ai=some (.int (refs.length:Int),ai):=jn _ _;have pa:ec ai (.int (refs.length:Int)) (.int (refs.length:Int))=some (.bool false):=by rw [CL,decide_eq_true rfl];rfl
 have b0:([]:List V).length<=big:=Nat.zero_le _;have ko:gw ai (.ap refs) (.ap [])=some (.bool (!refs.isEmpty)):=rfl;have dR:vh (eo x0 x1 ar x3 x4 x5 s x7 x8 x9 rn x11 es x13 due x15 x16 refs h hh X mm x22 (.ap refs)) ai=some (false,ai):=by
  by_cases h0:refs=[]
  .have cW:refs.isEmpty=true:=by rw [h0];rfl
   rw [cW] at ko;unfold vh eo
   simp! only [dL,pa,b0,ko]
  .have cW:refs.isEmpty=false:=by cases refs with | nil=>exact absurd rfl h0 | cons a b=>rfl
   rw [cW] at ko;refine a2 (aZ ai e1 h0) λr By B9=>?_;have it:item ai (.ap refs) (.int 0)=some (.ref r):=iN (k:=0) By;have Sy:mT ai (.ref r) (.ref r)=some (.bool false):=by unfold mT;rw [It B9 B9,beq_self_eq_true];rfl
   unfold vh eo
   simp! only [dL,pa,b0,ko,it,Sy]
 exact ⟨ai,by rw [aF cP,aF ((ch dR).trans rfl)];rfl,e1⟩
end
structure Run (c:fu) (ar f w s:Nat):Prop where
 ok:j8 c
 gL:ar < 11
 hf:f∈List.range 8
 rn:c.rn=dY ar
 asc:∀k,gn (bg c.es k).1=true/\gn (bg c.es k).2=true
 kb:∀p∈c.es,iA p.1
 c6:c.iB c.c6
 go:∀b1 N o R D,c.iB b1->gE c N b1 o R D->N.length<=5->∃al a4 bV,gf [.ref c.hh,.ref c.h,s9 ar f w s,.bool c.rn] D=some (.bool true,al)/\zi c N (kH c.es.length ar s N) b1 o R D al a4 bV
theorem Tn {ar f w s mm:Nat} (Z:Run c ar f w s) (Q:c.iB b1) (S:gE c N b1 o R D) (aP:D[mm]? =some (.list N)) (aj:c.B<=mm/\mm < c.T) (ao:mm≠c.nn) (d3:N.length<=5) (qm:R.next=iR c.es\/R.next=na c) {x0 x1 x3 x4 x5 x7 x8 x9 x11 x13 x15 x16 x22 x23:V}:
  ∃al a4 bV,uK (eo x0 x1 ar x3 x4 x5 s x7 x8 x9 c.rn x11 c.es x13 (c' c.es (dE c.es c.bk c.g) c.place c.rn) x15 x16 (eG c.es c.place c.r0) c.h c.hh (em ar f w s) mm x22 x23) D=some (.nx,eo x0 x1 ar x3 x4 x5 s x7 x8 x9 c.rn x11 c.es x13 (c' c.es (dE c.es c.bk c.g) c.place c.rn) x15 x16 (eG c.es c.place c.r0) c.h c.hh (em ar f w s) mm x22 (.ap (eG c.es c.place c.r0)),al)/\
   gE c (kH c.es.length ar s N) c.c6 a4 bV al/\al[mm]? =some (.list (kH c.es.length ar s N))/\bV.next=na c/\bV.sh=false/\(∀j,cR a4 j->D.length<=j\/(R.sh=false/\cR o j))/\dG (λj=>j=c.nn\/j=c.h\/j=mm) R.vs D al:=by
 have C:=Z.ok;refine kW (Z.go b1 N o R D Q S d3) λai a4 bV av K=>?_;have dn:=VA (h:=c.h) (hh:=c.hh) Z.gL Z.hf (by rw [<- Z.rn];exact av);have dT:=K.dg;have T2:mm≠c.h:=λq=>by rw [q,S.ju] at aP;cases aP
 have wO:ai[mm]? =some (.list N):=(K.rw.same mm (fQ aP) (λw=>by
  rcases w with w | w
  .exact ao w
  .exact T2 w) (S.pd C aj.1)).trans aP
 have Ha:bV.next=na c:=by
  rw [K.next];have fB:b1≠[]↔c.es≠[]:=by
   rw [<- List.length_pos_iff,<- List.length_pos_iff,Q.len]
  unfold na at qm ⊢
  by_cases q:c.rn=true/\c.es≠[]
  .rw [if_pos q];have:c.rn=true/\b1≠[]:=⟨q.1,fB.mpr q.2⟩;rw [if_pos this,Q.len];have:=List.length_pos_iff.mpr q.2;unfold pb;rw [if_neg (by lia)]
  .rw [if_neg q] at qm ⊢;have:¬(c.rn=true/\b1≠[]):=λz=>q ⟨z.1,fB.mp z.2⟩;rw [if_neg this];rcases qm with h | h <;> exact h
 have cP:ek (a' wt) (eo x0 x1 ar x3 x4 x5 s x7 x8 x9 c.rn x11 c.es x13 (c' c.es (dE c.es c.bk c.g) c.place c.rn) x15 x16 (eG c.es c.place c.r0) c.h c.hh (em ar f w s) mm x22 x23) D=some (false,ai):=by
  have:wt (eo x0 x1 ar x3 x4 x5 s x7 x8 x9 c.rn x11 c.es x13 (c' c.es (dE c.es c.bk c.g) c.place c.rn) x15 x16 (eG c.es c.place c.r0) c.h c.hh (em ar f w s) mm x22 x23) D=some (.bool true,ai):=by
   unfold wt;refine (eS (l:=[.int (ar:Int),.ref c.hh,.ap [.ref c.h,em ar f w s]]) (ai:=D) ?_).trans dn;unfold eo
   simp! only []
  simp only [ek,a',this,Option.bind_some,n9,Option.map_some,Bool.not_true]
 have yu:=Zg (D:=ai) (x0:=x0) (x1:=x1) (x3:=x3) (x4:=x4) (x5:=x5) (x7:=x7) (x8:=x8) (x9:=x9) (x11:=x11) (x13:=x13) (x15:=x15) (x16:=x16) (X:=em ar f w s) (x22:=x22) (x23:=x23) (s:=s) (mm:=mm) (refs:=eG c.es c.place c.r0) (due:=c' c.es (dE c.es c.bk c.g) c.place c.rn) (rn:=c.rn) (es:=c.es) (h:=c.h) (hh:=c.hh) Z.gL;have dF:∃aY,a7 yq (af (b9 Az) aq) aq (eo x0 x1 ar x3 x4 x5 s x7 x8 x9 c.rn x11 c.es x13 (c' c.es (dE c.es c.bk c.g) c.place c.rn) x15 x16 (eG c.es c.place c.r0) c.h c.hh (em ar f w s) mm x22 x23) ai=some (.nx,eo x0 x1 ar x3 x4 x5 s x7 x8 x9 c.rn x11 c.es x13 (c' c.es (dE c.es c.bk c.g) c.place c.rn) x15 x16 (eG c.es c.place c.r0) c.h c.hh (em ar f w s) mm x22 x23,aY)/\Fr (λj=>j=mm) ai aY/\aY[mm]? =some (.list (kH c.es.length ar s N)):=by
  by_cases q:2<=c.es.length/\(ar=6\/ar=7\/ar=8)/\s=1
  .rw [decide_eq_true q] at yu;have hy:=PM (x0:=x0) (x1:=x1) (x3:=x3) (x4:=x4) (x5:=x5) (x7:=x7) (x8:=x8) (x9:=x9) (x11:=x11) (x13:=x13) (x15:=x15) (x16:=x16) (X:=em ar f w s) (x22:=x22) (x23:=x23) (s:=s) (refs:=eG c.es c.place c.r0) (due:=c' c.es (dE c.es c.bk c.g) c.place c.rn) (rn:=c.rn) (es:=c.es) (h:=c.h) (hh:=c.hh) q.2.1 wO (by unfold big;lia);refine ⟨_,(dw yu).trans ((aF (fP hy)).trans rfl),Fr.set _ _ _ rfl,?_⟩;unfold kH;rw [if_pos q];exact gh wO
  .rw [decide_eq_false q] at yu;refine ⟨ai,(ch yu).trans rfl,Fr.refl _,?_⟩;unfold kH;rw [if_neg q];exact wO
 revert dF;refine hN λaY dF eR jX=>?_;have c8:=dT.fr wO aj ao eR;refine a2 (Zi (x0:=x0) (x1:=x1) (x3:=x3) (x4:=x4) (x5:=x5) (x7:=x7) (x8:=x8) (x9:=x9) (x11:=x11) (x13:=x13) (x15:=x15) (x16:=x16) (X:=em ar f w s) (x22:=x22) (x23:=x23) (s:=s) (ar:=ar) (mm:=mm) (refs:=eG c.es c.place c.r0) (hh:=c.hh) C Z.asc Z.kb Z.c6 c8 Ha rfl) λa6 j3 gm=>?_;have D8:Fr (λj=>j=mm) aY a6:=gm.wide λ_ _ w=>w.elim;have c9:=c8.fr jX aj ao D8;have G6:a6[mm]? =some (.list (kH c.es.length ar s N)):=gm.at jX λw=>w;have d0:=c9.ifs C Z.c6 (W:=ha c.h) (λj w=>by rw [show j=c.h from w];exact C.h.1) (dG.refl a6);refine a2 (Zh (D:=a6) (o:=a4) (x0:=x0) (x1:=x1) (x3:=x3) (x4:=x4) (x5:=x5) (x7:=x7) (x8:=x8) (x9:=x9) (x11:=x11) (x13:=x13) (x15:=x15) (x16:=x16) (X:=em ar f w s) (x22:=x22) (x23:=x23) (s:=s) (ar:=ar) (mm:=mm) (refs:=eG c.es c.place c.r0) (due:=c' c.es (dE c.es c.bk c.g) c.place c.rn) (rn:=c.rn) (es:=c.es) (h:=c.h) (hh:=c.hh) (λdZ F h0=>by
  have aw:c.place < c.es.length:=by
   by_cases q:c.place < c.es.length
   .exact q
   .exact absurd (by unfold eG;rw [if_neg q]) h0
  refine a2 (c9.ref aw) λk _ e=>?_;refine ⟨c.r0,by unfold eG;rw [if_pos aw];rfl,?_⟩;have:=F.at e λw=>w;unfold mL;rw [this];rfl) (gq c9.ju rfl rfl) (by
  refine a2 (IU c9.arr c9.good d0) λdZ fo mq=>?_;have aZ:(c.c6.map (·.2)).filter iM=eG c.es c.place c.r0:=Ww C.hs;rw [aZ] at fo;exact ⟨dZ,fo,mq⟩)) λbQ jK i2=>?_
 have gD:=c9.fr G6 aj ao (i2.wide λ_ _ w=>w.elim);refine ⟨bQ,a4,bV,?_,gD,i2.at G6 λw=>w,Ha,K.sh,K.own,?_⟩
 .unfold uK;rw [aF ((ch cP).trans rfl),aF dF,aF ((ch j3).trans rfl),jK]
 .have jL:dG (λj=>j=c.nn\/j=c.h\/j=mm) R.vs D ai:=K.rw.trans (dG.refl (W:=dx) _) (λj w=>by
   rcases w with w | w
   .exact .inl w
   .exact .inr (.inl w)) λ_ _ w=>w.elim
  have jk:dG (λj=>j=mm) R.vs ai bQ:=dG.lu ((eR.t D8).t (i2.wide λ_ _ w=>w.elim));exact jL.trans jk (λ_ w=>w) λ_ _ w=>.inr (.inr w)
end
section
open PySem
variable {D al:am}
noncomputable def B':aU:=(a1 0 (kn (G 0) lw (ed (ab (.int 63)))))
noncomputable def Cc:aU:=(a1 1 (cM (H (cn (aD gw (G 0) (ef aa)) (aT (G 0) (ab (.int 0))) (ab (.int 0))) aa)))
noncomputable def xb:aU:=(eB [4,3,2] (bM (H (ak gb (H (G 1) (H (ab (.int 11)) aa))) (H (ak gb (H (G 1) (H (ab (.int 8)) aa))) (H (ak gb (H (G 1) (H (ab (.int 2)) aa))) aa)))))
noncomputable def xc:aU:=(jj (f9 [5,6,7,8]) (bM (H (aM oEq (ak gb (H (G 1) (H (ab (.int 2)) aa))) (ab (.int 1))) (H (ak gb (H (G 1) (H (ab (.int 4)) aa))) (H (ak gb (H (G 1) (H (ab (.int 4)) aa))) (H (ak gb (H (G 1) (H (ab (.int 8)) aa))) aa))))))
noncomputable def xd:aU:=(eB [10,9] (bM (H (aM fq (G 2) (bM (H (ab (.int 4)) (H (ab (.int 5)) (H (ab (.int 8)) aa))))) (H (aM fq (G 2) (bM (H (ab (.int 0)) (H (ab (.int 1)) (H (ab (.int 6)) aa))))) aa))))
noncomputable def xe:aU:=(a1 11 (ak su (H (G 2) (H (G 3) (H (G 7) aa)))))
noncomputable def xf:aU:=(a1 12 (ak ss (H (G 0) (H (G 9) (H (aM oEq (G 11) (ab (.str [112,108,97,105,110]))) (H (G 4) aa))))))
noncomputable def Ce:aU:=(a1 13 (e' true (ak dX (H (ak bG (H (G 12) aa)) aa)) [none,none,some 12] (cx 1) bW (bM (H (aT (aT (G 2) (G 1)) (ab (.int 0))) (H (aT (aT (G 2) (G 1)) (ab (.int 1))) (H (G 1) aa)))) 100))
noncomputable def Cf:aU:=(a1 13 (ak sq (H (G 13) (H (G 11) (H (cn (a' (G 9)) (ab (.int 0)) (ab (.int 1))) (H (aM fq (G 2) (bM (H (ab (.int 1)) (H (ab (.int 3)) (H (ab (.int 5)) aa))))) aa))))))
noncomputable def Ca:aU:=(a1 14 (ak sp (H (G 13) (H (G 8) (H (G 10) aa)))))
noncomputable def Cb:aU:=(a1 15 (ak sn (H (G 12) (H (G 8) aa))))
noncomputable def w6:aU:=(bI 316 9 (G 15) (G 5))
noncomputable def w7:aU:=(eB [17,16] (bM (H (ak lX (H (G 15) aa)) (H (ak nP (H (G 15) aa)) aa))))
noncomputable def w8:aU:=(eB [19,18] (bM (H (ak (dO 181 lp) (H (G 15) aa)) (H (ak (dO 922 oS) aa) aa))))
noncomputable def w9:aU:=(kP (aN 922 0 (G 19)) (ab (.str [99,97,108,108])) (ab (.con (.ref 1030))))
noncomputable def w':aU:=(a1 20 (ef (H (G 18) (H (cn (aD fq (G 2) (bM (H (ab (.int 6)) (H (ab (.int 7)) (H (ab (.int 8)) aa))))) (aM cV (ak jR (H (G 7) aa)) (ak jR (H (G 6) aa))) (aT (ab ti) (G 3))) aa))))
noncomputable def xa:aU:=(a1 21 (cM aa))
noncomputable def uQ:aU:=(a7 (bp (a' (G 5)) (bp (dI (aD ec (ak lX (H (G 15) aa)) (G 16)) (dI (bp (aD gw (G 12) (ef aa)) (bp (aD iU (aN 181 0 (G 18)) (G 15)) bW)) fD)) bW)) (af (aR (ab (.bool false))) aq) aq)
noncomputable def Cd:aU:=(aR (aM oEq (aN 922 5 (G 19)) (G 21)))
theorem Tl:zV=af B' (af Cc (af xb (af xc (af xd (af xe (af xf (af Ce (af Cf (af Ca (af Cb (af w6 (af w7 (af w8 (af w9 (af w' (af xa (af (e7 (ak dX (H (ab (.int 2)) aa)) (cx 22) uK 100) (af uQ (af Cd aq))))))))))))))))))):=rfl
theorem p1 (n:Int) {c:Int} (h0:0 < c) (hs:g5 c=true):gb [.ref D.length,.int c] (D++[az.list [.int n]])=some (.int (n.fmod c),D++[az.list [.int (n.fdiv c)]]):=by
 have:=CZ (c:=c) (eL D (.list [.int n])) h0 hs;rw [j1] at this;exact this
theorem Hm (D:am):∀ar∈List.range 11,(fq D (.int (ar:Int)) (.tup [.int 4,.int 5,.int 8]),fq D (.int (ar:Int)) (.tup [.int 0,.int 1,.int 6]),fq D (.int (ar:Int)) (.tup [.int 1,.int 3,.int 5]))=(some (.bool (cE ar)),some (.bool (dY ar)),some (.bool (km ar))):=by
 have:((List.range 11).map λ(ar:Nat)=>(fq D (.int (ar:Int)) (.tup [.int 4,.int 5,.int 8]),fq D (.int (ar:Int)) (.tup [.int 0,.int 1,.int 6]),fq D (.int (ar:Int)) (.tup [.int 1,.int 3,.int 5])))=((List.range 11).map λ(ar:Nat)=>(some (.bool (cE ar)),some (.bool (dY ar)),some (.bool (km ar)))):=by rfl'
 exact List.map_inj_left.mp this
theorem Tg {xs:List V} (ax:∀x∈xs,∃n,x=V.int n):
  ∃(cL:List V) (n:Int) (ar f ba:Nat) (sh:Bool) (s w place:Nat),(∀y∈cL,∃n,y=V.int n)/\ar < 11/\f∈List.range 8/\ba∈List.range 2/\s∈List.range 4/\w∈List.range 4/\place < 8/\
   ∀fJ:aU,af B' (af Cc (af xb (af xc (af xd (af xe fJ))))) [.ap xs,.u,.u,.u,.u,.u,.u,.u,.u,.u,.u,.u,.u,.u,.u,.u,.u,.u,.u,.u,.u,.u,.u,.u,.u,.u,.u,.u,.u,.u,.u,.u,.u,.u,.u,.u,.u,.u,.u,.u,.u,.u,.u,.u] D=fJ [.ap cL,.ref D.length,.int (ar:Int),.int (f:Int),.int (ba:Int),.bool sh,.int (s:Int),.int (w:Int),.int (place:Int),.bool (cE ar),.bool (dY ar),eM ar f w,.u,.u,.u,.u,.u,.u,.u,.u,.u,.u,.u,.u,.u,.u,.u,.u,.u,.u,.u,.u,.u,.u,.u,.u,.u,.u,.u,.u,.u,.u,.u,.u] (D++[az.list [.int n]]):=by
 have fh:∀a b c:V,([a,b,c]:List V).length<=big:=λa b c=>by unfold big;simp
 have sg:∀a b:V,([a,b]:List V).length<=big:=λa b=>by unfold big;simp
 have B0:∀a:V,([a]:List V).length<=big:=λa=>by unfold big;simp
 have b0:([]:List V).length<=big:=Nat.zero_le _;have aW:(fG xs none (some 63)).length<=63:=Nat.le_trans (I7 _ _ _) (Sb _);have aP:∀x∈fG xs none (some 63),∃n,x=V.int n:=λx h=>ax x (I9 h);have cP:B' [.ap xs,.u,.u,.u,.u,.u,.u,.u,.u,.u,.u,.u,.u,.u,.u,.u,.u,.u,.u,.u,.u,.u,.u,.u,.u,.u,.u,.u,.u,.u,.u,.u,.u,.u,.u,.u,.u,.u,.u,.u,.u,.u,.u,.u] D=some (.nx,[.ap (fG xs none (some 63)),.u,.u,.u,.u,.u,.u,.u,.u,.u,.u,.u,.u,.u,.u,.u,.u,.u,.u,.u,.u,.u,.u,.u,.u,.u,.u,.u,.u,.u,.u,.u,.u,.u,.u,.u,.u,.u,.u,.u,.u,.u,.u,.u],D):=by
  have b:(fG xs none (some 63)).length<=big:=by unfold big;lia
  have aC:ed (ab (.int 63)) [.ap xs,.u,.u,.u,.u,.u,.u,.u,.u,.u,.u,.u,.u,.u,.u,.u,.u,.u,.u,.u,.u,.u,.u,.u,.u,.u,.u,.u,.u,.u,.u,.u,.u,.u,.u,.u,.u,.u,.u,.u,.u,.u,.u,.u] D=some (some 63,D):=rfl;have e:kn (G 0) lw (ed (ab (.int 63))) [.ap xs,.u,.u,.u,.u,.u,.u,.u,.u,.u,.u,.u,.u,.u,.u,.u,.u,.u,.u,.u,.u,.u,.u,.u,.u,.u,.u,.u,.u,.u,.u,.u,.u,.u,.u,.u,.u,.u,.u,.u,.u,.u,.u,.u] D=some (.ap (fG xs none (some 63)),D):=by
   simp only [kn,lw,ff,List.getElem?_cons_zero,Option.bind_some,n5,aC,v2,b,if_true]
  exact hI e
 generalize fG xs none (some 63)=cL at cP aW aP;obtain ⟨n,a3⟩:∃n,cn (aD gw (G 0) (ef aa)) (aT (G 0) (ab (.int 0))) (ab (.int 0)) [.ap cL,.u,.u,.u,.u,.u,.u,.u,.u,.u,.u,.u,.u,.u,.u,.u,.u,.u,.u,.u,.u,.u,.u,.u,.u,.u,.u,.u,.u,.u,.u,.u,.u,.u,.u,.u,.u,.u,.u,.u,.u,.u,.u,.u] D=some (.int n,D):=by
  cases cL with
  | nil=>
   refine ⟨0,?_⟩;have ko:gw D (.ap []) (.ap [])=some (.bool false):=rfl
   simp! only [b0,ko]
  | cons y cL=>
   refine cH (aP y (List.mem_cons_self ..)) λn bl=>?_;subst bl;refine ⟨n,?_⟩;have ko:gw D (.ap (.int n::cL)) (.ap [])=some (.bool true):=rfl;have it:item D (.ap (.int n::cL)) (.int 0)=some (.int n):=iN (k:=0) rfl
   simp! only [b0,ko,it]
 have dF:Cc [.ap cL,.u,.u,.u,.u,.u,.u,.u,.u,.u,.u,.u,.u,.u,.u,.u,.u,.u,.u,.u,.u,.u,.u,.u,.u,.u,.u,.u,.u,.u,.u,.u,.u,.u,.u,.u,.u,.u,.u,.u,.u,.u,.u,.u] D=some (.nx,[.ap cL,.ref D.length,.u,.u,.u,.u,.u,.u,.u,.u,.u,.u,.u,.u,.u,.u,.u,.u,.u,.u,.u,.u,.u,.u,.u,.u,.u,.u,.u,.u,.u,.u,.u,.u,.u,.u,.u,.u,.u,.u,.u,.u,.u,.u],D++[az.list [.int n]]):=by
  have e:cM (H (cn (aD gw (G 0) (ef aa)) (aT (G 0) (ab (.int 0))) (ab (.int 0))) aa) [.ap cL,.u,.u,.u,.u,.u,.u,.u,.u,.u,.u,.u,.u,.u,.u,.u,.u,.u,.u,.u,.u,.u,.u,.u,.u,.u,.u,.u,.u,.u,.u,.u,.u,.u,.u,.u,.u,.u,.u,.u,.u,.u,.u,.u] D=some (.ref D.length,D++[az.list [.int n]]):=by
   simp only [cM,H,aa,a3,Option.bind_some,Option.map_some,B0,if_true]
  exact hI e
 refine a2 (nz n (c:=11) (by lia)) λar gL av=>?_;refine a2 (nz (n.fdiv 11) (c:=8) (by lia)) λf hf aC=>?_;refine a2 (nz ((n.fdiv 11).fdiv 8) (c:=2) (by lia)) λba ku bN=>?_;refine a2 (nz (((n.fdiv 11).fdiv 8).fdiv 2) (c:=2) (by lia)) λq bL du=>?_;refine a2 (nz ((((n.fdiv 11).fdiv 8).fdiv 2).fdiv 2) (c:=4) (by lia)) λs hs fo=>?_;refine a2 (nz (((((n.fdiv 11).fdiv 8).fdiv 2).fdiv 2).fdiv 4) (c:=4) (by lia)) λw hw hx=>?_;refine a2 (nz ((((((n.fdiv 11).fdiv 8).fdiv 2).fdiv 2).fdiv 4).fdiv 4) (c:=8) (by lia)) λplace aw ws=>?_;have eK:=p1 (D:=D) n (c:=11) (by lia) (by rfl');have fO:=p1 (D:=D) (n.fdiv 11) (c:=8) (by lia) (by rfl');have Am:=p1 (D:=D) ((n.fdiv 11).fdiv 8) (c:=2) (by lia) (by rfl');have An:=p1 (D:=D) (((n.fdiv 11).fdiv 8).fdiv 2) (c:=2) (by lia) (by rfl');have tV:=p1 (D:=D) ((((n.fdiv 11).fdiv 8).fdiv 2).fdiv 2) (c:=4) (by lia) (by rfl');have wm:=p1 (D:=D) (((((n.fdiv 11).fdiv 8).fdiv 2).fdiv 2).fdiv 4) (c:=4) (by lia) (by rfl');have wn:=p1 (D:=D) ((((((n.fdiv 11).fdiv 8).fdiv 2).fdiv 2).fdiv 4).fdiv 4) (c:=8) (by lia) (by rfl');rw [show n.fmod 11=(ar:Int) from av] at eK;rw [show (n.fdiv 11).fmod 8=(f:Int) from aC] at fO;rw [show ((n.fdiv 11).fdiv 8).fmod 2=(ba:Int) from bN] at Am;rw [show (((n.fdiv 11).fdiv 8).fdiv 2).fmod 2=(q:Int) from du] at An;rw [show ((((n.fdiv 11).fdiv 8).fdiv 2).fdiv 2).fmod 4=(s:Int) from fo] at tV;rw [show (((((n.fdiv 11).fdiv 8).fdiv 2).fdiv 2).fdiv 4).fmod 4=(w:Int) from hx] at wm;rw [show ((((((n.fdiv 11).fdiv 8).fdiv 2).fdiv 2).fdiv 4).fdiv 4).fmod 8=(place:Int) from ws] at wn;clear av aC bN du fo hx ws;generalize n.fdiv 11=e5 at *;generalize e5.fdiv 8=eY at *;generalize eY.fdiv 2=nY at *;generalize nY.fdiv 2=Ct at *;generalize Ct.fdiv 4=Cu at *;generalize Cu.fdiv 4=sK at *;generalize sK.fdiv 8=o' at *;have h9:xb [.ap cL,.ref D.length,.u,.u,.u,.u,.u,.u,.u,.u,.u,.u,.u,.u,.u,.u,.u,.u,.u,.u,.u,.u,.u,.u,.u,.u,.u,.u,.u,.u,.u,.u,.u,.u,.u,.u,.u,.u,.u,.u,.u,.u,.u,.u] (D++[az.list [.int n]])=some (.nx,[.ap cL,.ref D.length,.int (ar:Int),.int (f:Int),.int (ba:Int),.u,.u,.u,.u,.u,.u,.u,.u,.u,.u,.u,.u,.u,.u,.u,.u,.u,.u,.u,.u,.u,.u,.u,.u,.u,.u,.u,.u,.u,.u,.u,.u,.u,.u,.u,.u,.u,.u,.u],D++[az.list [.int nY]]):=by
  unfold xb
  simp! only [eK,fO,Am,fh] <;> rfl
 have jK:xc [.ap cL,.ref D.length,.int (ar:Int),.int (f:Int),.int (ba:Int),.u,.u,.u,.u,.u,.u,.u,.u,.u,.u,.u,.u,.u,.u,.u,.u,.u,.u,.u,.u,.u,.u,.u,.u,.u,.u,.u,.u,.u,.u,.u,.u,.u,.u,.u,.u,.u,.u,.u] (D++[az.list [.int nY]])=some (.nx,[.ap cL,.ref D.length,.int (ar:Int),.int (f:Int),.int (ba:Int),.bool (decide ((q:Int)=1)),.int (s:Int),.int (w:Int),.int (place:Int),.u,.u,.u,.u,.u,.u,.u,.u,.u,.u,.u,.u,.u,.u,.u,.u,.u,.u,.u,.u,.u,.u,.u,.u,.u,.u,.u,.u,.u,.u,.u,.u,.u,.u,.u],D++[az.list [.int o']]):=by
  unfold xc
  simp! only [An,tV,wm,wn,B1,h2]
 refine cq (Prod.mk.inj (Hm (D++[az.list [.int o']]) ar (List.mem_range.mpr gL))) λeE BI=>?_;refine cq (Prod.mk.inj BI) λky _=>?_;have ri:xd [.ap cL,.ref D.length,.int (ar:Int),.int (f:Int),.int (ba:Int),.bool (decide ((q:Int)=1)),.int (s:Int),.int (w:Int),.int (place:Int),.u,.u,.u,.u,.u,.u,.u,.u,.u,.u,.u,.u,.u,.u,.u,.u,.u,.u,.u,.u,.u,.u,.u,.u,.u,.u,.u,.u,.u,.u,.u,.u,.u,.u,.u] (D++[az.list [.int o']])=some (.nx,[.ap cL,.ref D.length,.int (ar:Int),.int (f:Int),.int (ba:Int),.bool (decide ((q:Int)=1)),.int (s:Int),.int (w:Int),.int (place:Int),.bool (cE ar),.bool (dY ar),.u,.u,.u,.u,.u,.u,.u,.u,.u,.u,.u,.u,.u,.u,.u,.u,.u,.u,.u,.u,.u,.u,.u,.u,.u,.u,.u,.u,.u,.u,.u,.u,.u],D++[az.list [.int o']]):=by
  unfold xd
  simp! only [fh,sg,eE,ky] <;> rfl
 have m8:xe [.ap cL,.ref D.length,.int (ar:Int),.int (f:Int),.int (ba:Int),.bool (decide ((q:Int)=1)),.int (s:Int),.int (w:Int),.int (place:Int),.bool (cE ar),.bool (dY ar),.u,.u,.u,.u,.u,.u,.u,.u,.u,.u,.u,.u,.u,.u,.u,.u,.u,.u,.u,.u,.u,.u,.u,.u,.u,.u,.u,.u,.u,.u,.u,.u,.u] (D++[az.list [.int o']])=some (.nx,[.ap cL,.ref D.length,.int (ar:Int),.int (f:Int),.int (ba:Int),.bool (decide ((q:Int)=1)),.int (s:Int),.int (w:Int),.int (place:Int),.bool (cE ar),.bool (dY ar),eM ar f w,.u,.u,.u,.u,.u,.u,.u,.u,.u,.u,.u,.u,.u,.u,.u,.u,.u,.u,.u,.u,.u,.u,.u,.u,.u,.u,.u,.u,.u,.u,.u,.u],D++[az.list [.int o']]):=by
  have r:=VS (D++[az.list [.int o']]) ar (List.mem_range.mpr gL) f (List.mem_range.mpr hf) w (List.mem_range.mpr hw);unfold xe
  simp! only [r]
 exact ⟨cL,o',ar,f,ba,decide ((q:Int)=1),s,w,place,aP,gL,List.mem_range.mpr hf,List.mem_range.mpr ku,List.mem_range.mpr hs,List.mem_range.mpr hw,aw,λfJ=>by
  rw [aF cP,aF dF,aF h9,aF jK,aF ri,aF m8]⟩
noncomputable def mX (ar f:Nat):Int:=if ar=9 then 6 else if ar=10 then 14 else jh f
noncomputable def jz (ar f w:Nat):V->Int:=if ar=6\/ar=7\/ar=8 then ct w else cO (mX ar f)
noncomputable def ly (ar f:Nat):Bool:=decide (ar < 6/\(f=0\/f=6))
noncomputable def hp (ar f ba:Nat):List V:=if ly ar f then (if cE ar then kc true true ba else kf false true ba) else b4
noncomputable def gJ (ar f w:Nat):V->Int:=λv=>if km ar then -jz ar f w v else jz ar f w v
theorem Su (D:am):∀ar∈List.range 11,∀f∈List.range 8,∀w∈List.range 4,oEq D (eM ar f w) (.str [112,108,97,105,110])=some (.bool (ly ar f)):=by
 have:((List.range 11).map λ(ar:Nat)=>(List.range 8).map λ(f:Nat)=>(List.range 4).map λ(w:Nat)=>oEq D (eM ar f w) (.str [112,108,97,105,110]))=((List.range 11).map λ(ar:Nat)=>(List.range 8).map λ(f:Nat)=>(List.range 4).map λ(w:Nat)=>some (.bool (ly ar f))):=by rfl'
 exact λa bw b aA c bj=>List.map_inj_left.mp (List.map_inj_left.mp (List.map_inj_left.mp this a bw) b aA) c bj
theorem Es {bk:Bool} {ba:Nat} (hf:ba∈List.range 2):(if bk then kc true true ba else kf false true ba)=hY.take 6\/(if bk then kc true true ba else kf false true ba)=hY.drop 6\/(if bk then kc true true ba else kf false true ba)=jH.take 8\/(if bk then kc true true ba else kf false true ba)=(jH.drop 8).take 6:=by
 rcases (show ba=0\/ba=1 by have:=List.mem_range.mp hf;lia) with rfl | rfl <;> cases bk
 .exact .inr (.inr (.inl rfl))
 .exact .inl rfl
 .exact .inr (.inr (.inr rfl))
 .exact .inr (.inl rfl)
theorem WK {ar f ba w:Nat} (gL:ar < 11) (hf:f∈List.range 8) (ku:ba∈List.range 2) (hw:w∈List.range 4):∃cb,k1 (eM ar f w) (jz ar f w) (hp ar f ba) cb:=by
 have GS:=List.mem_range.mp hf;have ZO:∀k,(k=6\/k=7\/k=8)->∃cb,k1 (eM k f w) (jz k f w) (hp k f ba) cb:=λk hk=>by
  have av:eM k f w=.int (w:Int):=by unfold eM;rw [if_pos hk]
  have aC:jz k f w=ct w:=by unfold jz;rw [if_pos hk]
  have bN:hp k f ba=b4:=by unfold hp ly;rw [decide_eq_false (by lia)];rfl
  rw [av,aC,bN];exact ⟨_,WO hw⟩
 have dL:∀k,k < 6->∃cb,k1 (eM k f w) (jz k f w) (hp k f ba) cb:=λk hk=>by
  have av:eM k f w=.str (JA f):=by unfold eM;rw [if_neg (by lia),if_neg (by lia),if_neg (by lia)]
  have aC:jz k f w=cO (jh f):=by unfold jz mX;rw [if_neg (by lia),if_neg (by lia),if_neg (by lia)]
  rw [av,aC]
  by_cases kx:f=0\/f=6
  .have bN:hp k f ba=(if cE k then kc true true ba else kf false true ba):=by unfold hp ly;rw [decide_eq_true ⟨hk,kx⟩];rfl
   rw [bN];rcases kx with rfl | rfl <;> exact ⟨_,WL (Es ku)⟩
  .have bN:hp k f ba=b4:=by unfold hp ly;rw [decide_eq_false (λq=>kx q.2)];rfl
   rw [bN];rcases (show f=1\/f=7\/f=2\/f=3\/f=4\/f=5 by lia) with rfl | rfl | rfl | rfl | rfl | rfl
   .exact ⟨_,Jz⟩
   .exact ⟨_,Jz⟩
   .exact ⟨_,WN⟩
   .exact ⟨_,WM⟩
   .exact ⟨_,Jy⟩
   .exact ⟨_,Jx⟩
 rcases (show ar < 6\/(ar=6\/ar=7\/ar=8)\/ar=9\/ar=10 by lia) with h | h | rfl | rfl
 .exact dL ar h
 .exact ZO ar h
 .exact ⟨_,Jy⟩
 .exact ⟨_,Jx⟩
theorem Sg {bk:Bool} {ar f ba:Nat} {es:List (V×V)} (aA:bk=cE ar) (P:rx bk (ly ar f) ba es):∀p∈es,(if bk then p.1 else p.2)∈hp ar f ba:=λp aw=>by
 have hk:=P.k p aw;have aI:=P.v p aw;unfold hp
 cases kx:ly ar f with
 | true=>
  rw [kx] at hk aI;rw [<- aA]
  cases bk with
  | true=>exact hk
  | false=>exact aI
 | false=>
  cases bk with
  | true=>exact List.mem_append_left _ (vO hk)
  | false=>exact List.mem_append_right _ (EI aI)
theorem yg:∀v∈b4,ck v=true/\gn v=true:=by
 have:(b4.all λv=>ck v && gn v)=true:=by rfl'
 intro v aI;have:=List.all_eq_true.mp this v aI;rwa [Bool.and_eq_true] at this
theorem S5 {v:V} (h:v∈hY):iA v:=by
 have aJ:∀i:Int,(i=0\/i=1\/i=2\/i=3\/i=9\/i=-3)->iA (.int i):=λi q=>⟨.inl ⟨i,rfl⟩,λj e=>by cases e;lia⟩;have hs:∀l:List Nat,asc l=true->l.length<=20->iA (.str l):=λl a b=>⟨.inr ⟨l,rfl,a,b⟩,λj e=>by cases e⟩;unfold hY at h;simp only [List.mem_cons,List.not_mem_nil,or_false] at h;rcases h with rfl | rfl | rfl | rfl | rfl | rfl | rfl | rfl | rfl | rfl | rfl | rfl
 .exact aJ _ (by lia)
 .exact aJ _ (by lia)
 .exact aJ _ (by lia)
 .exact aJ _ (by lia)
 .exact aJ _ (by lia)
 .exact aJ _ (by lia)
 .exact hs _ rfl (by simp)
 .exact hs _ rfl (by simp)
 .exact hs _ rfl (by simp)
 .exact hs _ rfl (by simp)
 .exact hs _ rfl (by simp)
 .exact hs _ rfl (by simp)
structure tu (es:List (V×V)):Prop where
 cS:es.length<=7
 sc:∀p∈es,ck p.1=true/\ck p.2=true
 asc:∀k,gn (bg es k).1=true/\gn (bg es k).2=true
 kb:∀p∈es,iA p.1
 cX:(es.map (·.1)).Nodup
theorem Qe {bk pl:Bool} {ba:Nat} {es:List (V×V)} (cS:es.length<=7) (P:rx bk pl ba es):tu es:=by
 have k:∀p∈es,p.1∈hY:=λp aw=>vO (P.k p aw);have v:∀p∈es,p.2∈jH:=λp aw=>EI (P.v p aw);refine ⟨cS,λp aw=>⟨(yg _ (List.mem_append_left _ (k p aw))).1,(yg _ (List.mem_append_right _ (v p aw))).1⟩,λi=>?_,λp aw=>S5 (k p aw),P.cX⟩
 by_cases h:i < es.length
 .exact ⟨(yg _ (List.mem_append_left _ (k _ (mY h)))).2,(yg _ (List.mem_append_right _ (v _ (mY h)))).2⟩
 .unfold bg;rw [List.getElem?_eq_none (by lia)];exact ⟨rfl,rfl⟩
noncomputable def sW (bk:Bool):V->V
 | .tup [a,b,_]=>if bk then a else b
 | _=>.none
theorem SE (es:List (V×V)) (ar f w:Nat) (l:List Nat):co (λx=>if km ar then -jz ar f w (sW (cE ar) x) else jz ar f w (sW (cE ar) x)) (l.map (eh es))=(co (t2 es (cE ar) (gJ ar f w)) l).map (eh es):=by
 rw [BR];congr 1
theorem Th {cL:List V} {ar f ba s w place:Nat} {sh:Bool} {b0:Nat} (BH:∀y∈cL,∃n,y=V.int n) (gL:ar < 11) (hf:f∈List.range 8) (ku:ba∈List.range 2) (hw:w∈List.range 4):
  ∃(es:List (V×V)) (x13:V) (ix ai:am) (o:ee) (R:d6),tu es/\(∀p∈es,(if cE ar then p.1 else p.2)∈hp ar f ba)/\Fr dx ix ai/\a8 ai o R/\Good ai R (cA es place (ix.length+1))/\R.sh=false/\R.next=iR es/\(place < es.length->ai[ix.length+1]? =some (.inst 181 [(bg es place).2,.int 2,.ref (ix.length+2)]))/\
   ∀fJ:aU,af xf (af Ce (af Cf (af Ca (af Cb fJ)))) [.ap cL,.ref b0,.int (ar:Int),.int (f:Int),.int (ba:Int),.bool sh,.int (s:Int),.int (w:Int),.int (place:Int),.bool (cE ar),.bool (dY ar),eM ar f w,.u,.u,.u,.u,.u,.u,.u,.u,.u,.u,.u,.u,.u,.u,.u,.u,.u,.u,.u,.u,.u,.u,.u,.u,.u,.u,.u,.u,.u,.u,.u,.u] D=
    fJ [.ap cL,.ref b0,.int (ar:Int),.int (f:Int),.int (ba:Int),.bool sh,.int (s:Int),.int (w:Int),.int (place:Int),.bool (cE ar),.bool (dY ar),eM ar f w,.ap (es.map aH),x13,.ap (c' es (dE es (cE ar) (gJ ar f w)) place (dY ar)),.ref o.a,.u,.u,.u,.u,.u,.u,.u,.u,.u,.u,.u,.u,.u,.u,.u,.u,.u,.u,.u,.u,.u,.u,.u,.u,.u,.u,.u,.u] ai:=by
 have Hh:=List.mem_range.mpr gL;refine cH (WK gL hf ku hw) λcb Ez=>?_;have De:=λD:am=>cG (D:=D) Ez.set;have Sn:=λD:am=>Su D ar Hh f hf w hw;refine fj (VP (D:=D) BH (cE ar) (ly ar f) ku) λes oc d9 aaw cS P=>?_;have fL:=Qe cS P;have fp:=Sg rfl P;have rj:xf [.ap cL,.ref b0,.int (ar:Int),.int (f:Int),.int (ba:Int),.bool sh,.int (s:Int),.int (w:Int),.int (place:Int),.bool (cE ar),.bool (dY ar),eM ar f w,.u,.u,.u,.u,.u,.u,.u,.u,.u,.u,.u,.u,.u,.u,.u,.u,.u,.u,.u,.u,.u,.u,.u,.u,.u,.u,.u,.u,.u,.u,.u,.u] D=some (.nx,[.ap cL,.ref b0,.int (ar:Int),.int (f:Int),.int (ba:Int),.bool sh,.int (s:Int),.int (w:Int),.int (place:Int),.bool (cE ar),.bool (dY ar),eM ar f w,.ap (es.map aH),.u,.u,.u,.u,.u,.u,.u,.u,.u,.u,.u,.u,.u,.u,.u,.u,.u,.u,.u,.u,.u,.u,.u,.u,.u,.u,.u,.u,.u,.u,.u],oc):=by
  unfold xf
  simp! only [De,Sn,d9]
 have KU:Ce [.ap cL,.ref b0,.int (ar:Int),.int (f:Int),.int (ba:Int),.bool sh,.int (s:Int),.int (w:Int),.int (place:Int),.bool (cE ar),.bool (dY ar),eM ar f w,.ap (es.map aH),.u,.u,.u,.u,.u,.u,.u,.u,.u,.u,.u,.u,.u,.u,.u,.u,.u,.u,.u,.u,.u,.u,.u,.u,.u,.u,.u,.u,.u,.u,.u] oc=some (.nx,[.ap cL,.ref b0,.int (ar:Int),.int (f:Int),.int (ba:Int),.bool sh,.int (s:Int),.int (w:Int),.int (place:Int),.bool (cE ar),.bool (dY ar),eM ar f w,.ap (es.map aH),.ap ((List.range es.length).map (eh es)),.u,.u,.u,.u,.u,.u,.u,.u,.u,.u,.u,.u,.u,.u,.u,.u,.u,.u,.u,.u,.u,.u,.u,.u,.u,.u,.u,.u,.u,.u],oc++[az.bB]):=by
  have it:=VE (D:=oc) cS (ag:=[.ap cL,.ref b0,.int (ar:Int),.int (f:Int),.int (ba:Int),.bool sh,.int (s:Int),.int (w:Int),.int (place:Int),.bool (cE ar),.bool (dY ar),eM ar f w,.ap (es.map aH),.u,.u,.u,.u,.u,.u,.u,.u,.u,.u,.u,.u,.u,.u,.u,.u,.u,.u,.u,.u,.u,.u,.u,.u,.u,.u,.u,.u,.u,.u,.u]) fL.sc (by simp! only []) rfl;exact hI it
 have Jl:∀k,sW (cE ar) (eh es k)=if cE ar then (bg es k).1 else (bg es k).2:=λk=>rfl;refine a2 (VD (D:=oc++[az.bB]) (at':=if cE ar then 0 else 1) (pv:=sW (cE ar)) (dn:=km ar) (items:=(List.range es.length).map (eh es)) Ez (λx ax=>by
  refine a2 (List.mem_map.mp ax) λk hk aV=>?_;subst aV;have hk:=List.mem_range.mp hk;refine ⟨λD=>?_,?_,rfl⟩
  .rw [Jl]
   cases cE ar
   .exact mJ (k:=1) rfl
   .exact mJ (k:=0) rfl
  .rw [Jl];exact fp _ (mY hk)) (by simp;exact cS)) λml Ga aav=>?_
 have wS:co (λx=>if km ar then -jz ar f w (sW (cE ar) x) else jz ar f w (sW (cE ar) x)) ((List.range es.length).map (eh es))=(dE es (cE ar) (gJ ar f w)).map (eh es):=by
  unfold dE;exact SE es ar f w _
 rw [wS] at Ga;refine cq (Prod.mk.inj (Hm (oc++[az.bB]) ar Hh)) λ_ BI=>?_;refine cq (Prod.mk.inj BI) λ_ qs=>?_;have fh:∀a b c:V,([a,b,c]:List V).length<=big:=λa b c=>by unfold big;simp
 have m9:Cf [.ap cL,.ref b0,.int (ar:Int),.int (f:Int),.int (ba:Int),.bool sh,.int (s:Int),.int (w:Int),.int (place:Int),.bool (cE ar),.bool (dY ar),eM ar f w,.ap (es.map aH),.ap ((List.range es.length).map (eh es)),.u,.u,.u,.u,.u,.u,.u,.u,.u,.u,.u,.u,.u,.u,.u,.u,.u,.u,.u,.u,.u,.u,.u,.u,.u,.u,.u,.u,.u,.u] (oc++[az.bB])=some (.nx,[.ap cL,.ref b0,.int (ar:Int),.int (f:Int),.int (ba:Int),.bool sh,.int (s:Int),.int (w:Int),.int (place:Int),.bool (cE ar),.bool (dY ar),eM ar f w,.ap (es.map aH),.ap ((dE es (cE ar) (gJ ar f w)).map (eh es)),.u,.u,.u,.u,.u,.u,.u,.u,.u,.u,.u,.u,.u,.u,.u,.u,.u,.u,.u,.u,.u,.u,.u,.u,.u,.u,.u,.u,.u,.u],ml):=by
  have lO:H (G 13) (H (G 11) (H (cn (a' (G 9)) (ab (.int 0)) (ab (.int 1))) (H (aM fq (G 2) (bM (H (ab (.int 1)) (H (ab (.int 3)) (H (ab (.int 5)) aa))))) aa))) [.ap cL,.ref b0,.int (ar:Int),.int (f:Int),.int (ba:Int),.bool sh,.int (s:Int),.int (w:Int),.int (place:Int),.bool (cE ar),.bool (dY ar),eM ar f w,.ap (es.map aH),.ap ((List.range es.length).map (eh es)),.u,.u,.u,.u,.u,.u,.u,.u,.u,.u,.u,.u,.u,.u,.u,.u,.u,.u,.u,.u,.u,.u,.u,.u,.u,.u,.u,.u,.u,.u] (oc++[az.bB])=some ([.ap ((List.range es.length).map (eh es)),eM ar f w,.int (if cE ar then 0 else 1),.bool (km ar)],oc++[az.bB]):=by
   cases qj:cE ar
   .simp! only [De,fh,qs]
   .simp! only [De,fh,qs]
  exact hI ((eS lO).trans Ga)
 have OP:=VB (D:=ml) (es:=es) (S:=dE es (cE ar) (gJ ar f w)) (λk hk=>Y4.mp hk) (by rw [Y3];exact cS) fL.sc place (dY ar);have KC:Ca [.ap cL,.ref b0,.int (ar:Int),.int (f:Int),.int (ba:Int),.bool sh,.int (s:Int),.int (w:Int),.int (place:Int),.bool (cE ar),.bool (dY ar),eM ar f w,.ap (es.map aH),.ap ((dE es (cE ar) (gJ ar f w)).map (eh es)),.u,.u,.u,.u,.u,.u,.u,.u,.u,.u,.u,.u,.u,.u,.u,.u,.u,.u,.u,.u,.u,.u,.u,.u,.u,.u,.u,.u,.u,.u] ml=some (.nx,[.ap cL,.ref b0,.int (ar:Int),.int (f:Int),.int (ba:Int),.bool sh,.int (s:Int),.int (w:Int),.int (place:Int),.bool (cE ar),.bool (dY ar),eM ar f w,.ap (es.map aH),.ap ((dE es (cE ar) (gJ ar f w)).map (eh es)),.ap (c' es (dE es (cE ar) (gJ ar f w)) place (dY ar)),.u,.u,.u,.u,.u,.u,.u,.u,.u,.u,.u,.u,.u,.u,.u,.u,.u,.u,.u,.u,.u,.u,.u,.u,.u,.u,.u,.u,.u],ml++[az.bB]):=by
  have lO:H (G 13) (H (G 8) (H (G 10) aa)) [.ap cL,.ref b0,.int (ar:Int),.int (f:Int),.int (ba:Int),.bool sh,.int (s:Int),.int (w:Int),.int (place:Int),.bool (cE ar),.bool (dY ar),eM ar f w,.ap (es.map aH),.ap ((dE es (cE ar) (gJ ar f w)).map (eh es)),.u,.u,.u,.u,.u,.u,.u,.u,.u,.u,.u,.u,.u,.u,.u,.u,.u,.u,.u,.u,.u,.u,.u,.u,.u,.u,.u,.u,.u,.u] ml=some ([.ap ((dE es (cE ar) (gJ ar f w)).map (eh es)),.int (place:Int),.bool (dY ar)],ml):=by simp! only []
  exact hI ((eS lO).trans OP)
 refine rh (Vt (D:=ml++[az.bB]) cS fL.sc fL.kb fL.cX place) λai o R nv Ed A bD JP nx own ji=>?_;have KD:Cb [.ap cL,.ref b0,.int (ar:Int),.int (f:Int),.int (ba:Int),.bool sh,.int (s:Int),.int (w:Int),.int (place:Int),.bool (cE ar),.bool (dY ar),eM ar f w,.ap (es.map aH),.ap ((dE es (cE ar) (gJ ar f w)).map (eh es)),.ap (c' es (dE es (cE ar) (gJ ar f w)) place (dY ar)),.u,.u,.u,.u,.u,.u,.u,.u,.u,.u,.u,.u,.u,.u,.u,.u,.u,.u,.u,.u,.u,.u,.u,.u,.u,.u,.u,.u,.u] (ml++[az.bB])=some (.nx,[.ap cL,.ref b0,.int (ar:Int),.int (f:Int),.int (ba:Int),.bool sh,.int (s:Int),.int (w:Int),.int (place:Int),.bool (cE ar),.bool (dY ar),eM ar f w,.ap (es.map aH),.ap ((dE es (cE ar) (gJ ar f w)).map (eh es)),.ap (c' es (dE es (cE ar) (gJ ar f w)) place (dY ar)),.ref o.a,.u,.u,.u,.u,.u,.u,.u,.u,.u,.u,.u,.u,.u,.u,.u,.u,.u,.u,.u,.u,.u,.u,.u,.u,.u,.u,.u,.u],ai):=by
  have lO:∀d:V,H (G 12) (H (G 8) aa) [.ap cL,.ref b0,.int (ar:Int),.int (f:Int),.int (ba:Int),.bool sh,.int (s:Int),.int (w:Int),.int (place:Int),.bool (cE ar),.bool (dY ar),eM ar f w,.ap (es.map aH),.ap ((dE es (cE ar) (gJ ar f w)).map (eh es)),d,.u,.u,.u,.u,.u,.u,.u,.u,.u,.u,.u,.u,.u,.u,.u,.u,.u,.u,.u,.u,.u,.u,.u,.u,.u,.u,.u,.u,.u] (ml++[az.bB])=some ([.ap (es.map aH),.int (place:Int)],ml++[az.bB]):=λd=>by simp! only []
  exact hI ((eS (lO _)).trans nv)
 exact ⟨es,_,ml++[az.bB],ai,o,R,fL,fp,Ed,A,bD,JP,nx,ji,λfJ=>by rw [aF rj,aF KU,aF m9,aF KC,aF KD]⟩
theorem Sf {ar f ba:Nat} (gL:ar < 11) (hf:f∈List.range 8) (ku:ba∈List.range 2) (dD:¬(ar=6\/ar=7\/ar=8)):pO (mX ar f) (hp ar f ba):=by
 have GS:=List.mem_range.mp hf
 by_cases aw:ar < 6/\(f=0\/f=6)
 .have bN:hp ar f ba=(if cE ar then kc true true ba else kf false true ba):=by unfold hp ly;rw [decide_eq_true aw];rfl
  rw [bN];exact .inr (Es ku)
 .have bN:hp ar f ba=b4:=by unfold hp ly;rw [decide_eq_false aw];rfl
  refine .inl ⟨?_,bN⟩;unfold mX jh
  by_cases lR:ar=9
  .rw [if_pos lR];lia
  .rw [if_neg lR]
   by_cases nA:ar=10
   .rw [if_pos nA];lia
   .rw [if_neg nA];have:¬(f=0\/f=6):=λq=>aw ⟨by lia,q⟩;rcases (show f=1\/f=7\/f=2\/f=3\/f=4\/f=5 by lia) with rfl | rfl | rfl | rfl | rfl | rfl <;> decide
theorem V2 (ar f:Nat):oi (mX ar f):=by
 unfold mX
 by_cases lR:ar=9
 .rw [if_pos lR];unfold oi;lia
 .rw [if_neg lR]
  by_cases nA:ar=10
  .rw [if_pos nA];unfold oi;lia
  .rw [if_neg nA];exact V3 f
theorem T5 {c:fu} {ar f ba w s:Nat} (C:j8 c) (gL:ar < 11) (hf:f∈List.range 8) (ku:ba∈List.range 2) (hw:w∈List.range 4) (hs:s∈List.range 4) (fL:tu c.es) (qj:c.bk=cE ar) (wR:c.rn=dY ar) (cr:c.g=gJ ar f w) (fp:c.L=hp ar f ba):Run c ar f w s:=by
 refine ⟨C,gL,hf,wR,fL.asc,fL.kb,Wn C.cS C.hs C.aA C.q,λb1 N o R D Q S d3=>?_⟩
 by_cases dD:ar=6\/ar=7\/ar=8
 .have av:s9 ar f w s=fc w s c.bk (mS ar):=by unfold s9;rw [if_pos dD,qj]
  have aC:c.L=b4:=by rw [fp];unfold hp ly;rw [decide_eq_false (by lia)];rfl
  have bN:c.g=λv=>ct w v:=by
   rw [cr]
   funext v
   unfold gJ jz;rw [if_pos dD];have:km ar=false:=by unfold km;rw [decide_eq_false (by lia)]
   rw [this];rfl
  have du:(mS ar).length<=10:=by unfold mS;split <;> (try split) <;> simp
  refine kW (ZH C Q S hw hs du (by unfold big;lia) aC bN) λal a4 bV e K=>?_;have fo:(if 2<=b1.length/\s=1 then N++[iQ (mS ar)] else N)=kH c.es.length ar s N:=by
   unfold kH;rw [Q.len]
   by_cases q:2<=c.es.length/\s=1
   .rw [if_pos q,if_pos ⟨q.1,dD,q.2⟩]
   .rw [if_neg q,if_neg (λz=>q ⟨z.1,z.2.2⟩)]
  rw [fo] at K;rw [av];exact ⟨al,a4,bV,e,K⟩
 .have av:s9 ar f w s=hU (mX ar f) c.bk (km ar):=by
   unfold s9 mX;rw [if_neg dD,qj]
   by_cases lR:ar=9
   .subst lR;rfl
   .rw [if_neg lR,if_neg lR]
    by_cases nA:ar=10
    .subst nA;rfl
    .rw [if_neg nA,if_neg nA]
  have bN:c.g=λv=>if km ar then -cO (mX ar f) v else cO (mX ar f) v:=by
   rw [cr]
   funext v
   unfold gJ jz;rw [if_neg dD]
  refine kW (ZG (dn:=km ar) C Q S (V2 ar f) (by rw [fp];exact Sf gL hf ku dD) bN) λal a4 bV e K=>?_;have fo:N=kH c.es.length ar s N:=by
   unfold kH;rw [if_neg (λz=>dD z.2.1)]
  rw [<- fo];rw [av];exact ⟨al,a4,bV,e,K⟩
structure tE (c:fu) (o0:ee) (cy:d6) (sh:Bool) (mm k:Nat) (N:List V) (fI:ee) (i7:d6) (D:am):Prop where
 dg:gE c N (if k=0 then c.ps else c.c6) fI i7 D
 mm:D[mm]? =some (.list N)
 cS:N.length<=k
 msg:∀x∈N,∃nm,x=iQ nm/\asc nm=true
 nx:i7.next=iR c.es\/i7.next=na c
 arr:a8 D o0 cy
 good:Good D cy c.ps
 tm:k=0->fI=o0/\i7=cy
 hK:0 < k->i7.sh=false/\(sh=true->∀j,cR fI j->c.T<=j)
theorem YY {c:fu} {N:List V} {b1:List (V×V)} {o o0:ee} {R cy:d6} (C:j8 c) (bD:Good D cy c.ps) (S:gE c N b1 o R al):SL al cy.vs:=λv aI=>by
 by_cases a3:v=.hole
 .subst a3;exact .inr (.inl rfl)
 .refine a2 (oE bD aI a3) λp aw aV=>?_;subst aV;refine a2 (C.q.slot p aw) λi aJ e=>?_;rw [e];unfold slotAt
  by_cases q:i=c.place
  .rw [if_pos q];refine a2 (S.ref (by lia)) λk _ aC=>?_;exact .inr (.inr ⟨_,_,rfl,aC⟩)
  .rw [if_neg q];exact .inl (pj C.hs i).2
theorem Tk {c:fu} {ar f w s mm:Nat} {o0:ee} {cy:d6} {sh:Bool} (Z:Run c ar f w s) (QV:cy.sh=sh) (oK:∀j,cR o0 j->j < c.B) (aj:c.B<=mm/\mm < c.T) (ao:mm≠c.nn) {fI:ee} {i7:d6} (gU:tE c o0 cy sh mm 0 [] fI i7 D) {x0 x1 x3 x4 x5 x7 x8 x9 x11 x13 x15 x16 x22 x23:V}:
  ∃al DF DG N fI i7,e7 (ak dX (H (ab (.int 2)) aa)) (cx 22) uK 100 (eo x0 x1 ar x3 x4 x5 s x7 x8 x9 c.rn x11 c.es x13 (c' c.es (dE c.es c.bk c.g) c.place c.rn) x15 x16 (eG c.es c.place c.r0) c.h c.hh (em ar f w s) mm x22 x23) D=some (.nx,eo x0 x1 ar x3 x4 x5 s x7 x8 x9 c.rn x11 c.es x13 (c' c.es (dE c.es c.bk c.g) c.place c.rn) x15 x16 (eG c.es c.place c.r0) c.h c.hh (em ar f w s) mm DF DG,al)/\tE c o0 cy sh mm 2 N fI i7 al:=by
 have C:=Z.ok;refine fZ (kr (v:=.de 0 ((2:Nat):Int) 1) (l:=gO 2) (g:=cx 22) (f:=uK)
  (λk ag ai=>(∃x22 x23,ag=eo x0 x1 ar x3 x4 x5 s x7 x8 x9 c.rn x11 c.es x13 (c' c.es (dE c.es c.bk c.g) c.place c.rn) x15 x16 (eG c.es c.place c.r0) c.h c.hh (em ar f w s) mm x22 x23)/\∃N fI i7,tE c o0 cy sh mm k N fI i7 ai)
  (λk ag ai _=>qO 2 ai k) (λk x ag ai dv ax=>by
   revert dv;refine gT λbd ci=>?_;revert bd;refine mo λaa0 Kr aV=>?_;subst aV;revert ci;refine ro λN fI i7 I=>?_;have cY:=(List.getElem?_eq_some_iff.mp ax).1;rw [jA] at cY;have qg:c.iB (if k=0 then c.ps else c.c6):=by
    by_cases q:k=0
    .rw [if_pos q];exact C.q
    .rw [if_neg q];exact Z.c6
   refine DY (Tn Z qg I.dg I.mm aj ao (by have:=I.cS;lia) I.nx (x0:=x0) (x1:=x1) (x3:=x3) (x4:=x4) (x5:=x5) (x7:=x7) (x8:=x8) (x9:=x9) (x11:=x11) (x13:=x13) (x15:=x15) (x16:=x16) (x22:=x) (x23:=Kr)) λaY a4 bV e c8 jX xH JO CX qZ=>?_;refine ⟨eo x0 x1 ar x3 x4 x5 s x7 x8 x9 c.rn x11 c.es x13 (c' c.es (dE c.es c.bk c.g) c.place c.rn) x15 x16 (eG c.es c.place c.r0) c.h c.hh (em ar f w s) mm x Kr,_,aY,rfl,e,⟨_,_,rfl⟩,_,a4,bV,⟨c8,jX,?_,?_,.inr xH,?_,I.good.re (YY (o0:=o0) C I.good c8),λq=>by lia,λ_=>⟨JO,λhs j aX=>?_⟩⟩⟩
   .have:=I.cS;unfold kH;split
    .rw [List.length_append,List.length_singleton];lia
    .lia
   .intro y dr;unfold kH at dr;split at dr
    .rcases List.mem_append.mp dr with h | h
     .exact I.msg y h
     .rw [List.mem_singleton] at h;refine ⟨_,h,?_⟩;unfold mS;split
      .rfl
      .split <;> rfl
    .exact I.msg y dr
   .refine qZ.arr I.arr (λj aX=>hr.refs (I.dg.s2 C qg) j aX) λj aX w=>?_;have b:=oK j aX;have:=C.nn;have:=C.h;lia
   .have ln:=I.dg.ln;rcases CX j aX with q | ⟨c6,dt⟩
    .lia
    .by_cases hk:k=0
     .refine cq (I.tm hk) λ_ aC=>?_;rw [aC,QV,hs] at c6;cases c6
     .exact (I.hK (by lia)).2 hs j dt) 100 0 (by rw [jA];lia) (Nat.zero_le _) _ D ⟨⟨x22,x23,rfl⟩,[],fI,i7,gU⟩) λbX al e dh ci=>?_;revert dh;refine mo λDF DG aV=>?_;subst aV;revert ci;refine ro λN U5 LH I=>?_
 rw [jA] at I;exact ⟨al,DF,DG,N,U5,LH,ja (v:=.de 0 ((2:Nat):Int) 1) (ai:=D) rfl (qu (by lia)) e,I⟩
theorem YG {es:List (V×V)} {place r0:Nat} (hs:∀p∈es,ck p.1=true/\ck p.2=true) (iK:∀k,gn (bg es k).1=true/\gn (bg es k).2=true):∀x∈dQ (fe (bg es place).2) (cA es place r0),∃k v b,x=h4 k v b/\gn k=true/\gn v=true:=λx ax=>by
 unfold dQ at ax;refine a2 (List.mem_map.mp ax) λp aw aV=>?_;subst aV;refine a2 (qU aw) λi aJ aV=>?_;subst aV;refine ⟨_,_,_,rfl,(iK i).1,?_⟩;have:=tl (place:=place) (r0:=r0) hs i;show gn (fe (bg es place).2 (slotAt es place r0 i))=true;rw [this];exact (iK i).2
theorem JY (D:am):∀w∈List.range 4,jR [.int (w:Int)] D=some (.str [48+w],D):=by
 have:((List.range 4).map λ(w:Nat)=>jR [.int (w:Int)] D)=((List.range 4).map λ(w:Nat)=>some (.str [48+w],D)):=by rfl'
 exact List.map_inj_left.mp this
theorem GC (D g:am) (x:az) (k:Nat):(D++(x::g))[D.length+(k+1)]? =g[k]? :=by
 rw [List.getElem?_append_right (by lia),show D.length+(k+1) - D.length=k+1 by lia];rfl
theorem Ti {o:ee} {R:d6} {es:List (V×V)} {place ar f s w r0:Nat} {xU:V} {sh:Bool} {x0 x1 x4 x13 x14:V} (A:a8 D o R) (bD:Good D R (cA es place r0)) (fL:tu es) (ji:place < es.length->D[r0]? =some (.inst 181 [(bg es place).2,.int 2,xU])) (gL:ar < 11) (hf:f∈List.range 8) (hw:w∈List.range 4) (hs:s∈List.range 4) {x9 x10 x11:V}:
  ∃(a6 e8:am),Fr (cR o) D a6/\a8 a6 o {R with sh:=sh}/\Good a6 {R with sh:=sh} (cA es place r0)/\Fr dx a6 e8/\D.length<=a6.length/\
   e8[a6.length]? =some (.inst 181 [.ref o.a,.int 0,.ref (a6.length+1)])/\mr e8 (a6.length+2) (a6.length+3) (hg (a6.length+2))/\e8[a6.length+9]? =some (.list [])/\e8[a6.length+17]? =some (.list [])/\e8.length=a6.length+18/\
   ∀fJ:aU,af w6 (af w7 (af w8 (af w9 (af w' (af xa fJ))))) [x0,x1,.int (ar:Int),.int (f:Int),x4,.bool sh,.int (s:Int),.int (w:Int),.int (place:Int),x9,x10,x11,.ap (es.map aH),x13,x14,.ref o.a,.u,.u,.u,.u,.u,.u,.u,.u,.u,.u,.u,.u,.u,.u,.u,.u,.u,.u,.u,.u,.u,.u,.u,.u,.u,.u,.u,.u] D=
    fJ [x0,x1,.int (ar:Int),.int (f:Int),x4,.bool sh,.int (s:Int),.int (w:Int),.int (place:Int),x9,x10,x11,.ap (es.map aH),x13,x14,.ref o.a,.ap (dQ (fe (bg es place).2) (cA es place r0)),.ap (eG es place r0),.ref a6.length,.ref (a6.length+2),.ap [.ref a6.length,em ar f w s],.ref (a6.length+17),.u,.u,.u,.u,.u,.u,.u,.u,.u,.u,.u,.u,.u,.u,.u,.u,.u,.u,.u,.u,.u,.u] e8:=by
 have fh:∀a b c:V,([a,b,c]:List V).length<=big:=λa b c=>by unfold big;simp
 have sg:∀a b:V,([a,b]:List V).length<=big:=λa b=>by unfold big;simp
 have b0:([]:List V).length<=big:=Nat.zero_le _;have DS:w6 [x0,x1,.int (ar:Int),.int (f:Int),x4,.bool sh,.int (s:Int),.int (w:Int),.int (place:Int),x9,x10,x11,.ap (es.map aH),x13,x14,.ref o.a,.u,.u,.u,.u,.u,.u,.u,.u,.u,.u,.u,.u,.u,.u,.u,.u,.u,.u,.u,.u,.u,.u,.u,.u,.u,.u,.u,.u] D=some (.nx,[x0,x1,.int (ar:Int),.int (f:Int),x4,.bool sh,.int (s:Int),.int (w:Int),.int (place:Int),x9,x10,x11,.ap (es.map aH),x13,x14,.ref o.a,.u,.u,.u,.u,.u,.u,.u,.u,.u,.u,.u,.u,.u,.u,.u,.u,.u,.u,.u,.u,.u,.u,.u,.u,.u,.u,.u,.u],D.set o.a (cf o {R with sh:=sh})):=by
  unfold w6
  simp! only [A.JB]
 have cu:a8 (D.set o.a (cf o {R with sh:=sh})) o {R with sh:=sh}:=A.mb R.pk R.size R.count R.next R.at_ sh;have e1:Fr (cR o) D (D.set o.a (cf o {R with sh:=sh})):=Fr.set _ _ _ (.inl rfl);have jL:Good (D.set o.a (cf o {R with sh:=sh})) {R with sh:=sh} (cA es place r0):=⟨bD.cnt,bD.nj,bD.key,λv aI=>iZ (bD.slot v aI) e1 A.iS,bD.cS,bD.pack,bD.hash⟩;have Jt:place < es.length->(D.set o.a (cf o {R with sh:=sh}))[r0]? =some (.inst 181 [(bg es place).2,.int 2,xU]):=λq=>e1.at (ji q) λw=>A.iS _ _ (ji q) w;have iO:(D.set o.a (cf o {R with sh:=sh})).length=D.length:=by simp
 generalize D.set o.a (cf o {R with sh:=sh})=ai at DS cu e1 jL Jt iO;have I:i4 ai.length (fe (bg es place).2) (cA es place r0) ai:=λp aw=>by
  refine a2 (qU aw) λi aJ aV=>?_;subst aV;show iC _ _ (slotAt es place r0 i) (fe (bg es place).2 (slotAt es place r0 i));rw [tl fL.sc i];have sc:=(pj fL.sc i).2
  by_cases q:i=place
  .subst q;have e:=Jt aJ;exact .inr ⟨r0,_,by unfold slotAt;rw [if_pos rfl],e,sc,fQ e⟩
  .have:slotAt es place r0 i=(bg es i).2:=by unfold slotAt;rw [if_neg q]
   rw [this];exact .inl ⟨sc,rfl⟩
 refine a2 (C2 cu jL I (Nat.le_refl _)) λaY aC eR=>?_;have dK:=cu.fr eR λ_ _ w=>w;have jk:Good aY {R with sh:=sh} (cA es place r0):=jL.re λv aI=>iZ (jL.slot v aI) eR λ_ _ _ w=>w;have gB:i4 ai.length (fe (bg es place).2) (cA es place r0) aY:=λp aw=>(I p aw).fr eR λ_ _ _ w=>w.elim;refine a2 (IU dK jk gB) λa6 bN gm=>?_;rw [Wx fL.sc] at bN;have eP:=dK.fr gm λ_ _ w=>w;have tA:Good a6 {R with sh:=sh} (cA es place r0):=jk.re λv aI=>iZ (jk.slot v aI) gm λ_ _ _ w=>w;have KE:w7 [x0,x1,.int (ar:Int),.int (f:Int),x4,.bool sh,.int (s:Int),.int (w:Int),.int (place:Int),x9,x10,x11,.ap (es.map aH),x13,x14,.ref o.a,.u,.u,.u,.u,.u,.u,.u,.u,.u,.u,.u,.u,.u,.u,.u,.u,.u,.u,.u,.u,.u,.u,.u,.u,.u,.u,.u,.u] ai=some (.nx,[x0,x1,.int (ar:Int),.int (f:Int),x4,.bool sh,.int (s:Int),.int (w:Int),.int (place:Int),x9,x10,x11,.ap (es.map aH),x13,x14,.ref o.a,.ap (dQ (fe (bg es place).2) (cA es place r0)),.ap (eG es place r0),.u,.u,.u,.u,.u,.u,.u,.u,.u,.u,.u,.u,.u,.u,.u,.u,.u,.u,.u,.u,.u,.u,.u,.u,.u,.u],a6):=by
  unfold w7
  simp! only [aC,bN,sg] <;> rfl
 have du:=IC (v:=.ref o.a) rfl a6;have HJ:(a6++[az.inst 181 [.ref o.a,.int 0,.ref (a6.length+1)],az.list []]).length=a6.length+2:=by simp
 have t8:(a6++[az.inst 181 [.ref o.a,.int 0,.ref (a6.length+1)],az.list []])[a6.length]? =some (.inst 181 [.ref o.a,.int 0,.ref (a6.length+1)]):=qd _ _ _;have i2:Fr dx a6 (a6++[az.inst 181 [.ref o.a,.int 0,.ref (a6.length+1)],az.list []]):=Fr.app _ _;generalize (a6++[az.inst 181 [.ref o.a,.int 0,.ref (a6.length+1)],az.list []]:am)=bQ at du HJ t8 i2;have fo:=λag=>Vp ag bQ;have DT:w8 [x0,x1,.int (ar:Int),.int (f:Int),x4,.bool sh,.int (s:Int),.int (w:Int),.int (place:Int),x9,x10,x11,.ap (es.map aH),x13,x14,.ref o.a,.ap (dQ (fe (bg es place).2) (cA es place r0)),.ap (eG es place r0),.u,.u,.u,.u,.u,.u,.u,.u,.u,.u,.u,.u,.u,.u,.u,.u,.u,.u,.u,.u,.u,.u,.u,.u,.u,.u] a6=some (.nx,[x0,x1,.int (ar:Int),.int (f:Int),x4,.bool sh,.int (s:Int),.int (w:Int),.int (place:Int),x9,x10,x11,.ap (es.map aH),x13,x14,.ref o.a,.ap (dQ (fe (bg es place).2) (cA es place r0)),.ap (eG es place r0),.ref a6.length,.ref bQ.length,.u,.u,.u,.u,.u,.u,.u,.u,.u,.u,.u,.u,.u,.u,.u,.u,.u,.u,.u,.u,.u,.u,.u,.u],bQ++(.inst 922 (hg bQ.length)::fg bQ.length)):=by
  have y:ak (dO 181 lp) (H (G 15) aa) [x0,x1,.int (ar:Int),.int (f:Int),x4,.bool sh,.int (s:Int),.int (w:Int),.int (place:Int),x9,x10,x11,.ap (es.map aH),x13,x14,.ref o.a,.ap (dQ (fe (bg es place).2) (cA es place r0)),.ap (eG es place r0),.u,.u,.u,.u,.u,.u,.u,.u,.u,.u,.u,.u,.u,.u,.u,.u,.u,.u,.u,.u,.u,.u,.u,.u,.u,.u] a6=some (.ref a6.length,bQ):=by
   refine (eS (l:=[.ref o.a]) (ai:=a6) ?_).trans du
   simp! only []
  unfold w8;simp only [eB,bM,H,aa,y,fo,Option.bind_some,Option.map_some,sg,if_true]
  rfl
 have mq:Fr dx bQ (bQ++(.inst 922 (hg bQ.length)::fg bQ.length)):=Fr.app _ _;have t9:(bQ++(.inst 922 (hg bQ.length)::fg bQ.length))[bQ.length]? =some (.inst 922 (hg bQ.length)):=qd _ _ _;have AT:(bQ++(.inst 922 (hg bQ.length)::fg bQ.length))[bQ.length+1]? =some (.dict []):=GC bQ _ _ 0;have GG:(bQ++(.inst 922 (hg bQ.length)::fg bQ.length))[bQ.length+7]? =some (.list []):=GC bQ _ _ 6;have w3:(bQ++(.inst 922 (hg bQ.length)::fg bQ.length)).length=bQ.length+15:=by simp [fg,qb]
 generalize (bQ++(az.inst 922 (hg bQ.length)::fg bQ.length):am)=dZ at DT mq t9 AT GG w3;have Dj:po dZ (.ref (bQ.length+1)) (.str [99,97,108,108]) (.con (.ref 1030))=some (dZ.set (bQ.length+1) (.dict [(i',.con (.ref 1030))])):=by
  have:([]:List (V×V)).length+1<=big:=by unfold big;simp
  simp only [po,rO AT,je,Option.bind_some,this,if_true]
  rfl
 have f0:fld 922 0 dZ (.ref bQ.length)=some (.ref (bQ.length+1)):=gq t9 rfl rfl;have DU:w9 [x0,x1,.int (ar:Int),.int (f:Int),x4,.bool sh,.int (s:Int),.int (w:Int),.int (place:Int),x9,x10,x11,.ap (es.map aH),x13,x14,.ref o.a,.ap (dQ (fe (bg es place).2) (cA es place r0)),.ap (eG es place r0),.ref a6.length,.ref bQ.length,.u,.u,.u,.u,.u,.u,.u,.u,.u,.u,.u,.u,.u,.u,.u,.u,.u,.u,.u,.u,.u,.u,.u,.u] dZ=some (.nx,[x0,x1,.int (ar:Int),.int (f:Int),x4,.bool sh,.int (s:Int),.int (w:Int),.int (place:Int),x9,x10,x11,.ap (es.map aH),x13,x14,.ref o.a,.ap (dQ (fe (bg es place).2) (cA es place r0)),.ap (eG es place r0),.ref a6.length,.ref bQ.length,.u,.u,.u,.u,.u,.u,.u,.u,.u,.u,.u,.u,.u,.u,.u,.u,.u,.u,.u,.u,.u,.u,.u,.u],dZ.set (bQ.length+1) (.dict [(i',.con (.ref 1030))])):=by
  unfold w9;simp only [kP,ab,aN,ff,List.getElem?_cons_succ,List.getElem?_cons_zero,Option.bind_some,ir,f0,Option.map_some,Dj]
 have tC:mr (dZ.set (bQ.length+1) (.dict [(i',.con (.ref 1030))])) bQ.length (bQ.length+1) (hg bQ.length):=⟨(cK (by lia)).trans t9,rfl,rfl,gh AT⟩;have sK:(dZ.set (bQ.length+1) (.dict [(i',.con (.ref 1030))]))[bQ.length+7]? =some (.list []):=(cK (by lia)).trans GG;have jS:(dZ.set (bQ.length+1) (.dict [(i',.con (.ref 1030))]))[a6.length]? =some (.inst 181 [.ref o.a,.int 0,.ref (a6.length+1)]):=(cK (by lia)).trans (mq.at t8 λw=>w);have pM:Fr dx bQ (dZ.set (bQ.length+1) (.dict [(i',.con (.ref 1030))])):=mq.trans (Fr.set (W:=λj=>j=bQ.length+1) _ _ _ rfl) (λ_ w=>w) λj aX w=>by lia
 have w4:(dZ.set (bQ.length+1) (.dict [(i',.con (.ref 1030))])).length=bQ.length+15:=by rw [List.length_set,w3]
 generalize dZ.set (bQ.length+1) (az.dict [(i',.con (.ref 1030))])=dJ at DU tC sK jS pM w4;have fv:=(Prod.mk.inj (IH dJ f hf)).1;have wV:=Hk dJ ar (List.mem_range.mpr gL);have s1:=JY dJ w hw;have s2:=JY dJ s hs;have Te:([48+w]:List Nat).length+([48+s]:List Nat).length<=big:=by unfold big;simp
 have KG:w' [x0,x1,.int (ar:Int),.int (f:Int),x4,.bool sh,.int (s:Int),.int (w:Int),.int (place:Int),x9,x10,x11,.ap (es.map aH),x13,x14,.ref o.a,.ap (dQ (fe (bg es place).2) (cA es place r0)),.ap (eG es place r0),.ref a6.length,.ref bQ.length,.u,.u,.u,.u,.u,.u,.u,.u,.u,.u,.u,.u,.u,.u,.u,.u,.u,.u,.u,.u,.u,.u,.u,.u] dJ=some (.nx,[x0,x1,.int (ar:Int),.int (f:Int),x4,.bool sh,.int (s:Int),.int (w:Int),.int (place:Int),x9,x10,x11,.ap (es.map aH),x13,x14,.ref o.a,.ap (dQ (fe (bg es place).2) (cA es place r0)),.ap (eG es place r0),.ref a6.length,.ref bQ.length,.ap [.ref a6.length,em ar f w s],.u,.u,.u,.u,.u,.u,.u,.u,.u,.u,.u,.u,.u,.u,.u,.u,.u,.u,.u,.u,.u,.u,.u],dJ):=by
  unfold w'
  by_cases dD:ar=6\/ar=7\/ar=8
  .rw [decide_eq_true dD] at wV;have:em ar f w s=fl w s:=by unfold em;rw [if_pos dD]
   rw [this]
   simp! only [fh,sg,wV,s1,s2,Te] <;> rfl
  .rw [decide_eq_false dD] at wV;have:em ar f w s=.int (fA f):=by unfold em;rw [if_neg dD]
   rw [this]
   simp! only [fh,sg,wV,fv]
 have DV:xa [x0,x1,.int (ar:Int),.int (f:Int),x4,.bool sh,.int (s:Int),.int (w:Int),.int (place:Int),x9,x10,x11,.ap (es.map aH),x13,x14,.ref o.a,.ap (dQ (fe (bg es place).2) (cA es place r0)),.ap (eG es place r0),.ref a6.length,.ref bQ.length,.ap [.ref a6.length,em ar f w s],.u,.u,.u,.u,.u,.u,.u,.u,.u,.u,.u,.u,.u,.u,.u,.u,.u,.u,.u,.u,.u,.u,.u] dJ=some (.nx,[x0,x1,.int (ar:Int),.int (f:Int),x4,.bool sh,.int (s:Int),.int (w:Int),.int (place:Int),x9,x10,x11,.ap (es.map aH),x13,x14,.ref o.a,.ap (dQ (fe (bg es place).2) (cA es place r0)),.ap (eG es place r0),.ref a6.length,.ref bQ.length,.ap [.ref a6.length,em ar f w s],.ref dJ.length,.u,.u,.u,.u,.u,.u,.u,.u,.u,.u,.u,.u,.u,.u,.u,.u,.u,.u,.u,.u,.u,.u],dJ++[az.list []]):=by
  unfold xa
  simp! only [b0]
 rw [w4] at DV;rw [HJ] at *;refine ⟨a6,dJ++[az.list []],(e1.t (eR.wide λ_ _ w=>w.elim)).t (gm.wide λ_ _ w=>w.elim),eP,tA,(i2.t pM).t (Fr.app _ _),?_,jq _ jS,⟨jq _ tC.i,tC.f0,tC.gZ,jq _ tC.d⟩,jq _ sK,?_,?_,λfJ=>by
  rw [aF DS,aF KE,aF DT,aF DU,aF KG,aF DV]⟩
 .have:=eR.1;have:=gm.1;lia
 .have:=eL dJ (.list []);rw [w4] at this;exact this
 .simp [w4]
theorem WH (ar:Nat) (h:dY ar=true):cE ar=false:=by
 unfold dY at h;unfold cE;have:=of_decide_eq_true h;rw [decide_eq_false];lia
theorem gE.Sd {c:fu} {N:List V} {b1:List (V×V)} {o:ee} {R:d6} (C:j8 c) (S:gE c N b1 o R D):i4 c.B c.ca c.ps D:=λp aw=>by
 refine a2 (qU aw) λi aJ aV=>?_;subst aV;show iC _ _ (slotAt c.es c.place c.r0 i) (fe (bg c.es c.place).2 (slotAt c.es c.place c.r0 i));rw [tl C.hs i];have sc:=(pj C.hs i).2
 by_cases q:i=c.place
 .subst q;refine a2 (S.ref aJ) λk _ e=>?_;exact .inr ⟨c.r0,_,by unfold slotAt;rw [if_pos rfl],e,sc,C.r0 aJ⟩
 .have:slotAt c.es c.place c.r0 i=(bg c.es i).2:=by unfold slotAt;rw [if_neg q]
  rw [this];exact .inl ⟨sc,rfl⟩
theorem Kb {t a b:dp} {ag:List V} {ai:am} (h:t ag D=some (true,ai)):gP t a b ag D=a ag ai:=by simp only [gP,h,Option.bind_some,if_true]
theorem vj {t a b:dp} {ag:List V} {ai:am} (h:t ag D=some (false,ai)):gP t a b ag D=b ag ai:=by simp only [gP,h,Option.bind_some,Bool.false_eq_true,if_false]
theorem HU {j:Nat} {C:Nat} {fs:List V} (e:D[j]? =some (.inst C fs)):mL D j=true:=by unfold mL;rw [e];rfl
theorem Tj {c:fu} {o:ee} {R:d6} {sh:Bool} {mm s ar:Nat} {N:List V} {fI:ee} {i7:d6} (C:j8 c) (fL:tu c.es) (I:tE c o R sh mm 2 N fI i7 D) (oK:∀j,cR o j->j < c.B) {x0 x1 x3 x4 x7 x8 x9 x11 x13 x22 x23 X:V} {due refs:List V} {rn:Bool}:
  ∃al,outF (af uQ (af Cd aq) (eo x0 x1 ar x3 x4 (.bool sh) s x7 x8 x9 rn x11 c.es x13 due (.ref o.a) (.ap (dQ c.ca c.ps)) refs c.h c.hh X mm x22 x23) D)=some (.bool true,al):=by
 have b0:([]:List V).length<=big:=Nat.zero_le _;have key:∃al,uQ (eo x0 x1 ar x3 x4 (.bool sh) s x7 x8 x9 rn x11 c.es x13 due (.ref o.a) (.ap (dQ c.ca c.ps)) refs c.h c.hh X mm x22 x23) D=some (.nx,eo x0 x1 ar x3 x4 (.bool sh) s x7 x8 x9 rn x11 c.es x13 due (.ref o.a) (.ap (dQ c.ca c.ps)) refs c.h c.hh X mm x22 x23,al)/\Fr dx D al:=by
  cases sh with
  | false=>
   refine ⟨D,?_,Fr.refl D⟩;unfold uQ;exact (ch (ai:=D) rfl).trans rfl
  | true=>
   have oF:c.B<=D.length:=by have:=I.dg.ln;have:=C.h;lia
   refine a2 (C2 I.arr I.good (I.dg.Sd C) oF) λai av e1=>?_;have ne:=H8 (YG (place:=c.place) (r0:=c.r0) fL.sc fL.asc) ai;have fB:ec ai (.ap (dQ c.ca c.ps)) (.ap (dQ c.ca c.ps))=some (.bool false):=ne;have ko:gw ai (.ap (c.es.map aH)) (.ap [])=some (.bool (!(c.es.map aH).isEmpty)):=rfl;have Qr:fld 181 0 ai (.ref c.h)=some (.ref fI.a):=gq (e1.at I.dg.ju λw=>w) rfl rfl;have Uq:iU ai (.ref fI.a) (.ref o.a)=some (.bool false):=by
    have iO:=HU (e1.at I.dg.arr.a λw=>w);have eb:=HU (e1.at I.arr.a λw=>w);have eK:=(I.hK (by lia)).2 rfl fI.a (.inl rfl);have fO:=oK o.a (.inl rfl);have:=C.h;have ne:(fI.a == o.a)=false:=by
     rw [beq_eq_false_iff_ne];lia
    unfold iU;rw [It iO eb,ne];rfl
   have fT:bp (aD gw (G 12) (ef aa)) (bp (aD iU (aN 181 0 (G 18)) (G 15)) bW) (eo x0 x1 ar x3 x4 (.bool true) s x7 x8 x9 rn x11 c.es x13 due (.ref o.a) (.ap (dQ c.ca c.ps)) refs c.h c.hh X mm x22 x23) ai=some (false,ai):=by
    have Zs:aD iU (aN 181 0 (G 18)) (G 15) (eo x0 x1 ar x3 x4 (.bool true) s x7 x8 x9 rn x11 c.es x13 due (.ref o.a) (.ap (dQ c.ca c.ps)) refs c.h c.hh X mm x22 x23) ai=some (false,ai):=by
     simp only [aD,aM,aN,ff,eo,List.getElem?_cons_succ,List.getElem?_cons_zero,Option.bind_some,ir,Qr,Option.map_some,Uq,a',n9]
    have yt:∃b,aD gw (G 12) (ef aa) (eo x0 x1 ar x3 x4 (.bool true) s x7 x8 x9 rn x11 c.es x13 due (.ref o.a) (.ap (dQ c.ca c.ps)) refs c.h c.hh X mm x22 x23) ai=some (b,ai):=by
     refine ⟨!(c.es.map aH).isEmpty,?_⟩;unfold eo
     simp! only [b0,ko]
    revert yt;refine d7 λb yt=>?_
    cases b with
    | false=>exact (vj yt).trans rfl
    | true=>exact (Kb yt).trans ((vj Zs).trans rfl)
   have dW:aD ec (ak lX (H (G 15) aa)) (G 16) (eo x0 x1 ar x3 x4 (.bool true) s x7 x8 x9 rn x11 c.es x13 due (.ref o.a) (.ap (dQ c.ca c.ps)) refs c.h c.hh X mm x22 x23) D=some (false,ai):=by
    have q:fe (bg c.es c.place).2=c.ca:=rfl;unfold eo
    simp! only [av,fB]
   have jE:a' (G 5) (eo x0 x1 ar x3 x4 (.bool true) s x7 x8 x9 rn x11 c.es x13 due (.ref o.a) (.ap (dQ c.ca c.ps)) refs c.h c.hh X mm x22 x23) D=some (true,D):=rfl;refine ⟨ai,?_,e1⟩;unfold uQ;exact (ch ((Kb jE).trans ((vj ((vj dW).trans ((vj fT).trans rfl))).trans rfl))).trans rfl
 revert key;refine eQ λai OS e1=>?_;have gH:fld 922 5 ai (.ref c.hh)=some (.ref c.nn):=gq (e1.at I.dg.aG.i λw=>w) C.gH rfl;have wx:=Qc (e1.at I.dg.hF λw=>w) (e1.at I.mm λw=>w) I.msg;have OT:aM oEq (aN 922 5 (G 19)) (G 21) (eo x0 x1 ar x3 x4 (.bool sh) s x7 x8 x9 rn x11 c.es x13 due (.ref o.a) (.ap (dQ c.ca c.ps)) refs c.h c.hh X mm x22 x23) ai=some (.bool true,ai):=by
  unfold eo
  simp! only [gH,wx]
 refine ⟨ai,?_⟩;rw [aF OS];unfold Cd;rw [b6 (c4 OT)]
 rfl
theorem Tm {xs:List V} (ax:∀x∈xs,∃n,x=V.int n):∃al,Cm [.ap xs] D=some (.bool true,al):=by
 refine KV (Tg (D:=D) ax) λcL n ar f ba sh s w place BH gL hf ku hs hw kx iK=>?_;refine KS (Th (D:=D++[az.list [.int n]]) (b0:=D.length) (s:=s) (place:=place) (sh:=sh) BH gL hf ku hw) λes x13 ix ai o R fL fp Ed A bD JP nx ji oF=>?_;refine KH (Ti (sh:=sh) (x0:=.ap cL) (x1:=.ref D.length) (x4:=.int (ba:Int)) (x13:=x13) (x14:=.ap (c' es (dE es (cE ar) (gJ ar f w)) place (dY ar))) (x9:=.bool (cE ar)) (x10:=.bool (dY ar)) (x11:=eM ar f w) A bD fL ji gL hf hw hs) λa6 e8 gm eP tA rp hZ ju aG a3 aP Tb dC=>?_
 let c:fu:=⟨es,place,ix.length+1,cE ar,dY ar,gJ ar f w,hp ar f ba,a6.length,a6.length+2,a6.length+3,a6.length+9,[.int 0,.ref (a6.length+1)],hg (a6.length+2),.ref (ix.length+2),a6.length,a6.length+18⟩
 have r3:place < es.length->a6[ix.length+1]? =some (.inst 181 [(bg es place).2,.int 2,.ref (ix.length+2)]):=λq=>gm.at (ji q) λw=>A.iS _ _ (ji q) w;have C:j8 c:=⟨fL.cS,fL.sc,WH ar,Wo fL.sc fL.kb fL.cX fp,λq=>fQ (r3 q),⟨Nat.le_refl _,by show a6.length < a6.length+18;lia⟩,⟨by show a6.length<=a6.length+2;lia,by show a6.length+2 < a6.length+18;lia⟩,⟨by show a6.length<=a6.length+3;lia,by show a6.length+3 < a6.length+18;lia⟩,⟨by show a6.length<=a6.length+9;lia,by show a6.length+9 < a6.length+18;lia⟩,by show a6.length≠a6.length+9;lia,rfl,rfl,rfl⟩;have Z:Run c ar f w s:=T5 C gL hf ku hw hs fL rfl rfl rfl rfl;have vL:Good e8 {R with sh:=sh} (cA es place (ix.length+1)):=tA.re λv aI=>iZ (tA.slot v aI) rp λ_ _ _ w=>w;have mn:=eP.fr rp λ_ _ w=>w;have own:∀j,cR o j->j < c.B:=λj w=>eP.lt w;have S:gE c [] c.ps o {R with sh:=sh} e8:=⟨ju,mn,vL,λj aX=>(by
  refine a2 (oE tA aX (λz=>by cases z)) λp aw e=>?_;refine a2 (qU aw) λi aJ aV=>?_;subst aV;have e:slotAt es place (ix.length+1) i=.ref j:=e;unfold slotAt at e
  by_cases q:i=place
  .rw [if_pos q] at e;cases e;exact ⟨rfl,(show place < es.length by rw [<- q];exact aJ)⟩
  .rw [if_neg q] at e;have:=(pj fL.sc i).2;rw [e] at this;cases this),λq=>⟨2,by lia,rp.at (r3 q) λw=>w⟩,aG,a3,λj w=>.inl (own j w),by rw [Tb];exact Nat.le_refl _⟩
 have gU:tE c o {R with sh:=sh} sh (a6.length+17) 0 [] o {R with sh:=sh} e8:=⟨by rw [if_pos rfl];exact S,aP,Nat.le_refl _,λx h=>by simp at h,.inl nx,mn,vL,λ_=>⟨rfl,rfl⟩,λq=>by lia⟩;refine KR (Tk (x0:=.ap cL) (x1:=.ref D.length) (x3:=.int (f:Int)) (x4:=.int (ba:Int)) (x5:=.bool sh) (x7:=.int (w:Int)) (x8:=.int (place:Int)) (x9:=.bool (cE ar)) (x11:=eM ar f w) (x13:=x13) (x15:=.ref o.a) (x16:=.ap (dQ (fe (bg es place).2) (cA es place (ix.length+1)))) (x22:=.u) (x23:=.u) Z rfl own ⟨by show a6.length<=a6.length+17;lia,by show a6.length+17 < a6.length+18;lia⟩ (by show a6.length+17≠a6.length+9;lia) gU) λjI x22 x23 N fI i7 OW gB=>?_;refine cH (Tj (x0:=.ap cL) (x1:=.ref D.length) (x3:=.int (f:Int)) (x4:=.int (ba:Int)) (x7:=.int (w:Int)) (x8:=.int (place:Int)) (x9:=.bool (cE ar)) (x11:=eM ar f w) (x13:=x13) (x22:=x22) (x23:=x23) (X:=em ar f w s) (due:=c' es (dE es (cE ar) (gJ ar f w)) place (dY ar)) (refs:=eG es place (ix.length+1)) (rn:=dY ar) (s:=s) (ar:=ar) C fL gB own) λtn OU=>?_;refine ⟨tn,?_⟩;rw [PB,Tl,iK,oF,dC];have A9:([.ap cL,.ref D.length,.int (ar:Int),.int (f:Int),.int (ba:Int),.bool sh,.int (s:Int),.int (w:Int),.int (place:Int),.bool (cE ar),.bool (dY ar),eM ar f w,.ap (es.map aH),x13,.ap (c' es (dE es (cE ar) (gJ ar f w)) place (dY ar)),.ref o.a,.ap (dQ (fe (bg es place).2) (cA es place (ix.length+1))),.ap (eG es place (ix.length+1)),.ref a6.length,.ref (a6.length+2),.ap [.ref a6.length,em ar f w s],.ref (a6.length+17),.u,.u,.u,.u,.u,.u,.u,.u,.u,.u,.u,.u,.u,.u,.u,.u,.u,.u,.u,.u,.u,.u]:List V)=eo (.ap cL) (.ref D.length) ar (.int (f:Int)) (.int (ba:Int)) (.bool sh) s (.int (w:Int)) (.int (place:Int)) (.bool (cE ar)) (dY ar) (eM ar f w) es x13 (c' es (dE es (cE ar) (gJ ar f w)) place (dY ar)) (.ref o.a) (.ap (dQ (fe (bg es place).2) (cA es place (ix.length+1)))) (eG es place (ix.length+1)) a6.length (a6.length+2) (em ar f w s) (a6.length+17) .u .u:=rfl;rw [A9,aF OW];exact OU
end
section
open PySem
open PySem.W PySem.W.X PyProof.Rows PySem.Calls
open Mine (br KT)
noncomputable def uJ:OpenLaw:=PySem.Challenge.rw_pq0869_01
theorem items_int:∀{xs:List WData},WShape.hasItems [] xs .int=true->∀x∈xs,∃i,x=.int i
 | [],_,x,ax=>by simp at ax
 | y::cL,h,x,ax=>by
  have h:(WShape.has [] y .int && WShape.hasItems [] cL .int)=true:=h;rw [Bool.and_eq_true] at h;rcases List.mem_cons.mp ax with rfl | ax
  .cases x with
   | int i=>exact ⟨i,rfl⟩
   | _=>exact Bool.noConfusion (show false=true from h.1)
  .exact items_int h.2 x ax
theorem LZ {args:List WData} (h:WShape.hasAll [] args [.list .int]=true):∃xs,args=[.list xs]/\∀x∈xs,∃i,x=WData.int i:=by
 cases args with
 | nil=>exact Bool.noConfusion (show false=true from h)
 | cons d c5=>
  have h:(WShape.has [] d (.list .int) && WShape.hasAll [] c5 [])=true:=h;rw [Bool.and_eq_true] at h
  cases c5 with
  | cons e es=>exact Bool.noConfusion (show false=true from h.2)
  | nil=>
   cases d with
   | list xs=>
    refine ⟨xs,rfl,items_int ?_⟩;have:=h.1;have:(WShape.hasItems [] xs .int || false)=true:=this;rwa [Bool.or_false] at this
   | _=>exact Bool.noConfusion (show false=true from h.1)
theorem Wt {cl:Str->Option Addr} {h:Heap} {xs:List WData}:∀{vs:List Value} {as:List Addr},ReadsAllW [] cl h vs xs as->(∀x∈xs,∃i,x=WData.int i)->∃l:List V,cC [] h l vs/\(∀v∈l,∃n,v=V.int n)/\l.length=xs.length:=by
 induction xs with
 | nil=>intro vs as R _;cases R;exact ⟨[],.nil,λv h=>(by cases h),rfl⟩
 | cons x xs bJ=>
  intro vs as R ax
  cases R with
  | cons r rs=>
   refine gk (bJ rs λx aP=>ax x (List.mem_cons_of_mem _ aP)) λl R aW e=>?_;refine cH (ax _ (List.mem_cons_self ..)) λi bl=>?_;subst bl
   cases r with
   | int i t=>exact ⟨.int i::l,.cons (.int i t) R,List.forall_mem_cons.mpr ⟨⟨i,rfl⟩,aW⟩,congrArg (· +1) e⟩
theorem Qq {xs:List WData} (h:WTm.holds [] uJ.pre {args:=[.list xs]}=true):xs.length<=63:=by
 have aW:Num.less? (WData.int 63) (WData.int (xs.length:Int))=some (decide ((63:Int) < (xs.length:Int))):=rfl;have e:WTm.holds [] uJ.pre {args:=[.list xs]}=(match (match (match (Num.less? (WData.int 63) (WData.int (xs.length:Int))).map WData.bool with
   | some (.bool b)=>some (WData.bool (!b))
   | _=>none) with
  | some (.bool false)=>some (WData.bool false)
  | some (.bool true)=>some (WData.bool true)
  | _=>none) with
  | some (.bool true)=>true
  | _=>false):=by rfl'
 rw [e,aW] at h
 by_cases q:(63:Int) < (xs.length:Int)
 .rw [decide_eq_true q] at h;cases h
 .clear h e aW;lia
theorem Za {P:Params} {h:Heap} (e:h.objs.toList=Mine.objs P):∃o,h.get? sysModules=some o:=by
 have:∃o,(Mine.objs P)[1]? =some o/\o.isFreed=false:=⟨_,rfl,by rfl'⟩;revert this;refine eQ λo a b=>?_;exact ⟨o,Mine.GD e a b⟩
theorem Wv {a b:Addr} (h:some (Value.ref a)=some (.ref b)):a=b:=by injection h with h;injection h
theorem Wu {cl:Str->Option Addr} {h:Heap} {DD:List Value} {xs:List WData} {as:List Addr} (R:ReadsAllW [] cl h DD [.list xs] as):∃(b:Addr) (vs:Array Value) (v1:List Addr),DD=[.ref b]/\h.IsList b vs.toList.toArray/\ReadsAllW [] cl h vs.toList xs v1:=by
 cases R with
 | cons r rs=>
  cases rs
  cases r with
  | list aj ao aL cm=>
   rename_i b dz vs n v1;exact ⟨b,vs,v1,rfl,⟨dz,aj,ao,n,by simpa using aL⟩,cm⟩
theorem Zr:uJ.Holds:=Mine.Re λw aaW g6 jv nV bD y a o c3 eD doc rM aaP aG bn bj A7 aP cr args DD as L RF aaN R aaA aaO=>by
 have Hc:WShape.hasAll [] args [.list .int]=true/\WTm.holds [] uJ.pre {args:=args}=true:=by
  have:(WShape.hasAll [] args [.list .int] && WTm.holds [] uJ.pre {args:=args})=true:=RF;rwa [Bool.and_eq_true] at this
 refine a2 (LZ Hc.1) λxs bl ax=>?_;subst bl;have GU:=Qq Hc.2
 let B:db:=⟨w,g6.heap,jv,nV,g6.os,λb dz e=>L.keeps _ _ (Mine.Lz y b dz e),bD.T.g,bD.T.b,bD.T.builtins,bD.T.nolimit,(Za y).imp λdz e=>L.keeps _ _ e⟩
 have bw:jv (Str.ofString "law")=some (.ref 1049):=uU (B:=B) (by rfl');have AV:a=1049:=Wv (aP.symm.trans bw);subst AV;refine oe (Wu R) λb vs v1 n' fp cm=>?_;subst n';refine gk (Wt cm ax) λl EA aW wx=>?_;refine cH (Tm (D:=[]) aW) λal e=>?_;have I:Inv B [] [] g6:=⟨rfl,λi q o e=>by simp at e,λi o e=>by simp at e,λi j q r e=>by simp at e,λa f=>by revert f;refine lF λi q e _=>?_;simp at e,λb o e=>e,cr,rfl⟩;have WA:aO [] g6.heap (.ap l) (.ref b):=.ap l vs.toList b (λf=>by revert f;refine lF λi q e _=>?_;simp at e) fp (by unfold big;lia) EA.len EA.at_;have run:=XR (B:=B) |>.fn callerA [] [] g6 [.ap l] [.ref b] (.bool true) al ⟨rfl,by decide,by decide⟩ I (.cons WA .nil) e;refine run _ _ λbt s' cv bm bh bo=>?_;refine aO.e3 ?_ bo;clear bo;intro _;exact ⟨.inl ⟨.bool true,.bool true,[],rfl,λcls=>rfl,.bool true,by rfl',λ_=>⟨List.nodup_nil,λa h=>by simp at h⟩⟩,.of_keep bm.base,bm.os,.of_eq bm.gens⟩
end
end My

theorem PySem.Challenge.cw_pq0869_01_holds : PySem.Challenge.rw_pq0869_01.Holds :=
 My.Zr