import PyProof.Rows.All
import Wide.All
import OpenK.AllK
import Wide.FinOn
import PySem.Eval
import PyProof.Rows.Walk
import PyProof.NsDelKeeps
import PyProof.InstStore
import PyProof.ExcInit
import PyProof.ExcAttrAll.Exception
import KE.KTryDeepN
import PySem.Challenge.RW_sz0015_01
set_option Elab.async false
set_option maxRecDepth 100000
set_option maxHeartbeats 0
set_option tactic.hygienic false
set_option genSizeOf false
set_option genInjectivity false
set_option genCtorIdx false
set_option bootstrap.genMatcherCode false
set_option compiler.extract_closed false
set_option linter.all false
namespace Mine.Internal
def nopos(s:Lean.Syntax):Lean.MacroM Lean.Syntax:=if s.getPos?.isNone then Lean.Macro.throwUnsupported else pure<|s.rewriteBottomUp λs=>let s:=s.setInfo .none;if s.isOfKind ``Lean.Parser.Command.declaration&&(s[1].isOfKind ``Lean.Parser.Command.definition||s[1].isOfKind ``Lean.Parser.Command.abbrev)&&s[1][1][0].getId.toString.length<12 then s.modifyArg 0 (·.setArg 4 (Lean.mkNullNode #[.node .none ``Lean.Parser.Command.noncomputable #[Lean.mkAtom "noncomputable"]]))else s
local macro_rules (kind:=Lean.Parser.Command.declaration)|s=>nopos s
local macro_rules (kind:=Lean.Parser.Command.mutual)|s=>nopos s
local macro_rules |`(tactic|refine_lift $e)=>`(tactic|focus (refine $e;rotate_right))
local macro_rules (kind:=«term#[_,]»)|s=>if s[1].getNumArgs%2==0 then Lean.Macro.throwUnsupported else pure<|Lean.mkNode ``Lean.Parser.Term.anonymousCtor #[Lean.mkAtom "⟨",s[1],Lean.mkAtom "⟩"]
section
open PySem PySem.W PySem.Calls PyProof.Rows
namespace Hd
@[irreducible]def pg:Program:=PySem.Challenge.rw_sz0015_01.row.toRowW.1
@[irreducible]def bs:List Stmt:=behindTheImports pg
abbrev X:=Str×Nat×Arguments×List Stmt×Scope
def sF:Stmt->X:=λs=>match s with|.FunctionDef n a b _ _ _ c _ _ p=>(n,p.line,a,b,c)|_=>default
def sC:Stmt->List Stmt:=λs=>match s with|.ClassDef _ _ _ b _ _ _ _ _ _ _=>b|_=>default
def p (i:Nat):X:=sF (bs.getD i default)
def q (i j:Nat):X:=sF ((sC (bs.getD i default)).getD j default)
def s (x:String) (t:Nat):Value:=.str (Str.ofString x) t
def tk (l:List Str) (t:Nat):List Value:=List.rec (λ_=>[]) (λx _ ih t=>.str x t::ih (t+1)) l t
def T (l:List Value):Obj:=#[.type "tuple",none,.seq #[l] 0,#[]]
def F (c:Value) (l:List Value):Obj:=#[c,none,.fields #[l],#[]]
def D (P:Params) (c:Value) (l:List (String×Nat×Value)) (n:Nat):Obj:=#[c,none,.dict #[l.map λe=>#[PyData.keyHash P (Str.ofString e.1),s e.1 e.2.1,e.2.2]] n,#[]]
def U (c:Value) (n m:Str) (x:Arguments×List Stmt×Scope) (g:Addr) (d pm cd:Value):Obj:=#[c,none,.func #[n,m,x.1,.stmts x.2.1,x.2.2,g,[],d,.none,.none,pm,none,cd,.none,0],#[]]
def co (n m:Str) (t l k v a:Nat) (b:Bool) (r:List Value):Obj:=F (.type "code") ([.str n t,.str m (t+1),s "/claim/cut.py" (t+2),.int l 0,.int k 0,.int 0 0,.int 0 0,.int (bif b then 3 else 0) 0,.ref a,.bool b,.int 181 0,.ref (a+1)]++r++[.int (t+v+3) 0,.int l 0,s "/claim/cut.py" (t+v+4)])
def ki (k:NameKind):Nat:=match k with|.local=>1|.cell=>2|_=>0
def nk (k:Nat) (l:List (Str×NameKind)):List Str:=(l.filter λx=>Nat.beq (ki x.2) k).map (·.1)
def fn (b:Bool) (x:X) (m:Str) (d:Value) (mo:Value) (a t:Nat):List Obj:=
 let n:=x.2.2.1.args.length;let v:=bif b then[]else(x.2.2.2.2.names.take n).map (·.1)++nk 1 (x.2.2.2.2.names.drop n)
 let c:=bif b then[]else nk 2 x.2.2.2.2.names
 let e:=a+bif b then 2 else 4
 T []::F .none []::(bif b then[]else[T (tk v (t+3)),T (tk c (t+3+v.length))])++[U .none x.1 m x.2.2 0 .none .none .none,
  co x.1 m t x.2.1 n (v.length+c.length) a true (bif b then[.none,.none,.none,.ref e]else[.none,.ref (a+2),.ref (a+3),.ref e]),U (.type "function") x.1 m x.2.2 3 d mo (.ref (e+1))]
def f (b:Bool) (i a t:Nat) (mo:Value):List Obj:=fn b (p i) (p i).1 .none mo a t
def cl (P:Params) (z:Nat) (n:String) (l a t:Nat) (mo:Value) (ms:List (String×Nat×Nat×Nat)) (ys:List Obj) (st:List String) (u x:Nat) (su:List Value):List Obj:=
 let e:=a+7+ys.length;let h:=[("__firstlineno__",t+11,.int l (t+10))]++ms.map (λy=>(y.1,y.2.1,.ref y.2.2.1))++[("__static_attributes__",u+st.length,.ref e)];let w:=u+st.length+1;let r:=e+2;let bb:List Value:=bif Nat.beq z 0 then[]else bif Nat.beq z 1 then[.type "Exception"]else[.ref 371]
 let dd (y:Nat):List (String×Nat×Value):=bif Nat.beq z 0 then[("__dict__",w+1,.ref (r+1))]else[]
 let gg:List Obj:=bif Nat.beq z 0 then[F (.type "getset_descriptor") [s "__dict__" w,.ref r,.builtin "function.__dict__",.builtin "function.__dict__#set"]]else[]
 let w':=bif Nat.beq z 0 then w+2 else w
 let r':=bif Nat.beq z 0 then r+2 else r+1
 let hw:List (String×Nat×Value):=bif Nat.beq z 2 then[]else[("__weakref__",w'+1,.ref r')]
 let gw:List Obj:=bif Nat.beq z 2 then[]else[F (.type "getset_descriptor") [s "__weakref__" w',.ref r,.builtin "ExceptionGroup.__weakref__",.none]]
 let hd:=h++dd 0++hw++[("__doc__",bif Nat.beq z 2 then w else w'+2,.none)];let c:=Str.ofString n
 [T bb,F (.type "builtin_function_or_method") [.builtin "type.__prepare__",.type "type"],D P (.type "dict") (("__module__",t+7,mo)::("__qualname__",t+9,s n (t+8))::h) (4+ms.length),T [],
  F .none (ms.flatMap λy=>[.int y.2.2.2 0,.int 4 0,.ref (y.2.2.1-1)]),co c c (t+2) l 0 0 (a+3) false [.none,.none,.none,.none],
  #[.type "frame",none,.plain,#[some (.ref (a+5)),some (.ref 3),some (.ref (a+2)),none,some mo,none,some (.ref 0),]]]++ys++
 [T (tk (st.map Str.ofString) u),D P (.type "dict") (("__module__",t+7,mo)::hd) x,
  #[.type "type",none,.cls {name:=c,bases:=bif Nat.beq z 0 then[.type "object"]else bb,mro:=.ref r::(bif Nat.beq z 0 then[.type "object"]else(bif Nat.beq z 2 then[.ref 371]else[])++[.type "Exception",.type "BaseException",.type "object"]),ns:=e+1,qualname:=c,subclasses:=su},
   #[[bif Nat.beq z 0 then none else some (.ref a),none,some (s n t),some (s n (t+8)),some (.builtin (bif Nat.beq z 0 then "object.__new__" else "Exception.__new__")),some (.bool true)]]]]++gg++gw++[F (.type "super") [.ref r,.ref r,.ref r],F (.type "builtin_function_or_method") [.builtin "object.__init_subclass__",.ref r]]
def spl (l:List Obj):List Obj×List Obj:=List.rec ([],[]) (λx _ ih=>(x::ih.2,ih.1)) l
@[irreducible]def bt:Nat->List Obj->BT:=λn=>Nat.rec (λ_=>.nil) (λ_ ih l=>List.rec .nil (λx r _=>.node x (ih (spl r).1) (ih (spl r).2)) l) n
def gE:List (String×Nat×Value):=[("MADE",190,s "made" 189),("QUEUED",192,s "queued" 191),("SERVED",194,s "served" 193),("OVER",196,s "over" 195),("EntryCall",238,.ref 31),("join_queue",246,.ref 42),("leave_queue",252,.ref 47),("first_call",261,.ref 54),("count_calls",269,.ref 61),("drain_queues",275,.ref 66),("used_keys",281,.ref 71),("Clock",311,.ref 88),("time_after",319,.ref 99),("next_time",328,.ref 106),("move_clock",336,.ref 113),("is_due",344,.ref 120),("least_wait",355,.ref 127),("FRESH",359,s "fresh" 358),("READY",361,s "ready" 360),("ACTIVATING",363,s "activating" 362),("CALLING",365,s "calling" 364),("MEETING",367,s "meeting" 366),("ACCEPTING",369,s "accepting" 368),("DELAYED",371,s "delayed" 370),("LOCKED",373,s "locked" 372),("LEAVING",375,s "leaving" 374),("COMPLETED",377,s "completed" 376),("DONE",379,s "done" 378),("TASKING_ERROR",381,s "tasking_error" 380),("PROGRAM_ERROR",383,s "program_error" 382),("TaskThing",439,.ref 144),("is_callable",446,.ref 155),("wake_up",455,.ref 162),("finish_call",463,.ref 169),("begin_meeting",472,.ref 176),("end_meeting",481,.ref 183),("open_index",492,.ref 190),("offer_call",500,.ref 197),("stops_here",507,.ref 204),("call_entry",520,.ref 211),("wait_in_queue",527,.ref 218),("cancel_call",534,.ref 225),("note_lost",542,.ref 232),("open_select",556,.ref 239),("wait_open",566,.ref 246),("delay_task",575,.ref 253),("time_is_up",582,.ref 260),("ProtectedThing",623,.ref 277),("has_place",631,.ref 288),("come_in",640,.ref 295),("ask_lock",649,.ref 302),("give_lock",655,.ref 307),("let_in",661,.ref 312),("made_call",674,.ref 319),("call_protected",687,.ref 326),("queue_protected",700,.ref 333),("rest_in_queue",707,.ref 340),("next_served",718,.ref 347),("end_served",726,.ref 354),("AdaError",757,.ref 371),("AdaRaise",786,.ref 391),("Deadlock",811,.ref 410),("Limits",869,.ref 430),("Master",904,.ref 451),("make_task",915,.ref 462),("activate_tasks",924,.ref 469),("end_activation",934,.ref 476),("are_done",940,.ref 481),("end_fresh",948,.ref 488),("drop_fresh",956,.ref 495),("complete_task",965,.ref 502),("end_library",972,.ref 509),("is_held",979,.ref 516),("end_abnormal",986,.ref 523),("settle_abnormal",995,.ref 530),("settle_ends",1001,.ref 535),("can_terminate",1007,.ref 540),("is_quiet",1016,.ref 547),("ended_masters",1022,.ref 552),("terminate_below",1031,.ref 559),("settle_terminates",1037,.ref 564),("settle_tasks",1044,.ref 571),("Tasking",1091,.ref 595),("ready_tasks",1097,.ref 604),("waiting_tasks",1103,.ref 609),("pass_time",1109,.ref 614),("end_late",1115,.ref 619),("serve_lost",1124,.ref 626),("choose_among",1134,.ref 633),("pick_task",1142,.ref 640),("_law_take",1146,.ref 641),("_law_lay",1148,.ref 642),("_law_menu",1168,.ref 643),("_law_order",1181,.ref 644),("_law_dish",1190,.ref 651),("_law_deeds",1205,.ref 658),("_law_passes",1215,.ref 665),("_law_fork_goes",1226,.ref 672),("_law_at_object",1243,.ref 679),("_law_hears",1255,.ref 686),("_law_goes",1261,.ref 691),("_law_is_laid",1271,.ref 698),("_law_sides",1282,.ref 705),("_law_feast",1288,.ref 710),("_law_is_stuck",1294,.ref 715),("_law_is_right",1313,.ref 722),("law",1334,.ref 729)]
def gF:List Value:=[(6,20),(19,41),(24,46),(30,53),(33,60),(35,65),(42,70),(49,77),(53,98),(55,105),(61,112),(63,119),(65,126),(85,133),(114,154),(116,161),(123,168),(128,175),(134,182),(137,189),(144,196),(150,203),(155,210),(176,217),(180,224),(184,231),(187,238),(205,245),(215,252),(221,259),(230,266),(243,287),(247,294),(253,301),(263,306),(270,311),(276,318),(285,325),(289,332),(297,339),(301,346),(314,353),(317,360),(322,380),(329,399),(335,418),(346,440),(353,461),(361,468),(369,475),(380,480),(382,487),(386,494),(390,501),(402,508),(405,515),(409,522),(416,529),(424,534),(435,539),(437,546),(447,551),(452,558),(458,563),(468,570),(472,577),(488,603),(490,608),(492,613),(501,618),(507,625),(515,632),(521,639),(537,650),(542,657),(555,664),(559,671),(566,678),(587,685),(610,690),(631,697),(641,704),(644,709),(679,714),(692,721),(702,728)].flatMap λ(x:Nat×Nat)=>[.int x.1 0,.int 0 0,.ref x.2]
def m0:Value:=s "adacore.entryqueues" 187
def m1:Value:=s "adacore.clock" 282
def m2:Value:=s "adacore.rendezvous" 356
def m3:Value:=s "adacore.protected" 583
def m4:Value:=s "adacore.errors" 727
def m5:Value:=s "adacore.limits" 812
def m6:Value:=s "adacore.masters" 870
def m7:Value:=s "adacore.scheduler" 1045
def m8:Value:=s "law_sz0015_01" 1143
@[irreducible]def ob (P:Params) (e m:Nat) (nm:Value) (x:Nat):List Obj:=[
 boot_o_0 P,
 boot_o_1 P,
 if Nat.ble 1 x then D P (.none) [("type.__subclasses__.Exception.0",754,.int 371 0),("type.__subclasses__.Exception.n",755,.int 1 0)] 2 else boot_o_2 P,
 D P (.type "dict") (("__name__",165,nm)::[("__doc__",166,.none),("__package__",167,.none),("__loader__",168,.builtin "__main__.__loader__#opaque"),("__spec__",169,.none),("__annotations__",170,.ref 6),("__builtins__",171,.ref 4),("__file__",173,s "/claim/cut.py" 172),("__cached__",174,.none)]++gE.take e) (e+9),
 boot_o_4 P,
 boot_o_5 P,
 boot_o_6 P,
 boot_o_7 P,
 boot_o_8 P,
 boot_o_9 P,
 boot_o_10 P,
 T [],
 F .none (gF.take (3*m)),
 F (.type "code") [s "<module>" 182,s "<module>" 183,s "/claim/cut.py" 184,.int 1 0,.int 0 0,.int 0 0,.int 0 0,.int 0 0,.ref 11,.bool false,.int 181 0,.ref 12,.none,.none,.none,.none,.int 185 0,.int 1 0,s "/claim/cut.py" 186],
 #[.type "frame",none,.plain,#[some (.ref 13),some (.ref 3),some (.ref 3),none,some (s "__main__" 164),none,some (.ref 0),]]]++(cl P 0 "EntryCall" 6 15 197 m0 [("__init__",220,28,8)] (fn false (q 5 0) (Str.ofString "EntryCall.__init__") (.none) m0 22 209) ["caller","deadline","found","is_conditional","is_firm","key","number","state","target","values"] 221 4 [])++
 (f false 6 36 239 m0)++
 (f true 7 43 247 m0)++
 (f false 8 48 253 m0)++
 (f false 9 55 262 m0)++
 (f true 10 62 270 m0)++
 (f true 11 67 276 m0)++
 (cl P 0 "Clock" 49 72 284 m1 [("__init__",302,85,51)] (fn false (q 13 0) (Str.ofString "Clock.__init__") (.none) m1 79 296) ["now"] 303 4 [])++
 (f false 14 93 312 m1)++
 (f false 15 100 320 m1)++
 (f false 16 107 329 m1)++
 (f false 17 114 337 m1)++
 (f false 18 121 345 m1)++
 (cl P 0 "TaskThing" 85 128 384 m2 [("__init__",405,141,87)] (fn false (q 33 0) (Str.ofString "TaskThing.__init__") (.none) m2 135 396) ["activator","answer","bases","call","caught","frame","has_failed","inside","is_abnormal","late","leaving","line","master","masters","name","number","open","pending","queues","raised","result","resume","serving","stack","state","wake"] 406 4 [])++
 (f false 34 149 440 m2)++
 (f false 35 156 447 m2)++
 (f false 36 163 456 m2)++
 (f false 37 170 464 m2)++
 (f false 38 177 473 m2)++
 (f false 39 184 482 m2)++
 (f false 40 191 493 m2)++
 (f false 41 198 501 m2)++
 (f false 42 205 508 m2)++
 (f false 43 212 521 m2)++
 (f false 44 219 528 m2)++
 (f false 45 226 535 m2)++
 (f false 46 233 543 m2)++
 (f false 47 240 557 m2)++
 (f false 48 247 567 m2)++
 (f false 49 254 576 m2)++
 (cl P 0 "ProtectedThing" 230 261 585 m3 [("__init__",605,274,232)] (fn false (q 51 0) (Str.ofString "ProtectedThing.__init__") (.none) m3 268 597) ["body","cells","entries","frame","is_making","line","number","queues","readers","writer"] 606 4 [])++
 (f false 52 282 624 m3)++
 (f false 53 289 632 m3)++
 (f false 54 296 641 m3)++
 (f true 55 303 650 m3)++
 (f true 56 308 656 m3)++
 (f false 57 313 662 m3)++
 (f false 58 320 675 m3)++
 (f false 59 327 688 m3)++
 (f false 60 334 701 m3)++
 (f false 61 341 708 m3)++
 (f false 62 348 719 m3)++
 (cl P 1 "AdaError" 317 355 729 m4 [("__init__",748,368,319)] (fn false (q 64 0) (Str.ofString "AdaError.__init__") (.none) m4 362 741) ["text"] 749 3 ([.ref 391,.ref 410].take (x-1)))++
 (cl P 2 "AdaRaise" 322 375 758 m4 [("__init__",779,388,324)] (fn false (q 65 0) (Str.ofString "AdaRaise.__init__") (.none) m4 382 770) ["line","name","word"] 780 2 [])++
 (cl P 2 "Deadlock" 329 394 787 m4 [("__init__",806,407,331)] (fn false (q 66 0) (Str.ofString "Deadlock.__init__") (.none) m4 401 799) ["tasks"] 807 2 [])++
 (cl P 0 "Limits" 335 413 814 m5 [("__init__",854,427,337)] ([T [.int 32 826,.int 1000000 829,.int 50 830,.int 10000 833,.int 100000 836,.int 50 837,.int 1000000 840]]++fn false (q 68 0) (Str.ofString "Limits.__init__") (.ref 420) m5 421 841) ["depth","heap","members","steps","tasks","text","width"] 855 4 [])++
 (cl P 0 "Master" 346 435 872 m6 [("__init__",892,448,348)] (fn false (q 70 0) (Str.ofString "Master.__init__") (.none) m6 442 884) ["dependents","is_ended","number","owner"] 893 4 [])++
 (f false 71 456 905 m6)++
 (f false 72 463 916 m6)++
 (f false 73 470 925 m6)++
 (f true 74 477 935 m6)++
 (f false 75 482 941 m6)++
 (f false 76 489 949 m6)++
 (f false 77 496 957 m6)++
 (f false 78 503 966 m6)++
 (f false 79 510 973 m6)++
 (f false 80 517 980 m6)++
 (f false 81 524 987 m6)++
 (f true 82 531 996 m6)++
 (f true 83 536 1002 m6)++
 (f false 84 541 1008 m6)++
 (f true 85 548 1017 m6)++
 (f false 86 553 1023 m6)++
 (f true 87 560 1032 m6)++
 (f false 88 565 1038 m6)++
 (cl P 0 "Tasking" 472 572 1047 m7 [("__init__",1067,585,474),("next_number",1074,592,485)] (fn false (q 90 0) (Str.ofString "Tasking.__init__") (.none) m7 579 1059++fn false (q 90 1) (Str.ofString "Tasking.next_number") (.none) m7 586 1068) ["choose","clock","library","limits","lost","numbers","serve","settled","tasks"] 1075 4 [])++
 (f true 91 600 1092 m7)++
 (f true 92 605 1098 m7)++
 (f true 93 610 1104 m7)++
 (f true 94 615 1110 m7)++
 (f false 95 620 1116 m7)++
 (f false 96 627 1125 m7)++
 (f false 97 634 1135 m7)++
 ([T [s "take" 1145,.none]])++
 ([T [s "lay" 1147,.none]])++
 ([T [.int 0 1149,.int 1 1150,.int 0 1151,.int 3 1152,.int 0 1153,.int 0 1154,.int 0 1155,.int 0 1156,.int 4 1157,.int 0 1158,.int 0 1159,.int 1 1160,.int 1 1161,.int 0 1162,.int 0 1163,.int 1 1164,.int 0 1165,.int 0 1166,.int 0 1167]])++
 ([T [.int 2 1169,.int 2 1170,.int 2 1171,.int 1 1172,.int 0 1173,.int 0 1174,.int 0 1175,.int 0 1176,.int 0 1177,.int 1 1178,.int 1 1179,.int 0 1180]])++
 (f false 103 645 1182 m8)++
 (f false 104 652 1191 m8)++
 (f false 105 659 1206 m8)++
 (f false 106 666 1216 m8)++
 (f false 107 673 1227 m8)++
 (f false 108 680 1244 m8)++
 (f true 109 687 1256 m8)++
 (f false 110 692 1262 m8)++
 (f false 111 699 1272 m8)++
 (f true 112 706 1283 m8)++
 (f true 113 711 1289 m8)++
 (f false 114 716 1295 m8)++
 (f false 115 723 1314 m8)
@[irreducible]def st (e m:Nat) (nm:Value) (x n k:Nat) (w:World) (os:OsState):SharedT:=#[bt 12 ((ob w.params e m nm x).take n),n,{},#[],{},k,os]
@[irreducible]def ev:Env:={scope:=pg.main.scope,locals:=mainNs,globals:=mainNs,cells:=[],code:=.ref 13,frame:=some 14}
@[reducible]def cd:Code:=.body bs ev
@[reducible]def B:List Frame:=[topFrame #[0,0,0,0]]
@[irreducible]def S0 (w:World) (os:OsState):SharedT:=#[bt 12 ([boot_o_0 w.params,boot_o_1 w.params,boot_o_2 w.params,boot_o_3 w.params,boot_o_4 w.params,boot_o_5 w.params,boot_o_6 w.params,boot_o_7 w.params,boot_o_8 w.params,boot_o_9 w.params,boot_o_10 w.params,T [],F (.none) [],F (.type "code") [s "<module>" 182,s "<module>" 183,s "/claim/cut.py" 184,.int 1 0,.int 0 0,.int 0 0,.int 0 0,.int 0 0,.ref 11,.bool false,.int 181 0,.ref 12,.none,.none,.none,.none,.int 185 0,.int 1 0,s "/claim/cut.py" 186],#[.type "frame",none,.plain,#[some (.ref 13),some (.ref 3),some (.ref 3),none,some (s "__main__" 164),none,some (.ref 0),]]]),15,{},#[],{},187,os]
@[irreducible]def S1:=st 9 5 m0 0 62 270
@[irreducible]def S2:=st 15 11 m1 0 114 337
@[irreducible]def S3:=st 30 13 m2 0 128 384
@[irreducible]def S4:=st 35 18 m2 0 177 473
@[irreducible]def S5:=st 47 30 m3 0 261 585
@[irreducible]def S6:=st 53 36 m3 0 313 662
@[irreducible]def S7:=st 59 42 m4 0 355 729
@[irreducible]def S8:=st 60 43 m4 1 375 758
@[irreducible]def S9:=st 61 44 m4 2 394 787
@[irreducible]def S10:=st 62 45 m5 3 413 814
@[irreducible]def S11:=st 63 46 m6 3 435 872
@[irreducible]def S12:=st 69 52 m6 3 489 949
@[irreducible]def S13:=st 82 65 m7 3 572 1047
@[irreducible]def S14:=st 88 71 m7 3 627 1125
@[irreducible]def S15:=st 101 80 m8 3 692 1262
@[irreducible]def S16:=st 107 86 m8 3 730 1335
def Kp(a k n:Nat)(s s':World->OsState->SharedT)(p p':Pos):Prop:=∀w:World,(λos=>Fast.tw10110043849684766642 Fast.tw14364793385576792824 pg w 11 (some (.ref 6)) 1 n (s w os) (piecesOf ((bs.drop a).take k) ev cd p B))=λos=>some (.next,s' w os,cd,p')
def k0:Kp 0 10 398 S0 S1 #[0,0,0,0] #[33,0,34,35]:=λw=>by kernel_rfl
def k1:Kp 10 7 374 S1 S2 #[33,0,34,35] #[61,0,62,36]:=λw=>by kernel_rfl
def k2:Kp 17 16 190 S2 S3 #[61,0,62,36] #[84,0,84,13]:=λw=>by kernel_rfl
def k3:Kp 33 5 371 S3 S4 #[84,0,84,13] #[128,0,133,48]:=λw=>by kernel_rfl
def k4:Kp 38 13 384 S4 S5 #[128,0,133,48] #[229,0,229,8]:=λw=>by kernel_rfl
def k5:Kp 51 6 377 S5 S6 #[229,0,229,8] #[270,0,275,33]:=λw=>by kernel_rfl
def k6:Kp 57 7 207 S6 S7 #[270,0,275,33] #[316,0,316,8]:=λw=>by kernel_rfl
def k7:Kp 64 1 229 S7 S8 #[316,0,316,8] #[317,0,321,24]:=λw=>by kernel_rfl
def k8:Kp 65 1 250 S8 S9 #[317,0,321,24] #[322,0,328,24]:=λw=>by kernel_rfl
def k9:Kp 66 2 255 S9 S10 #[322,0,328,24] #[334,0,334,8]:=λw=>by kernel_rfl
def k10:Kp 68 2 276 S10 S11 #[334,0,334,8] #[345,0,345,8]:=λw=>by kernel_rfl
def k11:Kp 70 6 379 S11 S12 #[345,0,345,8] #[382,0,385,21]:=λw=>by kernel_rfl
def k12:Kp 76 14 384 S12 S13 #[382,0,385,21] #[471,0,471,8]:=λw=>by kernel_rfl
def k13:Kp 90 6 398 S13 S14 #[471,0,471,8] #[507,0,514,21]:=λw=>by kernel_rfl
def k14:Kp 96 14 377 S14 S15 #[507,0,514,21] #[610,0,630,15]:=λw=>by kernel_rfl
def k15:Kp 110 6 202 S15 S16 #[610,0,630,15] #[702,0,723,39]:=λw=>by kernel_rfl
def eT:@segRunT treeTable=Fast.tw10110043849684766642 Fast.tw14364793385576792824:=by rw[Fast.te10110043849684766642,Fast.te14364793385576792824]
def eG:@topGo treeTable=Fast.tw15667345088766844465 Fast.tw14364793385576792824:=by rw[Fast.te15667345088766844465,Fast.te14364793385576792824]
def eR:@segRun treeTable=Fast.tw14374325043358763698 Fast.tw14364793385576792824:=by rw[Fast.te14374325043358763698,Fast.te14364793385576792824]
def eU:@topRun treeTable=Fast.tw14082659384304107361 Fast.tw14364793385576792824:=by rw[Fast.te14082659384304107361,Fast.te14364793385576792824]
def eD:@denote treeTable=Fast.tw11892475500146522536 Fast.tw14364793385576792824:=by rw[Fast.te11892475500146522536,Fast.te14364793385576792824]
def pre(w:World)(os:OsState):topGo treeTable pg w 11 (some (.ref 6)) 12 #[boot_heap w.params,#[],boot_drawn,boot_toks,os] (topStub pg)=some ((S0 w os).abs,#[denote treeTable cd,cd,#[0,0,0,0],B]):=by rw[eG,eD];kernel_rfl
def blk(w:World)(os:OsState):segRun treeTable pg w 11 (some (.ref 6)) 1 1 (S0 w os).abs (blockOf bs ev cd #[0,0,0,0] B)=some (.next,(S0 w os).abs,cd,#[0,0,0,0]):=by rw[eR];kernel_rfl
def fin(w:World)(os:OsState):topRun treeTable pg w 11 (some (.ref 6)) 2 (S16 w os).abs (restOf (bs.drop 116) ev cd #[702,0,723,39] B)=some (S16 w os).abs:=by rw[show bs.drop 116=[]by kernel_rfl,eU];kernel_rfl
def ch{w:World}{os:OsState}{a k n N:Nat}{s s':World->OsState->SharedT}{r:Shared}{p p':Pos}(h:(λos=>Fast.tw10110043849684766642 Fast.tw14364793385576792824 pg w 11 (some (.ref 6)) 1 n (s w os) (piecesOf ((bs.drop a).take k) ev cd p B))=λos=>some (.next,s' w os,cd,p'))
 (g:topRun treeTable pg w 11 (some (.ref 6)) N (s' w os).abs (restOf (bs.drop (a+k)) ev cd p' B)=some r):topRun treeTable pg w 11 (some (.ref 6)) (n+N) (s w os).abs (restOf (bs.drop a) ev cd p B)=some r:=by
 rw[←eT]at h;have:=piece_app (segRun_of (congrFun h os)) g;rwa [←List.drop_drop,List.take_append_drop]at this
def run(w:World)(os:OsState):topRun treeTable pg w 11 (some (.ref 6)) (12+(1+(398+(374+(190+(371+(384+(377+(207+(229+(250+(255+(276+(379+(384+(398+(377+(202+2)))))))))))))))))) #[boot_heap w.params,#[],boot_drawn,boot_toks,os] (topStub pg)=some (S16 w os).abs:=
 go_top (pre w os) (piece_block (b:=bs) (env:=ev) (c:=cd) (q:=#[0,0,0,0]) (blk w os) (ch (k0 w) (ch (k1 w) (ch (k2 w) (ch (k3 w) (ch (k4 w) (ch (k5 w) (ch (k6 w) (ch (k7 w) (ch (k8 w) (ch (k9 w) (ch (k10 w) (ch (k11 w) (ch (k12 w) (ch (k13 w) (ch (k14 w) (ch (k15 w) (fin w os))))))))))))))))))
def vw:Program:=view pg [115]
def lo:List Str:=(gE.take 106).map λe=>Str.ofString e.1
def obF (P:Params):List Obj:=ob P 107 86 (s "law_sz0015_01" 1143) 3
def H1 (P:Params):Heap:=#[#[obF P],{}]
def hz(w:World)(os:OsState):(S16 w os).abs=#[H1 w.params,#[],{},1335,os]:=by kernel_rfl
def open_:∀w:World,(fencedOpening treeTable pg w 10000).map (λs=>(s.heap,s.gens,s.drawn,s.toks))=some (boot_heap w.params,#[],boot_drawn,boot_toks):=boot_open (by kernel_rfl) rfl (λ_=>by kernel_rfl)
def size:∀w:World,((boot_heap w.params).isNs mainGlobals&&(#[]:Array GenState).size==0,(boot_heap w.params).objs.size,(boot_heap w.params).nsMap mainGlobals "__annotations__")=(true,11,some (.ref 6)):=λw=>by kernel_rfl
def look1(w:World)(os:OsState):(staticsOk (importedModules pg.main.body) (boot_heap w.params) (H1 w.params)&&namesBound pg (H1 w.params)&&gensDone #[H1 w.params,#[],{},1335,os]&&laidKept (boot_heap w.params) (H1 w.params))=true:=by kernel_rfl
def sh (w:World) (os:OsState):Shared:=#[H1 w.params,#[],{},1335,os]
def l1(w:World)(os:OsState):seen ((recsOf vw).map (·.name)) (ownsOf vw) [] {sh w os with gens:=#[]}=expectedOf vw:=by kernel_rfl
def l2(w:World)(os:OsState):(sh w os).heap.bltView=bltViewBooted:=by kernel_rfl
def l3(w:World)(os:OsState):((sh w os).heap.keysOk (looseW vw lo) ((recsOf vw).map (·.name)) ((litsOf vw).map (·.1)) ((clssOf vw (looseW vw lo)).map (·.name))&&(sh w os).heap.accountedOkI (importedModules pg.main.body)&&(sh w os).heap.isNs mainGlobals&&(sh w os).heap.isNs builtinsNs&&tablesOk vw (sh w os).heap&&(xlAt vw [] (sh w os)&&recOk PySem.Challenge.rw_sz0015_01.row.records (sh w os))&&(if true then(sh w os).gens.size==0 else !leftWithCleanup (sh w os).gens))=true:=by kernel_rfl
def l4(w:World)(os:OsState):tabsOk vw (sh w os)=true:=by kernel_rfl
def l5(w:World)(os:OsState):pinSeenD vw (drecsOf vw) (sh w os)=pinGoodD (drecsOf vw):=by kernel_rfl
def l6(w:World)(os:OsState):plainSeenE vw (looseW vw lo) (sh w os)=plainGoodE vw (looseW vw lo):=by kernel_rfl
def l7(w:World)(os:OsState):plainSeenD vw lo (sh w os)=plainGoodD vw lo:=by kernel_rfl
def l8(w:World)(os:OsState):wideSeen vw (sh w os)=wideGood vw:=by kernel_rfl
def l9(w:World)(os:OsState):clsSeenW vw lo (sh w os)=clsGoodW vw lo:=by kernel_rfl
def kz:Nat->List Obj->Frag
 |_,[]=>[]
 |n,o::r=>bif o.alive&&noTabs [(n,o)]then(n,o)::kz (n+1) r else kz (n+1) r
def kz_in{a:Nat}{o:Obj}{l:List Obj}:∀{n:Nat},(kz n l).lookup a=some o->o.alive=true/\n<=a/\l[a-n]? =some o:=by
 induction l with
 |nil=>exactλh=>nomatch h
 |cons x r ih=>
  intro n h;have up:(kz (n+1) r).lookup a=some o->o.alive=true/\n<=a/\(x::r)[a-n]? =some o:=λh=>(ih h).imp id λh=>#[Nat.le_of_succ_le h.1,by rw[←Nat.succ_pred_eq_of_pos (Nat.sub_pos_of_lt h.1)];exact h.2];have h:List.lookup a (bif x.alive&&noTabs [(n,x)]then(n,x)::kz (n+1) r else kz (n+1) r)=some o:=h;cases hc:(x.alive&&noTabs [(n,x)])with
  |false=>rw[hc]at h;exact up h
  |true=>
   rw[hc,cond_true,List.lookup_cons]at h;cases e:a==n with
   |true=>rw[e]at h;cases eq_of_beq e;cases h;exact#[(Bool.and_eq_true_iff.mp hc).1,Nat.le_refl _,by rw[Nat.sub_self];rfl]
   |false=>rw[e]at h;exact up h
def kK (P:Params):Frag:=kz 0 (obF P)
def says(w:World)(h:Heap)(e:h=H1 w.params):(kK w.params).In h/\∀P∈([674,707]:List Addr),h.get? P=some (tabObj #[]):=by
 refine#[λa o h=> ?_,λa ha=> ?_]
 .obtain⟨h1,_,h3⟩:=kz_in (a:=a) h;exact(Heap.get?_eq_some _ _ _).mpr #[by rw[e];show(#[obF w.params]:Array Obj)[a]? =some o;rw[List.getElem?_toArray];exact h3,h1]
 .rw[e];simp only[List.mem_cons,List.not_mem_nil,or_false]at ha;rcases ha with rfl|rfl
  .kernel_rfl
  .kernel_rfl
def run1(w:World)(os:OsState):topRun treeTable pg w 11 (some (.ref 6)) (12+(1+(398+(374+(190+(371+(384+(377+(207+(229+(250+(255+(276+(379+(384+(398+(377+(202+2)))))))))))))))))) #[boot_heap w.params,#[],boot_drawn,boot_toks,os] (topStub pg)=some #[H1 w.params,#[],{},1335,os]:=(run w os).trans (congrArg some (hz w os))
def looks(w:World):(λos=>((staticsOk (importedModules pg.main.body) (boot_heap w.params) (H1 w.params)&&namesBound pg (H1 w.params)&&gensDone #[H1 w.params,#[],{},1335,os]&&laidKept (boot_heap w.params) (H1 w.params)),
 openSeen vw lo (importedModules pg.main.body) (λs=>xlAt vw [] s&&recOk PySem.Challenge.rw_sz0015_01.row.records s) true #[H1 w.params,#[],{},1335,os],H1 w.params))=λ_=>(true,openGood vw lo,H1 w.params):=
 funext λos=>looks_pair (look1 w os) (looks_pair (looks_pair (l1 w os) (looks_pair (l2 w os) (looks_pair (l3 w os) (looks_pair (l4 w os) (looks_pair (l5 w os) (looks_pair (l6 w os) (looks_pair (l7 w os) (looks_pair (l8 w os) (l9 w os))))))))) rfl)
def left:LeftO pg vw lo (λs=>xlAt vw [] s&&recOk PySem.Challenge.rw_sz0015_01.row.records s) (λs=>s.heap) (λw=>H1 w.params) 10000:=LeftO.of_pieces open_ size run1 rfl looks
def said0:PySem.Challenge.rw_sz0015_01.wellSaid=true:=by
 rw[Fast.te9446332074065402090];unfold Fast.tw9446332074065402090 Fast.tw17960256430627541270 Fast.tw2436336058641802641 Fast.tw12908688711261696721
 repeat' with_reducible refine look_both ?_ ?_
 all_goals decide+kernel
def bL:List Stmt:=(p 115).2.2.2.1
def sL:Scope:=(p 115).2.2.2.2
abbrev dL:DefRec:={name:=Str.ofString "law",params:={posonlyargs:=[],args:=[{arg:=Str.ofString "script",annotation:=none,pos:=#[702,8,702,14]}],vararg:=none,kwonlyargs:=[],kw_defaults:=[],kwarg:=none,defaults:=[]},body:=bL,scope:=sL,pos:=#[702,0,723,39]}
abbrev YP(w:World)(h:Heap):Prop:=(kK w.params).In h/\∀P∈([674,707]:List Addr),h.get? P=some (tabObj #[])
def a1:defOf vw PySem.Challenge.rw_sz0015_01.row.name=some (dL,[]):=by kernel_rfl
def a2:PySem.Challenge.rw_sz0015_01.row.prog.theDef PySem.Challenge.rw_sz0015_01.row.name=some (dL.params,dL.body,dL.scope):=by kernel_rfl
def a3:kwWritten? dL.params.kwonlyargs dL.params.kw_defaults=some []:=by kernel_rfl
def a4:(!PySem.Challenge.rw_sz0015_01.row.writes||PySem.Challenge.rw_sz0015_01.row.records.isEmpty)=true:=by kernel_rfl
def a5:(chainsOk vw&&opensWell PySem.Challenge.rw_sz0015_01.row.prog&&(frees PySem.Challenge.rw_sz0015_01.row.toRowW&&PySem.Challenge.rw_sz0015_01.row.within.isEmpty))=true:=by kernel_rfl
def a6:PySem.Challenge.rw_sz0015_01.row.prog.tablesWhole=true:=by kernel_rfl
def a7:PySem.Challenge.rw_sz0015_01.row.claim.pre [PySem.W.WData.list []]=true:=by kernel_rfl
def a8:(PySem.W.WData.layableAll [PySem.W.WData.list []]&&PySem.Challenge.rw_sz0015_01.row.returnsAt [PySem.W.WData.list []])=true:=by kernel_rfl
def eP:PySem.Challenge.rw_sz0015_01.row.prog=pg:=by unfold pg;rfl
def left':LeftO PySem.Challenge.rw_sz0015_01.row.prog vw lo (λs=>xlAt vw [] s&&recOk PySem.Challenge.rw_sz0015_01.row.records s) (λs=>s.heap) (λw=>H1 w.params) 10000:=by rw[eP];exact left
def hd(walk:WalkO vw lo (XL vw []) YP PySem.Challenge.rw_sz0015_01.row.toRowW dL [] λf vs=>PySem.call f vs):PySem.Challenge.rw_sz0015_01.Holds:=
 holds_law said0 λsaid=>holds_open left' (λw _ e=>says w _ e) (λ_ _ _ Y k=>#[Frag.In.keeps Y.1 k,λP hP=>k _ _ (Y.2 P hP)]) (λs e=>xl_of s (Bool.and_eq_true_iff.mp e).1) XL.keeps a1 a2 a3 (λ_ e=>recFacts_of (Bool.and_eq_true_iff.mp e).2) a4 said a5 #[rfl,rfl,rfl,rfl,rfl,a6] #[[.list []],a7,a8] walk
end Hd
end
section
abbrev ja:=@Bool.and_eq_true
abbrev ak:=@if_neg
abbrev al:=@if_pos
abbrev bA:=@Nat.lt_succ_self
abbrev be:=@List.length_map
abbrev cu:=@List.mem_singleton
abbrev bv:=@List.mem_map
abbrev oR:=@Bool.false_eq_true
abbrev b8:=@List.mem_cons
abbrev fm:=@List.getElem?_eq_getElem
abbrev gu:=@List.length_cons
abbrev eU:=@List.getElem?_eq_some_iff
abbrev cC:=@List.length_range
abbrev fi:=@List.size_toArray
abbrev eV:=@List.length_append
abbrev tv:=@beq_iff_eq
abbrev Cy:=@decide_eq_true_eq
abbrev ej:=@List.mem_range
abbrev gv:=@List.mem_cons_of_mem
abbrev cY:=@List.isEmpty_iff
abbrev dh:=@of_eq_true
abbrev aP:=@of_decide_eq_true
abbrev eW:=@List.getElem?_map
abbrev bU:=@Nat.lt_of_lt_of_le
abbrev jb:=@List.map_congr_left
abbrev iv:=@List.contains_cons
abbrev qQ:=@List.mem_map_of_mem
abbrev iw:=@List.getElem?_range
abbrev fK:=@Nat.lt_irrefl
abbrev ek:=@List.nodup_cons
abbrev jL:=@List.mem_append_right
abbrev fZ:=@List.mem_filter
abbrev aq:=@congrArg
abbrev aL:=@Option.some.inj
abbrev aG:=@And.intro
abbrev bk:=@Nat.le_trans
abbrev bG:=@Nat.le_refl
abbrev dL:=@Nat.le_add_right
abbrev ix:=@Option.isNone_iff_eq_none
abbrev gw:=@Nat.eq_of_beq_eq_true
abbrev gW:=@Nat.le_of_ble_eq_true
abbrev dX:=@decide_eq_true
abbrev fj:=@Nat.le_add_left
abbrev fL:=@Nat.add_le_add_left
abbrev iy:=@Bool.and_eq_true_iff
abbrev gy:=@List.all_eq_true
abbrev el:=@Nat.lt_of_le_of_lt
abbrev gz:=@decide_eq_false
abbrev dM:=@Eq.trans
abbrev iz:=@Nat.le_antisymm
abbrev jM:=@Bool.false_ne_true
abbrev f0:=@Bool.eq_false_iff
abbrev cD:=@Nat.zero_le
universe u
@[elab_as_elim]def Xx{af:Sort u}{a b:af}{M:af->Prop}(h:a=b)(p:M b):M a:=h.symm.rec p
def av{af aK:Type}{E:PySem.Value->PySem.Shared->Prop}{m:PySem.Sem af}{f:af->PySem.Sem aK}{Q:aK->PySem.Shared->Prop}(h:PySem.wpAny M A m (λa=>PySem.wpAny M A (f a) Q E) E s):PySem.wpAny M A (m >>= f) Q E s:=PySem.wpAny_bind h
set_option genInjectivity true in
structure Nm where
 f:Nat
 k:Nat
 i:Nat
 deriving DecidableEq
set_option genCtorIdx true in
set_option genInjectivity true in
inductive V where
 |none
 |bool (b:Bool)
 |int (i:Int)
 |str (n:Nat)
 |tup (xs:List V)
 |fz (xs:List V)
 |ref (a:Nm)
 |fn (f:Nat)
 |cls (c:Nat)
 |gk (n:Nat)
 |clo (f:Nat) (cs:List (Nat×Nm))
inductive aa where
 |inst (c:Nat) (fs:List (Nat×V))
 |list (xs:List V)
 |dp (es:List (Nat×V))
 |aU (es:List (Nat×V))
 |fc (es:List (Int×V))
 |cell (v:Option V)
set_option genCtorIdx true in
inductive Slot where
 |fresh
 |dead
 |live (o:aa)
 |pin (es:List (Nat×V))
abbrev H:=Nm->Slot
abbrev Lc:=Nat->Option V
abbrev Ka:=Nat->Option Nm
def H.set(h:H)(a:Nm)(s:Slot):H:=λb=>if b=a then s else h b
def upd(l:Lc)(x:Nat)(v:V):Lc:=λy=>if y=x then some v else l y
def AH{af:Type}(k:af->Prop)(o:Option af):Prop:=match o with
 |some a=>k a
 |none=>False
abbrev ay{af:Type}(o:Option af)(k:af->Prop):Prop:=AH k o
def bo{af:Type}{o:Option af}{k:af->Prop}{C:Prop}(h:ay o k)(f:∀a,o=some a->k a->C):C:=Option.rec (motive:=λo=>ay o k->(∀a,o=some a->k a->C)->C) (λh U=>False.elim h) (λa h f=>f a rfl h) o h f
def cc{af:Type}[DecidableEq af](f:af)(x:V):List (af×V)->List (af×V)
 |[]=>[(f,x)]
 |p::r=>if p.1=f then(f,x)::r else p::cc f x r
def bh{af:Type}[DecidableEq af](f:af):List (af×V)->Option V
 |[]=>none
 |p::r=>if p.1=f then some p.2 else bh f r
def lJ{af:Type}[DecidableEq af](f:af):List (af×V)->List (af×V)
 |[]=>[]
 |p::r=>if p.1=f then r else p::lJ f r
section
variable{af:Type}[DecidableEq af]{f:af}{x:V}{p:af×V}{r:List (af×V)}
def oQ(q:p.1=f):bh f (p::r)=some p.2:=al q
def mS(q:¬p.1=f):bh f (p::r)=bh f r:=ak q
def tz(q:p.1=f):cc f x (p::r)=(f,x)::r:=al q
def ty(q:¬p.1=f):cc f x (p::r)=p::cc f x r:=ak q
def Cr(q:p.1=f):lJ f (p::r)=r:=al q
def Mj(q:¬p.1=f):lJ f (p::r)=p::lJ f r:=ak q
end
def V.k{af:Type}(v:V)(d:af)(b:Bool->af)(i:Int->af)(s:Nat->af)(t z:List V->af)(r:Nm->af)(f c g:Nat->af)(o:Nat->List (Nat×Nm)->af):af:=V.casesOn (motive_1:=λU=>af) v d b i s t z r f c g o
def aa.k{af:Type}(x:aa)(i:Nat->List (Nat×V)->af)(l:List V->af)(s g:List (Nat×V)->af)(d:List (Int×V)->af)(c:Option V->af):af:=aa.casesOn (motive:=λU=>af) x i l s g d c
def Slot.k{af:Type}(x:Slot)(f d:af)(l:aa->af)(p:List (Nat×V)->af):af:=Slot.casesOn (motive:=λU=>af) x f d l p
abbrev nn{af aK:Type}:af->Option aK:=λU=>none
abbrev ea{af aK d:Type}:af->aK->Option d:=λU U=>none
variable{af:Type}
def V.gO(F:Nm->Option af)(v:V):Option af:=V.k v Option.none nn nn nn nn nn F nn nn nn ea
def V.eK(F:Int->Option af)(v:V):Option af:=V.k v Option.none nn F nn nn nn nn nn nn nn ea
def V.pj(F:Nat->Option af)(v:V):Option af:=V.k v Option.none nn nn nn nn nn nn nn nn F ea
def V.mw(F:List V->Option af)(v:V):Option af:=V.k v Option.none nn nn nn F nn nn nn nn nn ea
def V.rf(F:List V->Option af)(v:V):Option af:=V.k v Option.none nn nn nn nn F nn nn nn nn ea
def V.jO(F:Bool->Option af)(v:V):Option af:=V.k v Option.none F nn nn nn nn nn nn nn nn ea
def ee(F:aa->Option af)(s:Slot):Option af:=Slot.k s none none F nn
def aa.rN(F:Nat->List (Nat×V)->Option af)(o:aa):Option af:=aa.k o F nn nn nn nn nn
def aa.rY(F:List V->Option af)(o:aa):Option af:=aa.k o ea F nn nn nn nn
def aa.sA(F:List (Nat×V)->Option af)(o:aa):Option af:=aa.k o ea nn F nn nn nn
def aa.ng(F:List (Nat×V)->Option af)(o:aa):Option af:=aa.k o ea nn nn F nn nn
def aa.cell?(F:Option V->Option af)(o:aa):Option af:=aa.k o ea nn nn nn nn F
def aa.pM(F:List V->Option af)(ah:List (Int×V)->Option af)(o:aa):Option af:=aa.k o ea F nn nn ah nn
def no{u:af}{P:Prop}(e:none=some u):P:=nomatch e
variable{u:af}
@[elab_as_elim]def lj{F:Nm->Option af}{M:V->Prop}{v:V}(e:v.gO F=some u)(k:∀a,F a=some u->M (.ref a)):M v:=V.casesOn (motive_1:=λv=>v.gO F=some u->M v) v no (λU=>no) (λU=>no) (λU=>no) (λU=>no) (λU=>no) k (λU=>no) (λU=>no) (λU=>no) (λU U=>no) e
@[elab_as_elim]def gJ{F:Int->Option af}{M:V->Prop}{v:V}(e:v.eK F=some u)(k:∀a,F a=some u->M (.int a)):M v:=V.casesOn (motive_1:=λv=>v.eK F=some u->M v) v no (λU=>no) k (λU=>no) (λU=>no) (λU=>no) (λU=>no) (λU=>no) (λU=>no) (λU=>no) (λU U=>no) e
@[elab_as_elim]def x8{F:Nat->Option af}{M:V->Prop}{v:V}(e:v.pj F=some u)(k:∀a,F a=some u->M (.gk a)):M v:=V.casesOn (motive_1:=λv=>v.pj F=some u->M v) v no (λU=>no) (λU=>no) (λU=>no) (λU=>no) (λU=>no) (λU=>no) (λU=>no) (λU=>no) k (λU U=>no) e
@[elab_as_elim]def Bv{F:List V->Option af}{M:V->Prop}{v:V}(e:v.mw F=some u)(k:∀a,F a=some u->M (.tup a)):M v:=V.casesOn (motive_1:=λv=>v.mw F=some u->M v) v no (λU=>no) (λU=>no) (λU=>no) k (λU=>no) (λU=>no) (λU=>no) (λU=>no) (λU=>no) (λU U=>no) e
@[elab_as_elim]def Qp{F:List V->Option af}{M:V->Prop}{v:V}(e:v.rf F=some u)(k:∀a,F a=some u->M (.fz a)):M v:=V.casesOn (motive_1:=λv=>v.rf F=some u->M v) v no (λU=>no) (λU=>no) (λU=>no) (λU=>no) k (λU=>no) (λU=>no) (λU=>no) (λU=>no) (λU U=>no) e
@[elab_as_elim]def ma{F:aa->Option af}{M:Slot->Prop}(e:ee F s=some u)(k:∀o,F o=some u->M (.live o)):M s:=Slot.casesOn (motive:=λs=>ee F s=some u->M s) s no no k (λU=>no) e
@[elab_as_elim]def TL{F:Nat->List (Nat×V)->Option af}{M:aa->Prop}{o:aa}(e:o.rN F=some u)(k:∀c fs,F c fs=some u->M (.inst c fs)):M o:=aa.casesOn (motive:=λo=>o.rN F=some u->M o) o k (λU=>no) (λU=>no) (λU=>no) (λU=>no) (λU=>no) e
@[elab_as_elim]def HD{F:List V->Option af}{M:aa->Prop}{o:aa}(e:o.rY F=some u)(k:∀xs,F xs=some u->M (.list xs)):M o:=aa.casesOn (motive:=λo=>o.rY F=some u->M o) o (λU U=>no) k (λU=>no) (λU=>no) (λU=>no) (λU=>no) e
@[elab_as_elim]def XV{F:List (Nat×V)->Option af}{M:aa->Prop}{o:aa}(e:o.sA F=some u)(k:∀xs,F xs=some u->M (.dp xs)):M o:=aa.casesOn (motive:=λo=>o.sA F=some u->M o) o (λU U=>no) (λU=>no) k (λU=>no) (λU=>no) (λU=>no) e
@[elab_as_elim]def x4{F:List (Nat×V)->Option af}{M:aa->Prop}{o:aa}(e:o.ng F=some u)(k:∀xs,F xs=some u->M (.aU xs)):M o:=aa.casesOn (motive:=λo=>o.ng F=some u->M o) o (λU U=>no) (λU=>no) (λU=>no) k (λU=>no) (λU=>no) e
@[elab_as_elim]def Nf{F:Option V->Option af}{M:aa->Prop}{o:aa}(e:o.cell? F=some u)(k:∀xs,F xs=some u->M (.cell xs)):M o:=aa.casesOn (motive:=λo=>o.cell? F=some u->M o) o (λU U=>no) (λU=>no) (λU=>no) (λU=>no) (λU=>no) k e
@[elab_as_elim]def UG{F:List V->Option af}{ah:List (Int×V)->Option af}{M:aa->Prop}{o:aa}(e:o.pM F ah=some u)(k:∀xs,F xs=some u->M (.list xs))(k':∀xs,ah xs=some u->M (.fc xs)):M o:=aa.casesOn (motive:=λo=>o.pM F ah=some u->M o) o (λU U=>no) k (λU=>no) (λU=>no) k' (λU=>no) e
def gY{aK:Type}{o:Option aK}{F:aK->Option af}{C:Prop}(e:o.bind F=some u)(k:∀a,o=some a->F a=some u->C):C:=Option.rec (motive:=λx=>x.bind F=some u->(∀a,x=some a->F a=some u->C)->C) (λe U=>no e) (λa e k=>k a rfl e) o e k
def gi{aK:Type}{o:Option aK}{F:aK->af}{C:Prop}(e:o.map F=some u)(k:∀a,o=some a->F a=u->C):C:=Option.rec (motive:=λx=>x.map F=some u->(∀a,x=some a->F a=u->C)->C) (λe U=>no e) (λa e k=>k a rfl (aL e)) o e k
def dw{p:Prop}[Decidable p]{a:Option af}{C:Prop}(e:(if p then a else none)=some u)(k:p->a=some u->C):C:=(Decidable.em p).elim (λh=>k h ((al h).symm.trans e)) λh=>no ((ak h).symm.trans e)
def gL(s:Slot):Option (List V):=ee (aa.rY some) s
def UL(e:gL s=some xs):s=.live (.list xs):=ma (M:=λs=>s=.live (.list xs)) e λU e=>HD (M:=λo=>Slot.live o=.live (.list xs)) e λU e=>aq (λx=>Slot.live (.list x)) (aL e)
def nf(s:Slot):Option (List (Nat×V)):=ee (aa.ng some) s
def rg(e:nf s=some xs):s=.live (.aU xs):=ma (M:=λs=>s=.live (.aU xs)) e λU e=>x4 (M:=λo=>Slot.live o=.live (.aU xs)) e λU e=>aq (λx=>Slot.live (.aU x)) (aL e)
def oY(s:Slot):Option (Option V):=ee (aa.cell? some) s
def C8(e:oY s=some v):s=.live (.cell v):=ma (M:=λs=>s=.live (.cell v)) e λU e=>Nf (M:=λo=>Slot.live o=.live (.cell v)) e λU e=>aq (λx=>Slot.live (.cell x)) (aL e)
def Ag{af:Type}{F:List V->Option af}{ah:List (Int×V)->Option af}{u:af}(e:ee (aa.pM F ah) s=some u):(∃xs,s=.live (.list xs)/\F xs=some u)\/∃es,s=.live (.fc es)/\ah es=some u:=
 ma (M:=λs=>(∃xs,s=.live (.list xs)/\F xs=some u)\/∃es,s=.live (.fc es)/\ah es=some u) e λU e=>UG (M:=λo=>(∃xs,Slot.live o=.live (.list xs)/\F xs=some u)\/∃es,Slot.live o=.live (.fc es)/\ah es=some u) e (λxs e=>.inl #[xs,rfl,e]) λes e=>.inr #[es,rfl,e]
def UM{af:Type}{F:List V->Option af}{u:af}(e:ee (aa.rY F) s=some u):∃xs,s=.live (.list xs)/\F xs=some u:=
 ma (M:=λs=>∃xs,s=.live (.list xs)/\F xs=some u) e λU e=>HD (M:=λo=>∃xs,Slot.live o=.live (.list xs)/\F xs=some u) e λes e=>#[es,rfl,e]
def Js{af:Type}{F:List (Nat×V)->Option af}{u:af}(e:ee (aa.sA F) s=some u):∃es,s=.live (.dp es)/\F es=some u:=
 ma (M:=λs=>∃es,s=.live (.dp es)/\F es=some u) e λU e=>XV (M:=λo=>∃es,Slot.live o=.live (.dp es)/\F es=some u) e λes e=>#[es,rfl,e]
def E3{af:Type}{F:List (Nat×V)->Option af}{u:af}(e:ee (aa.ng F) s=some u):∃es,s=.live (.aU es)/\F es=some u:=
 ma (M:=λs=>∃es,s=.live (.aU es)/\F es=some u) e λU e=>x4 (M:=λo=>∃es,Slot.live o=.live (.aU es)/\F es=some u) e λes e=>#[es,rfl,e]
def aT(s:Slot)(f:Nat):Option V:=ee (aa.rN λU fs=>bh f fs) s
def aZ(s:Slot)(f:Nat)(x:V):Option Slot:=ee (aa.rN λc fs=>if(cc f x fs).length<=100 then some (.live (.inst c (cc f x fs)))else none) s
def jT(h:H)(v:V)(f:Nat):Option V:=v.gO λa=>aT (h a) f
def ml(h:H)(v:V)(f:Nat)(x:V):Option H:=v.gO λa=>(aZ (h a) f x).map (h.set a)
def iP(xs:List V)(i:Int):Option V:=if 0<=i/\i<1000 then xs[i.toNat]? else none
def eg(xs:List V)(i:Int):Option V:=if i= -1 then xs.getLast? else iP xs i
def x7(n:Nat)(i:Int):Option V:=if i=0 then some (.str n)else if i=1 then some .none else none
def uG(s:Slot)(i:Int):Option V:=ee (aa.pM (λxs=>eg xs i) λes=>bh i es) s
def hV(s:Slot)(f:Nat):Option V:=ee (aa.sA λes=>bh f es) s
def pn(s:Slot)(n:Nat):Option V:=Slot.k s none none (aa.ng λes=>bh n es) λes=>bh n es
def QJ{s:Slot}{n:Nat}{u:V}(e:pn s n=some u):∃es,(s=.live (.aU es)\/s=.pin es)/\bh n es=some u:=
 Slot.casesOn (motive:=λs=>pn s n=some u->∃es,(s=.live (.aU es)\/s=.pin es)/\bh n es=some u) s no no (λU e=>x4 (M:=λo=>∃es,(Slot.live o=.live (.aU es)\/Slot.live o=.pin es)/\bh n es=some u) e λes e=>#[es,.inl rfl,e]) (λes e=>#[es,.inr rfl,e]) e
def QF(h:H)(v:V)(i:Int):Option V:=V.k v none nn nn nn (λxs=>iP xs i) (λxs=>eg xs i) (λa=>uG (h a) i) nn nn (λn=>x7 n i) ea
def bM(h:H)(v k:V):Option V:=V.k k none nn (λi=>QF h v i) (λn=>v.gO λa=>hV (h a) n) nn nn nn nn nn (λn=>v.gO λa=>pn (h a) n) ea
def sE(s:Slot)(i:Int)(x:V):Option Slot:=ee (aa.pM (λxs=>if 0<=i/\i<xs.length/\i<1000 then some (.live (.list (xs.set i.toNat x)))else none) λes=>if es.length<=1000 then some (.live (.fc (cc i x es)))else none) s
def ik(s:Slot)(f:Nat)(x:V):Option Slot:=ee (aa.sA λes=>if es.length<=1000 then some (.live (.dp (cc f x es)))else none) s
def A6(s:Slot)(n:Nat)(x:V):Option Slot:=ee (aa.ng λes=>if es.length<=1000 then some (.live (.aU (cc n x es)))else none) s
def X6(s:Slot)(k x:V):Option Slot:=V.k k none nn (λi=>sE s i x) (λn=>ik s n x) nn nn nn nn nn (λn=>A6 s n x) ea
def ki(h:H)(v k x:V):Option H:=v.gO λa=>(X6 (h a) k x).map (h.set a)
def ia(xs:List V):Option Bool:=if xs.length<=1000 then some (!xs.isEmpty)else none
def Bq(s:Slot):Option Bool:=(gL s).bind ia
def truthy(h:H)(v:V):Option Bool:=V.k v (some false) some (λi=>some (decide (i≠0))) nn nn ia (λa=>Bq (h a)) nn nn nn ea
inductive FV where
 |n|i (i:Int)|s (n:Nat)
def V.tU(v:V):Option FV:=V.k v (some .n) nn (λi=>some (.i i)) (λn=>some (.s n)) nn nn nn nn nn nn ea
def FV.eq(a b:FV):Bool:=FV.casesOn (motive:=λU=>Bool) a (FV.casesOn (motive:=λU=>Bool) b true (λU=>false) λU=>false) (λx=>FV.casesOn (motive:=λU=>Bool) b false (λy=>decide (x=y)) λU=>false) (λx=>FV.casesOn (motive:=λU=>Bool) b false (λU=>false) λy=>decide (x=y))
def gD(a b:V):Option Bool:=a.tU.bind λx=>b.tU.bind λy=>some (x.eq y)
def eZ:List V->List V->Option Bool
 |[]=>λl=>match l with|[]=>some true|_::_=>none
 |x::xs=>λl=>match l with|[]=>none|y::u=>(gD x y).bind λa=>(eZ xs u).bind λb=>some (a&&b)
def da(xs y:List V):Option Bool:=if xs.length=y.length then eZ xs y else some false
def fR(h:H)(v:V):Option (List V):=V.k v none nn nn nn nn some (λa=>gL (h a)) nn nn nn ea
def JR(o:Option (List V))(y:List V):Option Bool:=o.bind λxs=>da xs y
def eh(h:H)(a b:V):Option Bool:=V.k a (gD .none b) nn (λi=>gD (.int i) b) (λn=>gD (.str n) b) (λxs=>b.mw (eZ xs)) (λxs=>(fR h b).bind (da xs)) (λa=>(gL (h a)).bind λxs=>(fR h b).bind (da xs)) nn nn (λn=>b.pj λm=>some (decide (n=m))) ea
set_option genCtorIdx true in
inductive mD where
 |eq|ne|lt|le|gt|ge|is|dy|rM|sf
set_option genCtorIdx true in
inductive eS where
 |add|sub|mul|mod|fdiv
def ev(v:V):Bool:=V.k v true (λU=>false) (λU=>false) (λU=>false) (λU=>false) (λU=>false) (λU=>false) (λU=>false) (λU=>false) (λU=>false) (λU U=>false)
def Ak(s:Slot)(n:Nat):Option Bool:=ee (aa.ng λes=>some (bh n es).isNone) s
def kY{af:Type}(F:Int->Int->Option af)(a b:V):Option af:=a.eK λx=>b.eK λy=>F x y
def gC(h:H)(e:mD)(a b:V):Option Bool:=match e with
 |.eq=>eh h a b
 |.ne=>(eh h a b).map (!·)
 |.lt=>kY (λx y=>some (decide (x<y))) a b
 |.le=>kY (λx y=>some (decide (x<=y))) a b
 |.gt=>kY (λx y=>some (decide (x>y))) a b
 |.ge=>kY (λx y=>some (decide (x>=y))) a b
 |.is=>if ev b=true then some (ev a)else none
 |.dy=>if ev b=true then some (!ev a)else none
 |.rM=>(fR h b).bind λxs=>if xs.isEmpty=true then some false else none
 |.sf=>b.gO λd=>a.pj λn=>Ak (h d) n
abbrev small(i:Int):Prop:= -(2^62)<i/\i<2^62
def ww(d:eS)(x y:Int):Option V:=match d with
 |.add=>some (.int (x+y))
 |.sub=>some (.int (x-y))
 |.mul=>none
 |.mod=>if y=0 then none else some (.int (x.fmod y))
 |.fdiv=>if 0<y/\y<100 then some (.int (x.fdiv y))else none
def f5(d:eS)(a b:V):Option V:=kY (ww d) a b
def eL(h:H)(v:V):Option (List V):=V.k v none nn nn nn some some (λa=>gL (h a)) nn nn nn ea
def V.seq?(v:V):Option (List V):=V.k v Option.none nn nn nn some some nn nn nn nn ea
mutual
inductive E where
 |none|tt|ff
 |int (i:Int)
 |str (n:Nat)
 |loc (x:Nat)
 |cf (x:Nat)
 |ba (x:Nat)
 |attr (e:E) (f:Nat)
 |item (e i:E)
 |oq (e i:E)
 |qk (e:E) (k:Nat)
 |cmp (op:mD) (a b:E)
 |mT (a b:E)
 |eP (a b:E)
 |not (a:E)
 |bin (op:eS) (a b:E)
 |ite (c a b:E)
 |lst (EW:Bool) (xs:Es)
 |tup (xs:Es)
 |kI (g:Bool)
 |dp (ks:List Nat) (vs:Es)
 |comp (EW:Bool) (jS:E) (ts:List Nat) (cU:Bool) (dq:E) (cond:Es)
 |rep (EW:Bool) (x n:E)
 |call (f:E) (args:Es)
 |gj (o:E) (m:Nat) (args:Es)
 |len (e:E)
 |max (a b:E)
 |sorted (e:E)
inductive Es where
 |nil
 |cons (e:E) (r:Es)
end
mutual
inductive S where
 |asg (c:Bool) (x:Nat) (e:E)
 |im (ts:List (Bool×Nat)) (e:E)
 |swap (x y:Nat) (a b:E)
 |fg (o:E) (f:Nat) (e:E)
 |ig (o i e:E)
 |kB (o:E) (f:Nat) (op:eS) (e:E)
 |mW (o i:E) (op:eS) (e:E)
 |ex (e:E)
 |ite (c:E) (a b:Ss)
 |gT (c:E) (b:Ss)
 |loop (ts:List Nat) (cU:Bool) (dq:E) (b:Ss)
 |ret (e:E)
 |gP
 |cont
 |kH (x f:Nat)
 |qa (e:E)
 |gR (b:Ss) (x:Nat)
 |dead
inductive Ss where
 |nil
 |cons (s:S) (r:Ss)
end
inductive Iz where
 |p (x:Nat)|n|b|i (k:Int)|g (x:Nat)|z|m|d
def Iz.e(x:Iz):E:=Iz.casesOn (motive:=λU=>E) x .loc .none .ff .int .ba (.lst true .nil) (.lst false .nil) (.kI true)
def jt(r:Ss):List (Nat×Iz)->Ss
 |[]=>r
 |x::t=>.cons (.fg (.loc 6) x.1 x.2.e) (jt r t)
set_option genCtorIdx true in
inductive Fl where
 |next|cont
 |ret (v:V)
structure aB where
 nm:Nat
 params:List (Bool×Nat)
 dE:List V:=[]
 cells:List Nat:=[]
 frees:List Nat:=[]
 body:Ss
structure Y where
 gl:Nat->Option V
 fns:Nat->Option aB
 rL:Nat->Option Nat
 meths:Nat->Nat->Option Nat
 mN:Nat
abbrev QV:=V->H->Prop
abbrev Fn:=V->List V->H->QV->QV->Prop
def tq(t:Bool)(Q:QV)(v:V)(h:H):Prop:=if t then ay (truthy h v) λb=>Q (.bool b) h else Q v h
def alloc(h:H)(o:aa)(k:V->H->Prop):Prop:=∃a,h a=.fresh/\k (.ref a) (h.set a (.live o))
def jz(d:Bool)(xs:List V)(h:H)(Q:QV):Prop:=
 xs.length<=1000/\if d then Q (.fz xs) h else alloc h (.list xs) Q
def f6:List Nat->V->Lc->Option Lc
 |[]=>λU U=>none
 |x::r=>λv l=>match r with|[]=>some (upd l x v)|y::r=>v.mw λxs=>go (x::y::r) xs l
where
 go:List Nat->List V->Lc->Option Lc
  |[]=>λvs l=>match vs with|[]=>some l|_::_=>none
  |x::r=>λvs l=>match vs with|[]=>none|v::vs=>go r vs (upd l x v)
def aX(n:Int):List V:=(List.range n.toNat).map λi=>V.int (Int.ofNat i)
def eA(d:Bool)(v:V)(h:H):Option (List V):=if d then v.eK λn=>if-1000<=n then some (aX n)else none else eL h v
def cE(d:Bool)(v:V)(xs:List V)(h:H):Prop:=d=true\/eL h v=some xs
def pinned(d:Bool)(v:V)(h:H):Option (Nm×List (Nat×V)):=if d then none else v.gO λa=>(nf (h a)).map λes=>(a,es)
def pins(s:Slot)(es:List (Nat×V)):Prop:=s=.pin es
def gZ(c:H->Prop)(B:V->H->(Option V->H->Prop)->Prop):List V->List V->H->(List V->H->Prop)->Prop
 |[],acc,h,Q=>c h/\Q acc h
 |x::xs,acc,h,Q=>c h/\B x h λr h=>gZ c B xs (match r with|some v=>acc++[v]|none=>acc) h Q
def cF(c:H->Prop)(B:V->Lc->H->(Fl->Lc->H->Prop)->Prop):List V->Lc->H->(Fl->Lc->H->Prop)->Prop
 |[],l,h,Q=>c h/\Q .next l h
 |x::xs,l,h,Q=>c h/\B x l h λf l h=>match f with
  |.ret v=>Q (.ret v) l h
  |.next=>cF c B xs l h Q
  |.cont=>cF c B xs l h Q
def oi(h:H)(a:Nm):V×Slot->V×H:=λr=>(r.1,h.set a r.2)
def vq(h:H):V->V×H:=λv=>(v,h)
def kA:List V->Bool
 |[]=>true
 |v::r=>(v.eK some).isSome&&kA r
def kP(i:Int):List V->Bool
 |[]=>false
 |v::r=>(match v.eK some with|some j=>decide (j=i)|none=>false)||kP i r
def jf(i:Int):List V->List V
 |[]=>[]
 |v::r=>match v.eK some with|some j=>if j=i then r else .int j::jf i r|none=>v::jf i r
def la(xs:List V)(m:Nat)(x:V):Option (V×Slot):=
 if m=0 then(if xs.length<1000 then some (.none,.live (.list (xs++[x])))else none)
 else if m=1 then x.eK λi=>if i=0/\xs.length<1001 then xs.head?.map λy=>(y,.live (.list xs.tail))else none
 else if m=2 then x.eK λi=>if kA xs&&(kP i xs&&decide (xs.length<1000))then some (.none,.live (.list (jf i xs)))else none
 else none
def vo(xs:List V)(o:Option V):Option (V×Slot):=o.map λy=>(y,.live (.list xs.dropLast))
def Va(m:Nat)(args:List V)(xs:List V):Option (V×Slot):=match args with
 |[]=>if m=1/\xs.length<1000 then vo xs xs.getLast? else none
 |x::r=>match r with|[]=>la xs m x|_::_=>none
def n9(s:Slot)(m:Nat)(args:List V):Option (V×Slot):=ee (aa.rY (Va m args)) s
def t7(s:Slot)(n:Nat)(d:V):Option V:=(nf s).map λes=>(bh n es).getD d
def t6(s:Slot)(n:Nat):Option (V×Slot):=(nf s).bind λes=>if es.length<1000 then(bh n es).map λu=>(u,.live (.aU (lJ n es)))else none
def oX(s:Slot):Bool:=match nf s with|some es=>es.isEmpty|none=>false
def HS(h:H)(a:Nm)(m:Nat)(args:List V):Option (V×H):=match args with
 |[]=>if m=5 then(if oX (h a)then some (.none,h)else none)else none
 |x::r=>match r with
  |[]=>none
  |d::r=>match r with
   |[]=>x.pj λn=>if m=4 then(t7 (h a) n d).map (vq h)else if m=1 then(t6 (h a) n).map (oi h a)else none
   |_::_=>none
def j7(g:Bool)(h:H)(a:Nm)(m:Nat)(args:List V):Option (V×H):=if g then HS h a m args else(n9 (h a) m args).map (oi h a)
def j0:List V->Option (List Int)
 |[]=>some []
 |v::r=>v.eK λi=>(j0 r).map (i::·)
def qi(s:Slot):Option (List V):=ee (aa.pM (λxs=>if xs.length<64 then(j0 xs).map λns=>(ns.mergeSort (λa b=>decide (a<=b))).map V.int else none)
 λes=>match es with|[]=>some []|p::r=>match r with|[]=>some [.int p.1]|_::_=>none) s
def ot(h:H)(v:V):Option (List V):=v.gO λa=>qi (h a)
def mZ(G:Ka):List Nat->Option (List (Nat×Nm))
 |[]=>some []
 |x::r=>(G x).bind λa=>(mZ G r).map λl=>(x,a)::l
inductive qH where
 |obj (a:Nm) (c:Nat) (g:Option V)|lst (a:Nm)|xl (a:Nm)|fz (xs:List V)
def AZ(a:Nm)(m:Nat)(s:Slot):Option qH:=ee (λo=>aa.k o (λc fs=>some (.obj a c (bh m fs))) (λU=>some (.lst a)) nn (λU=>some (.xl a)) nn nn) s
def A0(h:H)(m:Nat)(v:V):Option qH:=V.k v none nn nn nn nn (λxs=>some (.fz xs)) (λa=>AZ a m (h a)) nn nn nn ea
def i6(h h':H):Prop:=∀a,h' a=h a\/(h' a=.dead/\∃o,h a=.live o)
def Ai(P:Y)(O:Fn)(m:Nat)(X:QV)(q:QV)(w:(List V->H->Prop)->Prop):qH->Prop
 |.obj a c o=>(match o with
  |some g=>6<=m/\m≠P.mN/\w λvs h=>O g vs h q X
  |none=>ay (P.meths c m) λg=>w λvs h=>O (.fn g) (.ref a::vs) h q X)
 |.lst a=>m<3/\w λvs h=>ay (j7 false h a m vs) λr=>q r.1 r.2
 |.xl a=>(m=1\/m=4\/m=5)/\w λvs h=>ay (j7 true h a m vs) λr=>q r.1 r.2
 |.fz xs=>(m=3/\xs.length<=1000)/\w λvs h=>vs=[.fz []]/\q .none h
section
variable(P:Y)(O:Fn)
mutual
def au(G:Ka):E->Bool->Lc->H->QV->QV->Prop
 |.none=>λt U h Q U=>tq t Q .none h
 |.tt=>λt U h Q U=>tq t Q (.bool true) h
 |.ff=>λt U h Q U=>tq t Q (.bool false) h
 |.int i=>λt U h Q U=>tq t Q (.int i) h
 |.str n=>λt U h Q U=>tq t Q (.str n) h
 |.loc x=>λt l h Q U=>ay (l x) λv=>tq t Q v h
 |.cf x=>λt U h Q U=>ay (G x) λa=>ay ((oY (h a)).bind id) λv=>tq t Q v h
 |.ba x=>λt U h Q U=>ay (P.gl x) λv=>tq t Q v h
 |.attr e f=>λt l h Q X=>au G e false l h (λv h=>ay (jT h v f) λu=>tq t Q u h) X
 |.item e i=>λt l h Q X=>au G e false l h (λv h=>au G i false l h (λk h=>ay (bM h v k) λu=>tq t Q u h) X) X
 |.oq e i=>λt l h Q X=>au G e false l h (λv h=>au G i false l h (λk h=>ay (v.rf some) λxs=>ay (k.eK some) λn=>(0<=n/\xs.length<=1000)/\tq t Q (.fz (xs.drop n.toNat)) h) X) X
 |.qk e k=>λt l h Q X=>au G e false l h (λv h=>ay (v.mw some) λxs=>(0<k/\k<xs.length/\xs.length<=1000)/\tq t Q (.tup (xs.take k)) h) X
 |.cmp op a b=>λU l h Q X=>au G a false l h (λx h=>au G b false l h (λy h=>ay (gC h op x y) λr=>Q (.bool r) h) X) X
 |.mT a b=>λt l h Q X=>au G a t l h (λx h=>ay (truthy h x) λc=>if c then au G b t l h Q X else Q x h) X
 |.eP a b=>λt l h Q X=>au G a t l h (λx h=>ay (truthy h x) λc=>if c then Q x h else au G b t l h Q X) X
 |.not a=>λt l h Q X=>au G a t l h (λx h=>ay (truthy h x) λc=>Q (.bool (!c)) h) X
 |.bin op a b=>λt l h Q X=>au G a false l h (λx h=>au G b false l h (λy h=>ay (f5 op x y) λu=>tq t Q u h) X) X
 |.ite c a b=>λt l h Q X=>au G c true l h (λx h=>ay (x.jO some) λc=>if c then au G a t l h Q X else au G b t l h Q X) X
 |.lst z xs=>λt l h Q X=>cM G xs l h (λvs h=>jz z vs h λv h=>tq t Q v h) X
 |.tup xs=>λt l h Q X=>cM G xs l h (λvs h=>vs.length<=1000/\tq t Q (.tup vs) h) X
 |.kI g=>λt U h Q U=>alloc h (if g then .aU []else .fc []) λv h=>tq t Q v h
 |.dp ks vs=>λt l h Q X=>cM G vs l h (λvs h=>ks.length=vs.length/\alloc h (.dp (ks.zip vs)) λv h=>tq t Q v h) X
 |.comp z e ts cU dq cs=>λt l h Q X=>au G dq false l h (λv h=>ay (eA cU v h) λxs=>xs.length<=1000/\
  gZ (cE cU v xs) (λx h K=>ay (f6 ts x λU=>none) λl'=>my G cs l' h (λb h=>if b then au G e false l' h (λu h=>K (some u) h) (λU U=>False)else K none h) (λU U=>False))
   xs [] h λus h=>jz z us h λv h=>tq t Q v h) X
 |.rep z x n=>λt l h Q X=>au G x false l h (λv h=>au G n false l h (λk h=>ay (k.eK some) λi=> -200<i/\i<200/\jz z (List.replicate i.toNat v) h λv h=>tq t Q v h) X) X
 |.call f as=>λt l h Q X=>au G f false l h (λc h=>cM G as l h (λvs h=>O c vs h (λv h=>tq t Q v h) X) X) X
 |.gj o m as=>λt l h Q X=>au G o false l h (λv h=>ay (A0 h m v) (Ai P O m X (λv h=>tq t Q v h) λR=>cM G as l h R X)) X
 |.len e=>λt l h Q X=>au G e false l h (λv h=>ay (eL h v) λxs=>xs.length<=1000/\tq t Q (.int xs.length) h) X
 |.max a b=>λt l h Q X=>au G a false l h (λx h=>au G b false l h (λy h=>ay (kY (λi j=>some (if j>i then j else i)) x y) λr=>tq t Q (.int r) h) X) X
 |.sorted e=>λt l h Q X=>au G e false l h (λv h=>ay (ot h v) λxs=>tq t Q (.fz xs) h) X
def cM(G:Ka):Es->Lc->H->(List V->H->Prop)->QV->Prop
 |.nil=>λU h Q U=>Q [] h
 |.cons e r=>λl h Q X=>au G e false l h (λv h=>cM G r l h (λvs h=>Q (v::vs) h) X) X
def my(G:Ka):Es->Lc->H->(Bool->H->Prop)->QV->Prop
 |.nil=>λU h Q U=>Q true h
 |.cons e _=>λl h Q X=>au G e true l h (λv h=>ay (v.jO some) λb=>Q b h) X
end
def ez(G:Ka):List (Bool×Nat)->List V->Lc->H->(Lc->H->Prop)->Prop
 |[]=>λvs l h Q=>match vs with|[]=>Q l h|_::_=>False
 |p::r=>λvs l h Q=>match vs with
  |[]=>False
  |v::vs=>if p.1=true then ay (G p.2) λa=>ay (oY (h a)) λU=>ez G r vs l (h.set a (.live (.cell (some v)))) Q else ez G r vs (upd l p.2 v) h Q
def dJ(C:Lc->H->(Bool->H->Prop)->Prop)(B:Lc->H->(Fl->Lc->H->Prop)->Prop):Nat->Lc->H->(Fl->Lc->H->Prop)->Prop
 |0,_,_,_=>False
 |n+1,l,h,Q=>C l h λb h=>if b then B l h (λf l h=>match f with
  |.ret v=>Q (.ret v) l h
  |.next=>dJ C B n l h Q
  |.cont=>dJ C B n l h Q)else Q .next l h
mutual
def wpS(G:Ka):S->Lc->H->(Fl->Lc->H->Prop)->(V->Lc->H->Prop)->Prop
 |.asg c x e=>λl h Q X=>au P O G e false l h (λv h=>ez G [(c,x)] [v] l h (Q .next)) (λv h=>X v l h)
 |.im ts e=>λl h Q X=>au P O G e false l h (λv h=>ay v.seq? λxs=>ez G ts xs l h (Q .next)) (λv h=>X v l h)
 |.swap x y a b=>λl h Q X=>au P O G a false l h (λu h=>au P O G b false l h (λv h=>Q .next (upd (upd l y v) x u) h) (λv h=>X v l h)) (λv h=>X v l h)
 |.fg o f e=>λl h Q X=>au P O G e false l h (λv h=>au P O G o false l h (λa h=>ay (ml h a f v) λh=>Q .next l h) (λv h=>X v l h)) (λv h=>X v l h)
 |.ig o i e=>λl h Q X=>au P O G e false l h (λv h=>au P O G o false l h (λa h=>au P O G i false l h (λk h=>ay (ki h a k v) λh=>Q .next l h)
  (λv h=>X v l h)) (λv h=>X v l h)) (λv h=>X v l h)
 |.kB o f op e=>λl h Q X=>au P O G o false l h (λa h=>ay (jT h a f) λu=>au P O G e false l h (λv h=>ay (f5 op u v) λr=>ay (ml h a f r) λh=>Q .next l h)
  (λv h=>X v l h)) (λv h=>X v l h)
 |.mW o i op e=>λl h Q X=>au P O G o false l h (λa h=>au P O G i false l h (λk h=>ay (bM h a k) λu=>au P O G e false l h (λv h=>ay (f5 op u v) λr=>
  ay (ki h a k r) λh=>Q .next l h) (λv h=>X v l h)) (λv h=>X v l h)) (λv h=>X v l h)
 |.ex e=>λl h Q X=>au P O G e false l h (λU h=>Q .next l h) (λv h=>X v l h)
 |.ite c a b=>λl h Q X=>au P O G c true l h (λx h=>ay (x.jO some) λc=>if c then bc G a l h Q X else bc G b l h Q X) (λv h=>X v l h)
 |.gT c b=>λl h Q X=>∃n,dJ (λl h K=>au P O G c true l h (λx h=>ay (x.jO some) λr=>K r h) (λv h=>X v l h))
  (λl h K=>bc G b l h K X) n l h Q
 |.loop ts cU dq b=>λl h Q X=>au P O G dq false l h (λv h=>match pinned cU v h with
  |some p=>p.2.length<=1000/\cF (λh=>pins (h p.1) p.2) (λx l h K=>ay (f6 ts x l) λl=>bc G b l h K (λU U U=>False)) (p.2.map λp=>.gk p.1) l (h.set p.1 (.pin p.2))
   (λf l h=>f=.next/\Q .next l (h.set p.1 (.live (.aU p.2))))
  |none=>ay (eA cU v h) λxs=>xs.length<=1000/\
   cF (cE cU v xs) (λx l h K=>ay (f6 ts x l) λl=>bc G b l h K (λU U U=>False)) xs l h Q) (λv h=>X v l h)
 |.ret e=>λl h Q X=>au P O G e false l h (λv h=>Q (.ret v) l h) (λv h=>X v l h)
 |.gP=>λl h Q U=>Q (.ret .none) l h
 |.cont=>λl h Q U=>Q .cont l h
 |.kH x f=>λl h Q U=>ay (P.fns f) λd=>ay (mZ G d.frees) λcs=>Q .next (upd l x (.clo f cs)) h
 |.qa e=>λl h U X=>au P O G e false l h (λv h=>X v l h) (λv h=>X v l h)
 |.gR b x=>λl h Q U=>bc G b l h Q λv l h=>Q .next (upd l x v) h
 |.dead=>λU U U U=>False
def bc(G:Ka):Ss->Lc->H->(Fl->Lc->H->Prop)->(V->Lc->H->Prop)->Prop
 |.nil=>λl h Q U=>Q .next l h
 |.cons s r=>λl h Q X=>wpS G s l h (λf l h=>match f with|.next=>bc G r l h Q X|.cont=>Q .cont l h|.ret v=>Q (.ret v) l h) X
end
end
def r8(d:aB)(e:Lc):List Nat->Ka->H->(Ka->H->Prop)->Prop
 |[],G,h,Q=>Q G h
 |x::r,G,h,Q=>∃a,h a=.fresh/\r8 d e r (λy=>if y=x then some a else G y) (h.set a (.live (.cell (e x)))) Q
def gB:List (Bool×Nat)->List V->Lc->Option Lc
 |[]=>λvs l=>match vs with|[]=>some l|_::_=>none
 |p::r=>λvs l=>match vs with|[]=>none|v::vs=>gB r vs (upd l p.2 v)
def jA(ps:List (Bool×Nat))(l:Lc):Lc:=λx=>if(ps.any λp=>p.1&&p.2==x)then none else l x
def ei(P:Y)(O:Fn)(d:aB)(clo:List (Nat×Nm))(args:List V)(h:H)(Q X:QV):Prop:=
 ay (gB d.params (args++d.dE) λU=>none) λl=>
  r8 d l d.cells (λx=>clo.lookup x) h λG h=>
   bc P O G d.body (jA d.params l) h
    (λf U h=>∃h',i6 h h'/\match f with|.ret v=>Q v h'|.next=>Q .none h'|.cont=>False)
    (λv U h=>∃h',i6 h h'/\X v h')
def bQ(P:Y):Nat->Fn
 |0,_,_,_,_,_=>False
 |n+1,c,args,h,Q,X=>V.k c False (λU=>False) (λU=>False) (λU=>False) (λU=>False) (λU=>False) (λU=>False)
  (λf=>ay (P.fns f) λd=>d.frees=[]/\ei P (bQ P n) d [] args h Q X)
  (λc=>ay (P.rL c) λf=>ay (P.fns f) λd=>d.frees=[]/\alloc h (.inst c []) λv h=>ei P (bQ P n) d [] (v::args) h (λr h=>r=.none/\Q v h) X)
  (λU=>False) (λf u=>ay (P.fns f) λd=>ei P (bQ P n) d u args h Q X)
def NM:List PySem.Str:=List.map PySem.Str.ofString ["append","pop","remove","extend","get","clear","self","found","is_conditional","is_firm","deadline","state","MADE","values","key","target","caller","number","__init__","call","QUEUED","queues","join_queue","rest","one","leave_queue","waiting","first_call","count_calls","drain_queues","index","entry","used_keys","now","clock","wait","time_after","least","times","time","next_time","move_clock","is_due","best","alternatives","kind","data","delay","least_wait","line","leaving","resume","caught","bases","result","frame","stack","has_failed","pending","activator","inside","is_abnormal","answer","raised","masters","serving","late","wake","open","FRESH","master","name","task","DONE","COMPLETED","is_callable","READY","wake_up","called","OVER","finish_call","accept","MEETING","SERVED","begin_meeting","end_meeting","ACCEPTING","open_index","offer_call","stops_here","wait_in_queue","else","refused","tasking","EntryCall","next_number","call_entry","CALLING","cancel_call","lost","note_lost","wait_open","has_else","open_select","DELAYED","delay_task","time_is_up","is_making","cells","body","readers","writer","entries","thing","is_write","has_place","come_in","ask_lock","let_in","give_lock","pair","LOCKED","made_call","call_protected","rest_in_queue","queue_protected","is_open","next_served","end_served","heap","tasks","text","members","depth","steps","width","is_ended","dependents","owner","TaskThing","limits","make_task","fresh","activate_tasks","end_activation","are_done","drop_fresh","complete_task","library","end_library","is_moved","is_held","settle_abnormal","LEAVING","settle_ends","terminate","can_terminate","is_quiet","ended_masters","terminate_below","settle_terminates","settled","settle_tasks","serve","Master","numbers","Clock","choose","ready_tasks","waiting_tasks","pass_time","end_late","serve_lost","ready","chosen","choose_among","pick_task","_law_menu","eaten","sides","script","_law_dish","deeds","often","turn","forks","lay","meal","patience","take","hand","plan","_law_deeds","table","hands","fork","word","who","is_sound","_law_passes","server","_law_take","_law_lay","_law_fork_goes","deed","_law_at_object","lasted","seat","mine","hungry","_law_hears","has_servers","since","held","_law_goes","keeper","_law_is_laid","right","left","spot","many","_law_sides","seats","crew","plans","ProtectedThing","thinker","Tasking","chooser","Limits","wishes","_law_feast","second","first","feast","_law_is_stuck","_law_is_right","others","_law_order","starving","law","made","queued","served","over","calling","meeting","accepting","delayed","locked","completed","done"]
namespace Z
@[simp]def es:List E->Es
 |[]=>.nil
 |x::r=>.cons x (es r)
@[simp]def ss:List S->Ss
 |[]=>.nil
 |x::r=>.cons x (ss r)
@[simp]def l:=E.loc
@[simp]def g:=E.ba
@[simp]def k:=E.cf
@[simp]def i:=E.int
@[simp]def s:=E.str
@[simp]def a:=E.attr
@[simp]def t:=E.item
@[simp]def b n:=a (l n)
@[simp]def v x n:=t (l x) (s n)
@[simp]def w x n:=t (k x) (s n)
@[simp]def n:=E.not
@[simp]def q:=E.cmp .eq
@[simp]def p:=E.cmp .ne
@[simp]def j:=E.mT
@[simp]def o:=E.eP
@[simp]def c f x:=E.call (g f) (es x)
@[simp]def C f x:=E.call f (es x)
@[simp]def m e n x:=E.gj e n (es x)
@[simp]def L x:=E.lst true (es x)
@[simp]def M x:=E.lst false (es x)
@[simp]def T x:=E.tup (es x)
@[simp]def tg n x:=E.dp n (es x)
@[simp]def N z e n r y x:=E.comp z e n r y (es x)
@[simp]def A:=S.asg false
@[simp]def ae c x y:=S.ite c (ss x) (ss y)
@[simp]def F n r e x:=S.loop n r e (ss x)
@[simp]def R:=S.ret
@[simp]def X:=S.ex
@[simp]def ax x:=S.fg (l x)
@[simp]def Z x n:=S.ig (l x) (s n)
@[simp]def W c x:=S.gT c (ss x)
@[simp]def aH x n:=S.gR (ss x) n
@[simp]def f(n:Nat):=(false,n)
@[simp]def r(n:Nat):=(true,n)
@[simp]def K(n:Nat)(p:List (Bool×Nat))(d:List V)(c f:List Nat)(b:List S):aB:=#[n,p,d,c,f,ss b]
@[simp]def ai n p:=K n p [] [] []
@[simp]def uu:List S->Ss->Ss
 |[],y=>y
 |x::r,y=>.cons x (uu r y)
end Z
section
open Z
def oP:=q (l 35) (s 91)
def tl:=j (.cmp .dy (l 35) .none) (o oP (.cmp .le (l 35) (i 0)))
def tu(r:Ss):Ss:=.cons (ax 19 8 oP) (.cons (ae (j (.cmp .dy (l 35) .none) (p (l 35) (s 91))) [ax 19 10 (c 36 [b 93 34,l 35])] []) r)
def we:=o (.cmp .is (l 35) .none) (.cmp .lt (l 206) (.ite (q (l 35) (s 91)) (i 1) (l 35)))
def wg:=g 177
def oO:=ss [ae (q (l 196) (s 186)) [X (c 199 [k 193,k 195,l 196,l 197])] [ae (C (l 126) [g 201]) [A 19 (c 123 [w 193 93,l 113,l 72,g 201,L [l 197],l 35]),X (c 199 [k 193,k 195,l 196,l 197]),X (c 128 [l 19,.none])] [X (c 125 [w 193 93,l 113,l 72,g 201,L [l 197],l 35])]],A 19 (c 127 [l 113,l 126]),W (.cmp .dy (l 19) .none) [X (c 199 [k 193,k 195,s 189,t (b 19 13) (i 0)]),X (c 128 [l 19,.none]),A 19 (c 127 [l 113,l 126])],X (c 119 [l 113,l 72])]
def tn:=p (t (v 207 182) (i 0)) (T [s 186,t (v 207 208) (i 0),.none])
def wf:=ss [X (m (v 207 182) 1 [i 0])]
def tr:=ss [ae (q (l 35) (s 91)) [R (j (q (b 72 62) (T [s 92])) (q (l 206) (i 0)))] [],R (j (q (b 72 62) (T [s 66])) (q (l 206) (l 35)))]
def Dp:aB:=#[18,[f 6,f 17,f 16,f 15,f 14,f 13],[],[],[],jt .nil [(17,.p 17),(16,.p 16),(15,.p 15),(14,.p 14),(13,.p 13),(11,.g 12),(10,.n),(9,.b),(8,.b),(7,.n)]]
def w9:aB:=ai 22 [f 21,f 19] [ae (.cmp .sf (b 19 14) (l 21)) [.ig (l 21) (b 19 14) (M [])] [],X (m (t (l 21) (b 19 14)) 0 [l 19]),ax 19 11 (g 20)]
def xc:aB:=K 25 [f 21,r 19] [] [19] [] [A 23 (N false (l 24) [24] false (m (l 21) 4 [a (k 19) 14,L []]) [p (b 24 17) (a (k 19) 17)]),ae (p (l 23) (L [])) [.ig (l 21) (a (k 19) 14) (l 23)] [X (m (l 21) 1 [a (k 19) 14,.none])]]
def w7:aB:=ai 27 [f 21,f 14] [A 26 (m (l 21) 4 [l 14,L []]),R (.ite (l 26) (t (l 26) (i 0)) .none)]
def wY:aB:=ai 28 [f 21,f 14] [R (.len (m (l 21) 4 [l 14,L []]))]
def wZ:aB:=K 29 [f 21] [] [7] [] [.asg true 7 (.kI false),F [14] false (l 21) [.dead],X (m (l 21) 5 []),R (N true (t (k 7) (l 17)) [17] false (.sorted (k 7)) [])]
def xk:aB:=K 32 [f 21,f 31] [] [7] [] [.asg true 7 (.kI false),F [14] false (l 21) [ae (j (q (t (l 14) (i 0)) (l 31)) (t (l 21) (l 14))) [.ig (k 7) (.ite (.cmp .is (t (l 14) (i 1)) .none) (i (-1)) (t (l 14) (i 1))) (l 14)] []],R (N true (t (k 7) (l 30)) [30] false (.sorted (k 7)) [])]
def Dn:aB:=#[18,[f 6],[],[],[],jt .nil [(33,.i 0)]]
def Ea:aB:=ai 36 [f 34,f 35] [R (.bin .add (b 34 33) (.max (l 35) (i 0)))]
def D0:aB:=ai 40 [f 38] [A 37 .none,F [39] false (l 38) [ae (j (.cmp .dy (l 39) .none) (o (.cmp .is (l 37) .none) (.cmp .lt (l 39) (l 37)))) [A 37 (l 39)] []],R (l 37)]
def DZ:aB:=ai 41 [f 34,f 39] [ax 34 33 (.max (b 34 33) (l 39))]
def DP:aB:=ai 42 [f 34,f 39] [R (j (.cmp .dy (l 39) .none) (.cmp .le (l 39) (b 34 33)))]
def DV:aB:=ai 48 [f 44] [A 43 .none,F [30,45,46] false (l 44) [ae (j (q (l 45) (s 47)) (o (.cmp .is (l 43) .none) (.cmp .lt (l 46) (t (l 43) (i 1))))) [.dead] []],R (l 43)]
def Ds:aB:=#[18,[f 6,f 17,f 71,f 70],[],[],[],jt .nil [(17,.p 17),(71,.p 71),(70,.p 70),(11,.g 69),(21,.d),(68,.z),(67,.n),(66,.n),(19,.n),(65,.m),(64,.z),(63,.n),(62,.n),(61,.b),(60,.i 0),(59,.n),(58,.i 0),(57,.b),(56,.z),(55,.n),(54,.n),(53,.z),(52,.z),(51,.n),(50,.n),(49,.i 0)]]
def DO:aB:=ai 75 [f 72] [R (j (n (b 72 61)) (j (p (b 72 11) (g 74)) (p (b 72 11) (g 73))))]
def Ee:aB:=ai 77 [f 72,f 62,f 63] [ax 72 11 (g 76),ax 72 68 (L []),ax 72 67 .none,ax 72 66 .none,ax 72 62 (l 62),ax 72 63 (l 63)]
def DM:aB:=ai 80 [f 19,f 63] [ax 19 11 (g 79),ax 19 7 (T [T [s 78],l 63]),.fg (b 19 16) 19 .none,X (c 77 [b 19 16,T [s 78],l 63])]
def Dy:aB:=ai 84 [f 72,f 30,f 19] [ax 19 11 (g 83),.fg (b 19 16) 11 (g 82),.fg (b 19 16) 67 .none,X (m (b 72 65) 0 [l 19]),X (c 77 [l 72,T [s 81,l 30,l 19],.none])]
def DK:aB:=ai 85 [f 72,f 63] [A 19 (m (b 72 65) 1 []),X (c 80 [l 19,l 63])]
def xf:aB:=ai 87 [f 72,f 14] [ae (p (b 72 11) (g 86)) [R .none] [],F [30,45,46] false (b 72 68) [ae (j (q (l 45) (s 81)) (q (l 46) (l 14))) [R (l 30)] []],R .none]
def tJ:aB:=ai 88 [f 19] [A 30 (c 87 [b 19 15,b 19 14]),ae (.cmp .is (l 30) .none) [R .ff] [],X (c 84 [b 19 15,l 30,l 19]),R .tt]
def D9:aB:=ai 89 [f 72] [ae (o (n (b 72 61)) (.cmp .gt (b 72 60) (i 0))) [R .ff] [],.dead,R .tt]
def wX:aB:=#[96,[f 93,f 16,f 15,f 14,f 13,f 35],[],[],[],uu [ax 16 62 .none,ax 16 63 .none,ae (c 89 [l 16]) [.gP] [],ae (n (c 75 [l 15])) [.dead,.gP] [],A 19 (c 94 [m (l 93) 95 [],l 16,l 15,l 14,l 13]),ax 16 19 (l 19)] (tu (ss [ae (c 88 [l 19]) [.gP] [],ae tl [ax 19 11 (g 79),ax 16 19 .none,ax 16 62 (.ite oP (T [s 92]) (T [s 66])),.gP] [],X (c 90 [l 19])]))]
def Eb:aB:=ai 90 [f 19] [X (c 22 [a (b 19 15) 21,l 19]),.fg (b 19 16) 11 (g 97),.fg (b 19 16) 67 (.ite (b 19 9) .none (b 19 10))]
def DB:aB:=ai 98 [f 19] [X (c 25 [a (b 19 15) 21,l 19]),ax 19 11 (g 79),.fg (b 19 16) 19 .none]
def xe:aB:=ai 100 [f 93,f 72] [ae (q (b 72 11) (g 97)) [X (m (b 93 99) 0 [a (b 72 19) 15])] []]
def xg:aB:=ai 103 [f 93,f 72,f 44,f 102] [ax 72 62 .none,ax 72 63 .none,ae (c 89 [l 72]) [.gP] [],ae (j (q (l 44) (L [])) (n (l 102))) [.dead,.gP] [],F [30,45,46] false (l 44) [A 19 (.ite (q (l 45) (s 81)) (c 27 [b 72 21,l 46]) .none),ae (.cmp .dy (l 19) .none) [X (c 25 [b 72 21,l 19]),X (c 84 [l 72,l 30,l 19]),.gP] []],ae (l 102) [.dead,.gP] [],X (c 101 [l 93,l 72,l 44])]
def Ec:aB:=ai 101 [f 93,f 72,f 44] [A 37 (c 48 [l 44]),ae (j (.cmp .dy (l 37) .none) (.cmp .le (t (l 37) (i 1)) (i 0))) [.dead,.gP] [],ax 72 11 (g 86),ax 72 68 (l 44),ae (.cmp .dy (l 37) .none) [.dead,.dead] []]
def DG:aB:=ai 105 [f 93,f 72,f 35] [ax 72 62 .none,ax 72 63 .none,ae (j (n (c 89 [l 72])) (.cmp .gt (l 35) (i 0))) [ax 72 11 (g 104),ax 72 67 (c 36 [b 93 34,l 35])] []]
def xj:aB:=ai 106 [f 72] [ae (q (b 72 11) (g 97)) [X (c 98 [b 72 19]),X (c 77 [l 72,T [s 66],.none])] [ae (q (b 72 11) (g 86)) [.dead] [X (c 77 [l 72,.none,.none])]]]
def Dr:aB:=#[18,[f 6,f 17,f 112],[],[],[],jt .nil [(17,.p 17),(112,.p 112),(21,.d),(111,.n),(110,.z),(49,.z),(109,.n),(55,.n),(108,.n),(107,.b)]]
def DN:aB:=ai 115 [f 113,f 114] [ae (.cmp .dy (b 113 111) .none) [R .ff] [],R (o (n (l 114)) (q (b 113 110) (L [])))]
def DE:aB:=ai 116 [f 113,f 72,f 114] [.kB (l 72) 60 .add (i 1),ae (l 114) [ax 113 111 (l 72)] [.dead]]
def Dx:aB:=ai 117 [f 113,f 72,f 114] [ax 72 62 .none,ax 72 63 .none,ae (o (.cmp .rM (l 72) (b 113 110)) (j (.cmp .dy (b 113 111) .none) (q (a (b 113 111) 17) (b 72 17)))) [.dead] [ae (j (q (b 113 49) (L [])) (c 115 [l 113,l 114])) [X (c 116 [l 113,l 72,l 114])] [.dead,.dead]]]
def w8:aB:=K 119 [f 113,r 72] [] [72] [] [.kB (k 72) 60 .sub (i 1),ae (j (.cmp .dy (b 113 111) .none) (q (a (b 113 111) 17) (a (k 72) 17))) [ax 113 111 .none] [.dead],X (c 118 [l 113])]
def DW:aB:=ai 118 [f 113] [ax 113 49 (N true (l 120) [120] false (b 113 49) [q (a (t (l 120) (i 0)) 11) (g 121)]),W (j (b 113 49) (c 115 [l 113,t (t (b 113 49) (i 0)) (i 1)])) [.dead,.dead,.dead]]
def DX:aB:=#[122,[f 93,f 113,f 16,f 14,f 13,f 35],[],[],[],uu [A 19 (c 94 [m (l 93) 95 [],l 16,l 113,l 14,l 13])] (tu (ss [ax 16 19 (l 19),ax 16 62 .none,ax 16 63 .none,R (l 19)]))]
def Dz:aB:=ai 123 [f 93,f 113,f 16,f 14,f 13,f 35] [A 19 (c 122 [l 93,l 113,l 16,l 14,l 13,l 35]),ax 19 11 (g 83),R (l 19)]
def D3:aB:=ai 125 [f 93,f 113,f 16,f 14,f 13,f 35] [A 19 (c 122 [l 93,l 113,l 16,l 14,l 13,l 35]),ae tl [ax 19 11 (g 79),ax 16 19 .none,ax 16 62 (.ite oP (T [s 92]) (T [s 66]))] [X (c 124 [l 19])]]
def D5:aB:=ai 124 [f 19] [X (c 22 [a (b 19 15) 21,l 19]),.fg (b 19 16) 11 (g 97),.fg (b 19 16) 67 (.ite (b 19 9) .none (b 19 10))]
def xd:aB:=ai 127 [f 113,f 126] [F [31] false (b 113 112) [F [14] false (c 32 [b 113 21,l 31]) [ae (C (l 126) [l 14]) [A 19 (c 27 [b 113 21,l 14]),ae (.cmp .is (l 19) .none) [.cont] [],X (c 25 [b 113 21,l 19]),ax 19 11 (g 83),.fg (b 19 16) 11 (g 82),.fg (b 19 16) 67 .none,R (l 19)] []]],R .none]
def DL:aB:=ai 128 [f 19,f 63] [X (c 80 [l 19,l 63])]
def je:aB:=#[18,[f 6,f 135,f 134,f 133,f 132,f 131,f 130,f 129],[.int 32,.int 1000000,.int 50,.int 10000,.int 100000,.int 50,.int 1000000],[],[],jt .nil [(135,.p 135),(134,.p 134),(133,.p 133),(132,.p 132),(131,.p 131),(130,.p 130),(129,.p 129)]]
def Dq:aB:=#[18,[f 6,f 17,f 138],[],[],[],jt .nil [(17,.p 17),(138,.p 138),(137,.m),(136,.b)]]
def DY:aB:=ai 141 [f 93,f 71,f 70,f 49] [ae (.cmp .ge (.len (b 93 130)) (a (b 93 140) 130)) [.dead] [],A 72 (c 139 [m (l 93) 95 [],l 71,l 70]),ax 72 61 (j (.cmp .dy (b 70 138) .none) (a (b 70 138) 61)),X (m (b 70 137) 0 [l 72]),X (m (b 93 130) 0 [l 72]),R (l 72)]
def Dv:aB:=ai 143 [f 59,f 142] [F [72] false (l 142) [ae (q (b 72 11) (g 69)) [ax 72 11 (g 76),ax 72 59 (l 59),ae (.cmp .dy (l 59) .none) [.dead,.dead] []] []]]
def DI:aB:=ai 144 [f 72,f 57] [A 59 (b 72 59),ax 72 59 .none,ae (.cmp .is (l 59) .none) [.gP] [],.dead,.dead,.dead]
def Dw:aB:=ai 145 [f 70] [R (q (N true (l 72) [72] false (b 70 137) [p (b 72 11) (g 73)]) (L []))]
def DH:aB:=ai 146 [f 70] [F [72] false (b 70 137) [ae (q (b 72 11) (g 69)) [.dead] []]]
def DF:aB:=ai 147 [f 72] [F [19] false (c 29 [b 72 21]) [.dead],W (b 72 65) [.dead],ax 72 68 (L []),ax 72 67 .none,ax 72 11 (g 74),F [70] false (b 72 64) [.dead,.dead],X (c 144 [l 72,n (b 72 61)])]
def DJ:aB:=ai 149 [f 93] [X (c 146 [b 93 148]),.fg (b 93 148) 136 .tt]
def D7:aB:=ai 152 [f 93] [A 150 .ff,F [72] false (b 93 130) [ae (j (b 72 61) (j (p (b 72 11) (g 74)) (j (p (b 72 11) (g 73)) (n (c 151 [l 72]))))) [.dead,.dead,.dead] []],R (l 150)]
def D8:aB:=ai 154 [f 93] [A 150 .ff,F [72] false (b 93 130) [ae (j (q (b 72 11) (g 153)) (c 145 [t (b 72 64) (i (-1))])) [.dead,.dead,A 150 .tt] [ae (j (q (b 72 11) (g 74)) (q (N true (l 24) [24] false (b 72 64) [n (c 145 [l 24])]) (L []))) [ax 72 11 (g 73),A 150 .tt] []]],R (l 150)]
def DA:aB:=ai 156 [f 72] [R (j (q (b 72 11) (g 86)) (p (N true (l 45) [30,45,46] false (b 72 68) [q (l 45) (s 155)]) (L [])))]
def DQ:aB:=ai 157 [f 72] [ae (q (b 72 11) (g 73)) [R .tt] [],ae (j (n (c 156 [l 72])) (p (b 72 11) (g 74))) [R .ff] [],F [70] false (b 72 64) [.dead],R .tt]
def w6:aB:=ai 158 [f 93] [A 7 (.ite (a (b 93 148) 136) (L [b 93 148]) (L [])),F [72] false (b 93 130) [X (m (l 7) 3 [N true (l 70) [70] false (b 72 64) [b 70 136]])],R (l 7)]
def xi:aB:=ai 159 [f 72] [F [70] false (b 72 64) [.dead],ae (c 156 [l 72]) [X (c 147 [l 72])] []]
def tL:aB:=ai 160 [f 93] [A 150 .ff,F [70] false (c 158 [l 93]) [ae (j (n (c 145 [l 70])) (q (N true (l 72) [72] false (b 70 137) [n (c 157 [l 72])]) (L []))) [A 26 (N true (l 72) [72] false (b 93 130) [c 156 [l 72]]),F [72] false (b 70 137) [X (c 159 [l 72])],ae (p (N true (l 72) [72] false (l 26) [n (c 156 [l 72])]) (L [])) [A 150 .tt] []] []],R (l 150)]
def xh:aB:=ai 162 [f 93] [W (o (c 152 [l 93]) (o (c 154 [l 93]) (c 160 [l 93]))) [.kB (l 93) 161 .add (i 1)]]
def Dt:aB:=#[18,[f 6,f 140,f 167],[],[],[],jt (.cons (ax 6 34 (c 166 [])) (jt (.cons (ax 6 148 (c 164 [i 0,.none])) (jt .nil [(99,.m),(163,.n)])) [(130,.m),(165,.i 0),(161,.i 0)])) [(140,.p 140),(167,.p 167)]]
def Du:aB:=ai 95 [f 6] [.kB (l 6) 165 .add (i 1),R (b 6 165)]
def D4:aB:=ai 168 [f 93] [R (N true (l 72) [72] false (b 93 130) [q (b 72 11) (g 76)])]
def Ed:aB:=ai 169 [f 93] [R (N true (b 72 17) [72] false (b 93 130) [j (p (b 72 11) (g 73)) (p (b 72 11) (g 69))])]
def D1:aB:=ai 170 [f 93] [A 39 (c 40 [N true (b 72 67) [72] false (b 93 130) []]),ae (.cmp .is (l 39) .none) [.qa (c 169 [l 93])] [],X (c 41 [b 93 34,l 39]),F [72] false (b 93 130) [ae (c 42 [b 93 34,b 72 67]) [X (c 100 [l 93,l 72]),X (c 106 [l 72])] []]]
def w0:aB:=K 171 [r 93] [] [93] [] [A 66 (N true (l 72) [72] false (a (k 93) 130) [j (q (b 72 11) (g 97)) (c 42 [a (k 93) 34,b 72 67])]),F [72] false (l 66) [X (c 100 [k 93,l 72]),X (c 106 [l 72])],R (p (l 66) (L []))]
def D6:aB:=ai 172 [f 93] [A 99 (b 93 99),ax 93 99 (M []),ae (.cmp .is (b 93 163) .none) [R .ff] [],.dead,.dead]
def DD:aB:=ai 175 [f 93,f 173] [A 174 (m (l 93) 167 [l 173]),F [72] false (l 173) [ae (q (b 72 17) (b 174 17)) [R (l 72)] []],.dead]
def tK:aB:=ai 176 [f 93] [W .tt [X (c 162 [l 93]),W (o (c 171 [l 93]) (c 172 [l 93])) [X (c 162 [l 93])],A 173 (c 168 [l 93]),ae (l 173) [R (c 175 [l 93,l 173])] [],ae (q (c 169 [l 93]) (L [])) [R .none] [],X (c 170 [l 93])]]
def DS:aB:=ai 181 [f 180,f 178,f 179] [.mW (l 178) (i 0) .add (i 1),ae (.cmp .le (t (l 178) (i 0)) (.len (l 180))) [R (.bin .mod (t (l 180) (.bin .sub (t (l 178) (i 0)) (i 1))) (l 179))] [],R (.bin .mod (t wg (.bin .mod (.bin .sub (t (l 178) (i 0)) (i 1)) (.len wg))) (l 179))]
def DR:aB:=ai 192 [f 185,f 191] [.im [(false,190),(false,188),(false,23),(false,187),(false,183)] (l 191),A 182 (M []),F [184] true (l 183) [X (m (l 182) 0 [T [s 189,t (l 185) (i 0),.none]]),ae (.cmp .gt (l 23) (i 0)) [X (m (l 182) 0 [T [s 23,.none,l 23]])] [],X (m (l 182) 0 [T [s 189,t (l 185) (i 1),l 188]]),ae (.cmp .gt (l 187) (i 0)) [X (m (l 182) 0 [T [s 23,.none,l 187]])] [],X (m (l 182) 0 [T [s 186,t (l 185) (i 1),.none]]),X (m (l 182) 0 [T [s 186,t (l 185) (i 0),.none]])],R (l 182)]
def xb:aB:=ai 199 [f 193,f 195,f 196,f 197] [ae (p (t (v 193 194) (l 195)) (.ite (q (l 196) (s 189)) .none (l 197))) [Z 193 198 .ff] [],.ig (v 193 194) (l 195) (.ite (q (l 196) (s 189)) (l 197) .none)]
def o4:aB:=ai 203 [f 193,f 200,f 195] [ae (.cmp .dy (b 200 62) .none) [A 19 (t (b 200 62) (i 2)),X (c 199 [l 193,l 195,t (b 19 14) (i 0),t (b 19 13) (i 0)]),X (c 85 [l 200,.none])] [],A 14 (.ite (.cmp .is (t (v 193 194) (l 195)) .none) (g 201) (g 202)),X (c 103 [v 193 93,l 200,L [T [i 0,s 81,l 14],T [i 1,s 155,.none]],.ff])]
def na:aB:=#[205,[r 193,f 72,f 197,f 204],[],[193,195],[],uu [.im [(false,196),(true,195),(false,35)] (l 204),A 113 (t (w 193 185) (k 195)),.kH 126 81,X (c 117 [l 113,l 72,.tt])] oO]
def o5:aB:=#[210,[f 72,f 207,f 206],[],[],[],uu [ae (.cmp .is (v 207 204) .none) [R .tt] [],.im [(false,196),(false,195),(false,35)] (v 207 204),ae (.cmp .dy (b 72 63) .none) [R .ff] [],ae (q (l 196) (s 23)) [R (q (l 206) (l 35))] [],ae (q (l 196) (s 186)) [X (m (v 207 208) 2 [l 195]),R .tt] [],ae (q (b 72 62) (T [s 78])) [X (m (v 207 208) 0 [l 195]),.mW (l 207) (s 178) .add (.bin .fdiv (.len (v 207 208)) (i 2)),R we] [],ae (.cmp .is (l 35) .none) [R .ff] [],.mW (l 207) (s 209) .add (i 1)] (.cons (.gT tn wf) tr)]
def tH:aB:=K 214 [r 193,f 72,f 207,r 197] [] [193,197] [] [A 33 (a (a (w 193 93) 34) 33),ae (n (c 210 [l 72,l 207,.bin .sub (l 33) (v 207 212)])) [R .ff] [],A 213 (N true (l 195) [195] true (.len (w 193 194)) [q (t (w 193 194) (l 195)) (k 197)]),ae (p (l 213) (.sorted (v 207 208))) [R .ff] [],ae (q (v 207 182) (L [])) [X (c 147 [l 72]),R .tt] [],Z 207 204 (m (v 207 182) 1 [i 0]),Z 207 212 (l 33),.im [(false,196),(false,195),(false,35)] (v 207 204),ae (q (l 196) (s 23)) [X (c 105 [w 193 93,l 72,l 35])] [ae (w 193 211) [A 14 (.ite (q (l 196) (s 189)) (g 201) (g 202)),X (c 96 [w 193 93,l 72,t (w 193 185) (l 195),l 14,L [k 197],l 35])] [X (c 205 [k 193,l 72,k 197,v 207 204])]],R .tt]
def DT:aB:=ai 216 [f 193] [F [195] true (.len (v 193 194)) [A 215 (t (v 193 185) (l 195)),A 26 (c 28 [b 215 21,g 201]),ae (.cmp .dy (t (v 193 194) (l 195)) .none) [ae (.cmp .gt (l 26) (i 1)) [R .ff] []] [ae (j (.cmp .gt (l 26) (i 0)) (o (n (v 193 211)) (q (b 215 11) (g 86)))) [R .ff] []]],R (v 193 198)]
def DU:aB:=ai 221 [f 219,f 220,f 190] [.swap 218 217 (l 219) (.bin .mod (.bin .add (l 219) (i 1)) (l 220)),R (.ite (q (l 190) (i 0)) (L [l 218,l 217]) (L [l 217,l 218]))]
def cZ:aB:=K 231 [f 211,f 224,r 230] [] [230,93,134] [] [.asg true 134 (M []),.kH 228 82,A 220 (.len (l 224)),.asg true 93 (c 227 [c 229 [],l 228]),A 193 (tg [93,211,194,198] [k 93,l 211,.rep false .none (l 220),.tt]),A 223 (N true (c 141 [k 93,s 226,a (k 93) 148,i 1]) [191] false (l 224) []),X (c 143 [.none,l 223]),A 222 (M []),F [219] true (l 220) [A 182 (c 192 [c 221 [l 219,l 220,t (t (l 224) (l 219)) (i 0)],t (l 224) (l 219)]),X (m (l 222) 0 [tg [182,204,208,212,178,209] [l 182,.none,M [],i 0,i 0,i 0]])],ae (l 211) [Z 193 185 (N true (c 141 [k 93,s 195,a (k 93) 148,i 1]) [191] false (l 224) []),X (c 143 [.none,v 193 185]),X (c 149 [k 93])] [Z 193 185 (N true (c 225 [.bin .add (i 90) (l 219),L [s 189]]) [219] true (l 220) [])],A 26 (L []),aH [A 72 (c 176 [k 93]),W (.cmp .dy (l 72) .none) [ae (.cmp .gt (b 72 17) (l 220)) [X (c 203 [l 193,l 72,.bin .sub (.bin .sub (b 72 17) (l 220)) (i 1)])] [ae (n (c 214 [l 193,l 72,t (l 222) (.bin .sub (b 72 17) (i 1)),.bin .sub (b 72 17) (i 1)])) [R .none] []],ae (n (c 216 [l 193])) [R .none] [],A 72 (c 176 [k 93])]] 26,R (T [l 193,l 223,l 222,l 26])]
def xa:aB:=ai 235 [f 234,f 224] [.im [(false,193),(false,223),(false,222),(false,26)] (l 234),A 220 (.len (l 224)),ae (p (l 26) (N true (b 72 17) [72] false (a (v 193 93) 130) [])) [R .ff] [],F [219] true (l 220) [.im [(false,233),(false,232)] (c 221 [l 219,l 220,t (t (l 224) (i 0)) (i 0)]),ae (o (p (.qk (t (l 224) (l 219)) 2) (T [t (t (l 224) (i 0)) (i 0),.none])) (p (t (v 193 194) (l 233)) (l 219))) [R .ff] [],A 19 (a (t (l 223) (l 219)) 19),ae (o (p (a (t (l 223) (l 219)) 11) (g 97)) (p (a (b 19 15) 17) (a (t (v 193 185) (l 232)) 17))) [R .ff] []],R .tt]
def tI:aB:=ai 236 [f 234,f 224] [.im [(false,193),(false,223),(false,222),(false,26)] (l 234),ae (p (l 26) (L [])) [R (c 235 [l 234,l 224])] [],F [219] true (.len (l 224)) [.im [(false,190),(false,188),(false,23),(false,187),(false,183)] (t (l 224) (l 219)),A 207 (t (l 222) (l 219)),ae (o (p (.bin .add (v 207 178) (v 207 209)) (l 183)) (j (.cmp .is (l 188) .none) (.cmp .gt (v 207 209) (i 0)))) [R .ff] []],R (q (v 193 194) (.rep true .none (.len (l 224))))]
def kF:aB:=ai 240 [f 180] [A 178 (M [i 0]),A 211 (q (c 181 [l 180,l 178,i 2]) (i 1)),A 220 (.bin .add (i 2) (c 181 [l 180,l 178,.ite (l 211) (i 2) (i 3)])),A 224 (M []),F [219] true (l 220) [A 190 (c 181 [l 180,l 178,i 2]),A 188 (t (T [.none,.none,.none,s 91,i 1,i 2]) (c 181 [l 180,l 178,i 6])),A 23 (c 181 [l 180,l 178,i 2]),A 187 (c 181 [l 180,l 178,i 3]),A 183 (.bin .add (i 1) (c 181 [l 180,l 178,.ite (o (l 211) (.cmp .gt (l 220) (i 3))) (i 1) (i 2)])),X (m (l 224) 0 [T [l 190,l 188,l 23,l 187,l 183]])],A 239 (T [c 181 [l 180,l 178,i 2],.none,i 1,i 1,i 1]),A 237 (.rep true (l 239) (.bin .add (i 2) (c 181 [l 180,l 178,i 2]))),A 230 (o (.oq (l 180) (t (l 178) (i 0))) (g 238)),A 234 (c 231 [l 211,l 224,l 230]),ae (o (.cmp .is (l 234) .none) (n (c 236 [l 234,l 224]))) [R .ff] [],A 234 (c 231 [n (l 211),l 237,l 230]),ae (o (.cmp .is (l 234) .none) (o (q (t (l 234) (i 3)) (L [])) (p (a (a (t (t (l 234) (i 0)) (s 93)) 34) 33) (i 1)))) [R .ff] [],R (c 235 [l 234,l 237])]
def qZ:aB:=K 126 [f 14] [] [] [193,195] [R (.cmp .is (t (w 193 194) (k 195)) .none)]
def q0:aB:=K 228 [f 173] [] [] [230,134] [X (m (k 134) 0 [.bin .mod (t (k 230) (.bin .mod (.len (k 134)) (.len (k 230)))) (.len (l 173))]),R (t (l 173) (t (k 134) (i (-1))))]
def lE(f:Nat):Option aB:=[Dp,w9,xc,w7,wY,wZ,xk,Dn,Ea,D0,DZ,DP,DV,Ds,DO,Ee,DM,Dy,DK,xf,tJ,D9,wX,Eb,DB,xe,xg,Ec,DG,xj,Dr,DN,DE,Dx,w8,DW,DX,Dz,D3,D5,xd,DL,je,Dq,DY,Dv,DI,Dw,DH,DF,DJ,D7,D8,DA,DQ,w6,xi,tL,xh,Dt,Du,D4,Ed,D1,w0,D6,DD,tK,DS,DR,xb,o4,na,o5,tH,DT,DU,cZ,xa,tI,kF,qZ,q0][f]?
def vZ:List (Nat×V):=[(12,.str 241),(20,.str 242),(22,.fn 1),(25,.fn 2),(27,.fn 3),(28,.fn 4),(29,.fn 5),(32,.fn 6),(36,.fn 8),(40,.fn 9),(41,.fn 10),(42,.fn 11),(48,.fn 12),(69,.str 142),(73,.str 251),(74,.str 250),(75,.fn 14),(76,.str 173),(77,.fn 15),(79,.str 244),(80,.fn 16),(82,.str 246),(83,.str 243),(84,.fn 17),(85,.fn 18),(86,.str 247),(87,.fn 19),(88,.fn 20),(89,.fn 21),(90,.fn 23),(94,.cls 0),(96,.fn 22),(97,.str 245),(98,.fn 24),(100,.fn 25),(101,.fn 27),(103,.fn 26),(104,.str 248),(105,.fn 28),(106,.fn 29),(115,.fn 31),(116,.fn 32),(117,.fn 33),(118,.fn 35),(119,.fn 34),(121,.str 249),(122,.fn 36),(123,.fn 37),(124,.fn 39),(125,.fn 38),(127,.fn 40),(128,.fn 41),(139,.cls 2),(141,.fn 44),(143,.fn 45),(144,.fn 46),(145,.fn 47),(146,.fn 48),(147,.fn 49),(149,.fn 50),(152,.fn 51),(153,.str 50),(154,.fn 52),(156,.fn 53),(157,.fn 54),(158,.fn 55),(159,.fn 56),(160,.fn 57),(162,.fn 58),(164,.cls 5),(166,.cls 1),(168,.fn 61),(169,.fn 62),(170,.fn 63),(171,.fn 64),(172,.fn 65),(175,.fn 66),(176,.fn 67),(177,.tup [.int 0,.int 1,.int 0,.int 3,.int 0,.int 0,.int 0,.int 0,.int 4,.int 0,.int 0,.int 1,.int 1,.int 0,.int 0,.int 1,.int 0,.int 0,.int 0]),(181,.fn 68),(192,.fn 69),(199,.fn 70),(201,.gk 189),(202,.gk 186),(203,.fn 71),(205,.fn 72),(210,.fn 73),(214,.fn 74),(216,.fn 75),(221,.fn 76),(225,.cls 3),(227,.cls 6),(229,.cls 4),(231,.fn 77),(235,.fn 78),(236,.fn 79),(238,.tup [.int 2,.int 2,.int 2,.int 1,.int 0,.int 0,.int 0,.int 0,.int 0,.int 1,.int 1,.int 0]),(240,.fn 80)]
def GL(x:Nat):Option V:=vZ.lookup x
def qC(c:Nat):Option Nat:=([0,7,13,30,42,43,59]:List Nat)[c]?
def qE:Nat->Nat->Option Nat
 |6,95=>some 60
 |_,_=>none
def vT:List Nat:=[59,62,53,109,19,16,52,108,167,34,10,137,133,112,7,55,57,129,60,61,8,136,9,107,14,66,50,148,140,49,99,70,64,132,71,33,17,165,68,138,58,21,63,110,54,51,163,65,161,56,11,134,15,130,131,13,67,135,196,111]
def gA(f:Nat):Bool:=vT.contains f
def CH{f:Nat}(h:gA f=true):f<NM.length:=by
 have:(vT.all λf=>decide (f<NM.length))=true:=by decide+kernel
 exact aP (gy.mp this f (List.contains_iff_mem.mp h))
def ta:Nat:=95
def PR:Y:=#[GL,lE,qC,qE,ta]
end
end
section
open PySem PySem.W PySem.Calls PyProof.Rows PySem.SeqAt
abbrev k00:=List V
abbrev k01:=Value->Shared->Prop
abbrev k02:=Fl->Lc->H->Prop
abbrev k03:=Str->Option Value
abbrev k04:=List Value
abbrev k05:=List (Addr×Obj)
abbrev k06:=List Nat
abbrev k07:=List Stmt
abbrev k08:=V->Lc->H->Prop
abbrev k09:=Unit->Shared->Prop
abbrev k16:=List (Nat×V)
abbrev k17:=List (Str×Addr)
abbrev k18:=List Expr
abbrev k19:=Expr->Prop
abbrev k20:=Stmt->Prop
abbrev k21:=List V->H->Prop
abbrev k22:=Result->Shared->Prop
abbrev k23:=List Int
abbrev k24:=List (List (Option Str)×Addr×Value)
abbrev k25:=Expr->Bool
abbrev k26:=Option Addr
abbrev k27:=Nat->Option Nat
abbrev k28:=List (Bool×Nat)
abbrev k29:=Bool->Shared->Prop
abbrev k30:=Nat->List Nat
abbrev k31:=List (Nat×Nm)
abbrev k32:=List (Nat->Slot)
abbrev k33:=List (Option Str)×Addr×Value
abbrev k34:=Value×List Value->Shared->Prop
abbrev k35:=Option Expr->Option Str->List Stmt->Bool
abbrev k36:=V->Lc->H->(Fl->Lc->H->Prop)->Prop
abbrev aJ:=@wpAny_pure
abbrev bj:=@wpAny_mono
abbrev f2:=@Heap.get?_push_of_some
abbrev f4:=@wpAny_holding
abbrev fk:=@sizeLine_eq
end
local macro_rules | `(tactic| rewrite [$h:term]) => `(tactic| first | refine Xx ($h ..) ?_ | fail)
local macro_rules | `(tactic| rewrite [$h, $t,*]) => `(tactic| (rewrite [$h]; rewrite [$t,*]))
section
open PySem PySem.W PySem.Calls PyProof.Rows PySem.SeqAt
def nm(n:Nat):Str:=NM.getD n (Str.ofString "")
def aW:Nat:=NM.length
def bR(sc:Scope)(x:Nat)(s:Str)(k:NameKind->Bool):Bool:=s==nm x&&decide (x<aW)&&(match sc.names.lookup s with|some q=>k q|none=>false)&& !(s==("__debug__":Str))&& !(s==("__classdict__":Str))
def cz:NameKind->Bool|.local=>true|_=>false
def pG:NameKind->Bool|.cell=>true|.free=>true|_=>false
def nR:NameKind->Bool|.cell=>true|_=>false
def zn:eS->Bool|.add=>true|.sub=>true|_=>false
def uJ:NameKind->Bool|.globalImplicit=>true|_=>false
def pT(e:Expr):Bool:=e.ctorIdx != 26
def o0:mD->CmpOp
 |.eq=>.Eq|.ne=>.NotEq|.lt=>.Lt|.le=>.LtE|.gt=>.Gt|.ge=>.GtE|.is=>.Is|.dy=>.IsNot|.rM=>.In|.sf=>.NotIn
def kE:eS->Operator
 |.add=>.Add|.sub=>.Sub|.mul=>.Mult|.mod=>.Mod|.fdiv=>.FloorDiv
def Jq(a b:CmpOp):Bool:=decide (a=b)
def sz(a b:Operator):Bool:=decide (a=b)
def lL(sc scope:Scope):Scope:=
 {scope with names:=scope.names.map λ(n,k)=>if(k== .free&&sc.kind== .function&&sc.names.lookup n==some .cell)then(n,.cell)else(n,k)}
def pX(sc scope:Scope):Bool:=scope.kind== .function&&sc.kind== .function&& !scope.isCoroutine&& !scope.isGenerator&&
 scope.names.all (λx=>scope.names.lookup x.1==some x.2)&&
 scope.names.all λ(n,k)=>match k with
  |.local=>true
  |.free=>sc.names.lookup n==some .cell
  |.globalImplicit=>true
  |_=>false
def aQ{P:Prop}(h:false=true):P:=nomatch h
def an(h:(a&&b)=true):a=true/\b=true:=by cases a<;>cases b<;>first|exact#[rfl,rfl]|exact aQ h
def d9{af:Type}:List af->Bool|[]=>true|_=>false
def iJ{af:Type}{l:List af}(h:d9 l=true):l=[]:=by cases l;rfl;exact aQ h
def x1{af:Type}(k:af->Bool):List af->Bool|[x]=>k x|_=>false
def vQ{af:Type}{e:List af}{k:af->Bool}(h:x1 k e=true):∃x,e=[x]/\k x=true:=by
 cases e with
 |nil=>exact aQ h
 |cons x r=>cases r with
  |nil=>exact#[_,rfl,h]
  |cons _ _=>exact aQ h
def x2{af:Type}(k:af->af->Bool):List af->Bool|[x,y]=>k x y|_=>false
def KQ{af:Type}{e:List af}{k:af->af->Bool}(h:x2 k e=true):∃x y,e=[x,y]/\k x y=true:=by
 cases e with
 |nil=>exact aQ h
 |cons x r=>cases r with
  |nil=>exact aQ h
  |cons y r=>cases r with
   |nil=>exact#[_,_,rfl,h]
   |cons _ _=>exact aQ h
def so{af:Type}(k:af->Bool):Option af->Bool|some x=>k x|_=>false
def vD{af:Type}{e:Option af}{k:af->Bool}(h:so k e=true):∃x,e=some x/\k x=true:=by cases e with|none=>exact aQ h|some x=>exact#[_,rfl,h]
def dt{p:Prop}[Decidable p]{a:p->Bool}(h:(if c:p then a c else false)=true):∃c:p,a c=true:=by
 by_cases c:p
 .exact#[c,by rw[dif_pos c]at h;exact h]
 .rw[dif_neg c]at h;exact aQ h
def xC(k:Const->Bool)(e:Expr):Bool:=if h:e.ctorIdx=19 then Expr.Constant.elim (motive_1:=λU=>Bool) e h (λc U U=>k c)else false
@[elab_as_elim]def jD{k:Const->Bool}{M:k19}(h:xC k e=true)(m:∀c n p,(k c)=true->M (.Constant c n p)):M e:=(dt h).elim λc h=>Expr.Constant.elim (motive_1:=λe=>∀c:e.ctorIdx=19,Expr.Constant.elim (motive_1:=λU=>Bool) e c (λc U U=>k c)=true->M e) e c (λc n p U h=>m c n p h) c h
def xN(k:Str->Bool)(e:Expr):Bool:=if h:e.ctorIdx=23 then Expr.Name.elim (motive_1:=λU=>Bool) e h (λs U=>k s)else false
@[elab_as_elim]def eR{k:Str->Bool}{M:k19}(h:xN k e=true)(m:∀s p,(k s)=true->M (.Name s p)):M e:=(dt h).elim λc h=>Expr.Name.elim (motive_1:=λe=>∀c:e.ctorIdx=23,Expr.Name.elim (motive_1:=λU=>Bool) e c (λs U=>k s)=true->M e) e c (λs p U h=>m s p h) c h
def ib(sc:Scope)(n:String):Expr->Bool:=xN λs=>s==Str.ofString n&&(match sc.names.lookup s with|some q=>uJ q|none=>false)
def xA(k:Expr->Str->Pos->Bool)(e:Expr):Bool:=if h:e.ctorIdx=20 then Expr.Attribute.elim (motive_1:=λU=>Bool) e h (λv n p=>k v n p)else false
@[elab_as_elim]def mz{k:Expr->Str->Pos->Bool}{M:k19}(h:xA k e=true)(m:∀v n p,(k v n p)=true->M (.Attribute v n p)):M e:=(dt h).elim λc h=>Expr.Attribute.elim (motive_1:=λe=>∀c:e.ctorIdx=20,Expr.Attribute.elim (motive_1:=λU=>Bool) e c (λv n p=>k v n p)=true->M e) e c (λv n p U h=>m v n p h) c h
def xS(k:Expr->Expr->Bool)(e:Expr):Bool:=if h:e.ctorIdx=21 then Expr.Subscript.elim (motive_1:=λU=>Bool) e h (λv i U=>k v i)else false
@[elab_as_elim]def qw{k:Expr->Expr->Bool}{M:k19}(h:xS k e=true)(m:∀v i p,(k v i)=true->M (.Subscript v i p)):M e:=(dt h).elim λc h=>Expr.Subscript.elim (motive_1:=λe=>∀c:e.ctorIdx=21,Expr.Subscript.elim (motive_1:=λU=>Bool) e c (λv i U=>k v i)=true->M e) e c (λv i p U h=>m v i p h) c h
def xF(k:Option Expr->Option Expr->Option Expr->Bool)(e:Expr):Bool:=if h:e.ctorIdx=26 then Expr.Slice.elim (motive_1:=λU=>Bool) e h (λa b c U=>k a b c)else false
@[elab_as_elim]def KS{k:Option Expr->Option Expr->Option Expr->Bool}{M:k19}(h:xF k e=true)(m:∀a b c p,(k a b c)=true->M (.Slice a b c p)):M e:=(dt h).elim λc h=>Expr.Slice.elim (motive_1:=λe=>∀c:e.ctorIdx=26,Expr.Slice.elim (motive_1:=λU=>Bool) e c (λa b c U=>k a b c)=true->M e) e c (λa b c p U h=>m a b c p h) c h
def xP(k:Expr->List CmpOp->List Expr->Bool)(e:Expr):Bool:=if h:e.ctorIdx=15 then Expr.Compare.elim (motive_1:=λU=>Bool) e h (λl o r U=>k l o r)else false
@[elab_as_elim]def KW{k:Expr->List CmpOp->List Expr->Bool}{M:k19}(h:xP k e=true)(m:∀l o r p,(k l o r)=true->M (.Compare l o r p)):M e:=(dt h).elim λc h=>Expr.Compare.elim (motive_1:=λe=>∀c:e.ctorIdx=15,Expr.Compare.elim (motive_1:=λU=>Bool) e c (λl o r U=>k l o r)=true->M e) e c (λl o r p U h=>m l o r p h) c h
def xL(k:List Expr->Bool)(e:Expr):Bool:=if h:e.ctorIdx=24 then Expr.List.elim (motive_1:=λU=>Bool) e h (λes U=>k es)else false
@[elab_as_elim]def BJ{k:List Expr->Bool}{M:k19}(h:xL k e=true)(m:∀es p,(k es)=true->M (.List es p)):M e:=(dt h).elim λc h=>Expr.List.elim (motive_1:=λe=>∀c:e.ctorIdx=24,Expr.List.elim (motive_1:=λU=>Bool) e c (λes U=>k es)=true->M e) e c (λes p U h=>m es p h) c h
def xU(k:UnaryOp->Expr->Bool)(e:Expr):Bool:=if h:e.ctorIdx=3 then Expr.UnaryOp.elim (motive_1:=λU=>Bool) e h (λo x U=>k o x)else false
@[elab_as_elim]def vR{k:UnaryOp->Expr->Bool}{M:k19}(h:xU k e=true)(m:∀o x p,(k o x)=true->M (.UnaryOp o x p)):M e:=(dt h).elim λc h=>Expr.UnaryOp.elim (motive_1:=λe=>∀c:e.ctorIdx=3,Expr.UnaryOp.elim (motive_1:=λU=>Bool) e c (λo x U=>k o x)=true->M e) e c (λo x p U h=>m o x p h) c h
def xO(k:BoolOp->List Expr->Pos->Bool)(e:Expr):Bool:=if h:e.ctorIdx=0 then Expr.BoolOp.elim (motive_1:=λU=>Bool) e h (λo x p=>k o x p)else false
@[elab_as_elim]def Y'{k:BoolOp->List Expr->Pos->Bool}{M:k19}(h:xO k e=true)(m:∀o x p,(k o x p)=true->M (.BoolOp o x p)):M e:=(dt h).elim λc h=>Expr.BoolOp.elim (motive_1:=λe=>∀c:e.ctorIdx=0,Expr.BoolOp.elim (motive_1:=λU=>Bool) e c (λo x p=>k o x p)=true->M e) e c (λo x p U h=>m o x p h) c h
def aaa{k:BoolOp->List Expr->Pos->Bool}(h:xO k e=true):∃o x p,e=.BoolOp o x p/\k o x p=true:=Y' (M:=λe=>∃o x p,e=.BoolOp o x p/\k o x p=true) h λo x p h=>#[o,x,p,rfl,h]
def xB(k:Expr->Operator->Expr->Bool)(e:Expr):Bool:=if h:e.ctorIdx=2 then Expr.BinOp.elim (motive_1:=λU=>Bool) e h (λl o r U=>k l o r)else false
@[elab_as_elim]def BH{k:Expr->Operator->Expr->Bool}{M:k19}(h:xB k e=true)(m:∀l o r p,(k l o r)=true->M (.BinOp l o r p)):M e:=(dt h).elim λc h=>Expr.BinOp.elim (motive_1:=λe=>∀c:e.ctorIdx=2,Expr.BinOp.elim (motive_1:=λU=>Bool) e c (λl o r U=>k l o r)=true->M e) e c (λl o r p U h=>m l o r p h) c h
def xI(k:Expr->Expr->Expr->Bool)(e:Expr):Bool:=if h:e.ctorIdx=5 then Expr.IfExp.elim (motive_1:=λU=>Bool) e h (λt x y U=>k t x y)else false
@[elab_as_elim]def KU{k:Expr->Expr->Expr->Bool}{M:k19}(h:xI k e=true)(m:∀t x y p,(k t x y)=true->M (.IfExp t x y p)):M e:=(dt h).elim λc h=>Expr.IfExp.elim (motive_1:=λe=>∀c:e.ctorIdx=5,Expr.IfExp.elim (motive_1:=λU=>Bool) e c (λt x y U=>k t x y)=true->M e) e c (λt x y p U h=>m t x y p h) c h
def xM(k:List Expr->Bool)(e:Expr):Bool:=if h:e.ctorIdx=25 then Expr.Tuple.elim (motive_1:=λU=>Bool) e h (λes U U=>k es)else false
@[elab_as_elim]def qv{k:List Expr->Bool}{M:k19}(h:xM k e=true)(m:∀es n p,(k es)=true->M (.Tuple es n p)):M e:=(dt h).elim λc h=>Expr.Tuple.elim (motive_1:=λe=>∀c:e.ctorIdx=25,Expr.Tuple.elim (motive_1:=λU=>Bool) e c (λes U U=>k es)=true->M e) e c (λes n p U h=>m es n p h) c h
def xD(k:List (Option Expr)->List Expr->Bool)(e:Expr):Bool:=if h:e.ctorIdx=6 then Expr.Dict.elim (motive_1:=λU=>Bool) e h (λa b U=>k a b)else false
@[elab_as_elim]def BI{k:List (Option Expr)->List Expr->Bool}{M:k19}(h:xD k e=true)(m:∀a b p,(k a b)=true->M (.Dict a b p)):M e:=(dt h).elim λc h=>Expr.Dict.elim (motive_1:=λe=>∀c:e.ctorIdx=6,Expr.Dict.elim (motive_1:=λU=>Bool) e c (λa b U=>k a b)=true->M e) e c (λa b p U h=>m a b p h) c h
def xG(k:Expr->List Comprehension->Scope->Bool)(e:Expr):Bool:=if h:e.ctorIdx=8 then Expr.ListComp.elim (motive_1:=λU=>Bool) e h (λa b c U=>k a b c)else false
@[elab_as_elim]def P'{k:Expr->List Comprehension->Scope->Bool}{M:k19}(h:xG k e=true)(m:∀a b c p,(k a b c)=true->M (.ListComp a b c p)):M e:=(dt h).elim λc h=>Expr.ListComp.elim (motive_1:=λe=>∀c:e.ctorIdx=8,Expr.ListComp.elim (motive_1:=λU=>Bool) e c (λa b c U=>k a b c)=true->M e) e c (λa b c p U h=>m a b c p h) c h
def xK(k:Expr->List Expr->Pos->Bool)(e:Expr):Bool:=if h:e.ctorIdx=16 then Expr.Call.elim (motive_1:=λU=>Bool) e h (λf es d p=>d9 d&&k f es p)else false
@[elab_as_elim]def U'{k:Expr->List Expr->Pos->Bool}{M:k19}(h:xK k e=true)(m:∀f es u p,(d9 u&&k f es p)=true->M (.Call f es u p)):M e:=(dt h).elim λc h=>Expr.Call.elim (motive_1:=λe=>∀c:e.ctorIdx=16,Expr.Call.elim (motive_1:=λU=>Bool) e c (λf es u p=>d9 u&&k f es p)=true->M e) e c (λf es u p U h=>m f es u p h) c h
@[elab_as_elim]def lA{k:Expr->List Expr->Pos->Bool}{M:k19}(h:xK k e=true)(m:∀f es p,k f es p=true->M (.Call f es [] p)):M e:=U' h λf es d p h=>by have h:=an h;cases iJ h.1;exact m _ _ _ h.2
def V'{k:Expr->List Expr->Pos->Bool}(h:xK k e=true):∃f es p,e=.Call f es [] p/\k f es p=true:=lA (M:=λe=>∃f es p,e=.Call f es [] p/\k f es p=true) h λf es p h=>#[f,es,p,rfl,h]
def y1(k:Expr->Expr->Bool)(e:Stmt):Bool:=if h:e.ctorIdx=5 then Stmt.Assign.elim (motive_2:=λU=>Bool) e h (λts v U=>x1 (λt=>k t v) ts)else false
@[elab_as_elim]def aac{k:Expr->Expr->Bool}{M:k20}(h:y1 k e=true)(m:∀ts v p,(x1 (λt=>k t v) ts)=true->M (.Assign ts v p)):M e:=(dt h).elim λc h=>Stmt.Assign.elim (motive_2:=λe=>∀c:e.ctorIdx=5,Stmt.Assign.elim (motive_2:=λU=>Bool) e c (λts v U=>x1 (λt=>k t v) ts)=true->M e) e c (λts v p U h=>m ts v p h) c h
@[elab_as_elim]def oz{k:Expr->Expr->Bool}{M:k20}(h:y1 k e=true)(m:∀t v p,k t v=true->M (.Assign [t] v p)):M e:=aac h λts v p h=>by obtain⟨t,rfl,h⟩:=vQ h;exact m _ _ _ h
def yG(k:Expr->Operator->Expr->Bool)(e:Stmt):Bool:=if h:e.ctorIdx=7 then Stmt.AugAssign.elim (motive_2:=λU=>Bool) e h (λt q v U=>k t q v)else false
@[elab_as_elim]def K2{k:Expr->Operator->Expr->Bool}{M:k20}(h:yG k e=true)(m:∀t q v p,(k t q v)=true->M (.AugAssign t q v p)):M e:=(dt h).elim λc h=>Stmt.AugAssign.elim (motive_2:=λe=>∀c:e.ctorIdx=7,Stmt.AugAssign.elim (motive_2:=λU=>Bool) e c (λt q v U=>k t q v)=true->M e) e c (λt q v p U h=>m t q v p h) c h
def yE(k:k25)(e:Stmt):Bool:=if h:e.ctorIdx=24 then Stmt.Expr.elim (motive_2:=λU=>Bool) e h (λv U=>k v)else false
@[elab_as_elim]def KZ{k:k25}{M:k20}(h:yE k e=true)(m:∀v p,(k v)=true->M (.Expr v p)):M e:=(dt h).elim λc h=>Stmt.Expr.elim (motive_2:=λe=>∀c:e.ctorIdx=24,Stmt.Expr.elim (motive_2:=λU=>Bool) e c (λv U=>k v)=true->M e) e c (λv p U h=>m v p h) c h
def yI(k:Expr->List Stmt->List Stmt->Bool)(e:Stmt):Bool:=if h:e.ctorIdx=12 then Stmt.If.elim (motive_2:=λU=>Bool) e h (λt x y U=>k t x y)else false
@[elab_as_elim]def aah{k:Expr->List Stmt->List Stmt->Bool}{M:k20}(h:yI k e=true)(m:∀t x y p,(k t x y)=true->M (.If t x y p)):M e:=(dt h).elim λc h=>Stmt.If.elim (motive_2:=λe=>∀c:e.ctorIdx=12,Stmt.If.elim (motive_2:=λU=>Bool) e c (λt x y U=>k t x y)=true->M e) e c (λt x y p U h=>m t x y p h) c h
def yW(k:Expr->List Stmt->Bool)(e:Stmt):Bool:=if h:e.ctorIdx=11 then Stmt.While.elim (motive_2:=λU=>Bool) e h (λt x o U=>d9 o&&k t x)else false
@[elab_as_elim]def aak{k:Expr->List Stmt->Bool}{M:k20}(h:yW k e=true)(m:∀t x o p,(d9 o&&k t x)=true->M (.While t x o p)):M e:=(dt h).elim λc h=>Stmt.While.elim (motive_2:=λe=>∀c:e.ctorIdx=11,Stmt.While.elim (motive_2:=λU=>Bool) e c (λt x o U=>d9 o&&k t x)=true->M e) e c (λt x o p U h=>m t x o p h) c h
@[elab_as_elim]def aal{k:Expr->List Stmt->Bool}{M:k20}(h:yW k e=true)(m:∀t x p,k t x=true->M (.While t x [] p)):M e:=aak h λt x o p h=>by have h:=an h;cases iJ h.1;exact m _ _ _ h.2
def yF(k:Expr->Expr->List Stmt->Bool)(e:Stmt):Bool:=if h:e.ctorIdx=9 then Stmt.For.elim (motive_2:=λU=>Bool) e h (λt i x o U=>d9 o&&k t i x)else false
@[elab_as_elim]def aaf{k:Expr->Expr->List Stmt->Bool}{M:k20}(h:yF k e=true)(m:∀t i x o p,(d9 o&&k t i x)=true->M (.For t i x o p)):M e:=(dt h).elim λc h=>Stmt.For.elim (motive_2:=λe=>∀c:e.ctorIdx=9,Stmt.For.elim (motive_2:=λU=>Bool) e c (λt i x o U=>d9 o&&k t i x)=true->M e) e c (λt i x o p U h=>m t i x o p h) c h
@[elab_as_elim]def aag{k:Expr->Expr->List Stmt->Bool}{M:k20}(h:yF k e=true)(m:∀t i x p,k t i x=true->M (.For t i x [] p)):M e:=aaf h λt i x o p h=>by have h:=an h;cases iJ h.1;exact m _ _ _ _ h.2
def yR(k:Option Expr->Bool)(e:Stmt):Bool:=if h:e.ctorIdx=3 then Stmt.Return.elim (motive_2:=λU=>Bool) e h (λv U=>k v)else false
@[elab_as_elim]def BO{k:Option Expr->Bool}{M:k20}(h:yR k e=true)(m:∀v p,(k v)=true->M (.Return v p)):M e:=(dt h).elim λc h=>Stmt.Return.elim (motive_2:=λe=>∀c:e.ctorIdx=3,Stmt.Return.elim (motive_2:=λU=>Bool) e c (λv U=>k v)=true->M e) e c (λv p U h=>m v p h) c h
def yX(k:k25)(e:Stmt):Bool:=if h:e.ctorIdx=16 then Stmt.Raise.elim (motive_2:=λU=>Bool) e h (λe c U=>c.isNone&&so k e)else false
@[elab_as_elim]def aam{M:k20}(h:yX k e=true)(m:∀e c p,(c.isNone&&so k e)=true->M (.Raise e c p)):M e:=(dt h).elim λc h=>Stmt.Raise.elim (motive_2:=λe=>∀c:e.ctorIdx=16,Stmt.Raise.elim (motive_2:=λU=>Bool) e c (λe c U=>c.isNone&&so k e)=true->M e) e c (λe c p U h=>m e c p h) c h
@[elab_as_elim]def aan{k:k25}{M:k20}(h:yX k e=true)(m:∀v p,k v=true->M (.Raise (some v) none p)):M e:=aam h λe c p h=>by have h:=an h;cases ix.mp h.1;obtain⟨x,rfl,h'⟩:=vD h.2;exact m _ _ h'
def yT(k:List Stmt->List ExceptHandler->Bool)(e:Stmt):Bool:=if h:e.ctorIdx=17 then Stmt.Try.elim (motive_2:=λU=>Bool) e h (λb d o f U=>(d9 o&&d9 f)&&k b d)else false
@[elab_as_elim]def aai{k:List Stmt->List ExceptHandler->Bool}{M:k20}(h:yT k e=true)(m:∀b u o f p,((d9 o&&d9 f)&&k b u)=true->M (.Try b u o f p)):M e:=(dt h).elim λc h=>Stmt.Try.elim (motive_2:=λe=>∀c:e.ctorIdx=17,Stmt.Try.elim (motive_2:=λU=>Bool) e c (λb u o f U=>(d9 o&&d9 f)&&k b u)=true->M e) e c (λb u o f p U h=>m b u o f p h) c h
@[elab_as_elim]def aaj{k:List Stmt->List ExceptHandler->Bool}{M:k20}(h:yT k e=true)(m:∀b u p,k b u=true->M (.Try b u [] [] p)):M e:=aai h λb u o f p h=>by have h:=an h;cases iJ (an h.1).1;cases iJ (an h.1).2;exact m _ _ _ h.2
def yD(k:Str->Bool)(e:Stmt):Bool:=if h:e.ctorIdx=0 then Stmt.FunctionDef.elim (motive_2:=λU=>Bool) e h (λn U U U U U U U U U=>k n)else false
def yC(e:Stmt):Bool:=if h:e.ctorIdx=27 then Stmt.Continue.elim (motive_2:=λU=>Bool) e h (λU=>true)else false
@[elab_as_elim]def aae{M:k20}(h:yC e=true)(m:∀p,(true)=true->M (.Continue p)):M e:=(dt h).elim λc h=>Stmt.Continue.elim (motive_2:=λe=>∀c:e.ctorIdx=27,Stmt.Continue.elim (motive_2:=λU=>Bool) e c (λU=>true)=true->M e) e c (λp U h=>m p h) c h
def cI(k:Int->Bool):Const->Bool|.int i=>k i|_=>false
def MX{k:Int->Bool}(h:cI k c=true):∃i,c=.int i/\k i=true:=by cases c<;>first|exact#[_,rfl,h]|exact aQ h
def cB(k:Bool->Bool):Const->Bool|.bool b=>k b|_=>false
def MW{k:Bool->Bool}(h:cB k c=true):∃b,c=.bool b/\k b=true:=by cases c<;>first|exact#[_,rfl,h]|exact aQ h
def cS(k:Str->Bool):Const->Bool|.str s=>k s|_=>false
def CV{k:Str->Bool}(h:cS k c=true):∃s,c=.str s/\k s=true:=by cases c<;>first|exact#[_,rfl,h]|exact aQ h
def cN:Const->Bool|.none=>true|_=>false
def MY(h:cN c=true):c=.none:=by cases c<;>first|rfl|exact aQ h
def GJ:Operator->Bool|.Mult=>true|_=>false
def TV(h:GJ o=true):o=.Mult:=by cases o<;>first|rfl|exact aQ h
def GK:UnaryOp->Bool|.Not=>true|_=>false
def TW(h:GK o=true):o=.Not:=by cases o<;>first|rfl|exact aQ h
def GN:UnaryOp->Bool|.USub=>true|_=>false
def T4(h:GN o=true):o=.USub:=by cases o<;>first|rfl|exact aQ h
def GI(t:Bool):BoolOp->Bool|.And=>t|.Or=> !t
def TU(h:GI t o=true):o=bif t then .And else .Or:=by cases o<;>cases t<;>first|rfl|exact aQ h
def og(e:Expr):Bool:=e.ctorIdx != 16
def pS(e:Expr):Bool:=e.ctorIdx != 20
def xV(t:Bool)(a b:k25):Expr->Bool:=xO λo x p=>GI t o&&match x with
 |x::y::r=>a x&&(match r with|[]=>b y|_=>b (.BoolOp o (y::r) p))
 |_=>false
def vS{a b:k25}(h:xV t a b e=true):∃x y p,a x=true/\((e=.BoolOp (bif t then .And else .Or) [x,y] p/\b y=true)\/∃z r,e=.BoolOp (bif t then .And else .Or) (x::y::z::r) p/\b (.BoolOp (bif t then .And else .Or) (y::z::r) p)=true):=by
 obtain⟨o,l,p,rfl,h⟩:=aaa h;have h:=an h;cases TU h.1;obtain h:=h.2;cases l with
 |nil=>exact aQ h
 |cons x r=>cases r with
  |nil=>exact aQ h
  |cons y r=>cases r with
   |nil=>exact#[x,y,p,(an h).1,.inl #[rfl,(an h).2]]
   |cons z r=>exact#[x,y,p,(an h).1,.inr #[z,r,rfl,(an h).2]]
def all2{af aK:Type}(f:af->aK->Bool):List af->List aK->Bool
 |[]=>d9
 |x::r=>λl=>match l with|[]=>false|e::es=>f x e&&all2 f r es
def qR{af aK:Type}{f:af->aK->Bool}{M:List af->List aK->Prop}(u:M [] [])(y:∀x r e es,f x e=true->all2 f r es=true->M r es->M (x::r) (e::es)):∀{l:List af} {m:List aK},all2 f l m=true->M l m:=λ{l}=>by
 induction l with
 |nil=>intro m h;cases iJ h;exact u
 |cons x r d=>
  intro m h;cases m with
  |nil=>exact aQ h
  |cons e es=>exact y _ _ _ _ (an h).1 (an h).2 (d (an h).2)
def Ig(sc:Scope):List Nat->List Expr->Bool:=all2 λx=>xN λs=>bR sc x s cz
def lh(sc:Scope):List Nat->Expr->Bool
 |[]=>λU=>false
 |x::r=>match r with|[]=>xN λs=>bR sc x s cz|y::r=>xM (Ig sc (x::y::r))
def vi:List Nat->List (Option Expr)->Bool:=all2 λk=>so (xC (cS λs=>s==nm k&&decide (k<aW)))
def AB(sc:Scope)(u:Bool)(a:k25)(it:Expr):Bool:=bif u then xK (λf es U=>ib sc "range" f&&x1 a es) it else a it
mutual
def aM(sc:Scope):E->Expr->Bool
 |.none=>xC cN
 |.tt=>xC (cB λb=>b)
 |.ff=>xC (cB λb=> !b)
 |.int i=>λe=>xC (cI λj=>decide (i=j)) e||xU (λo x=>GN o&&xC (cI λj=>decide (i= -j)) x) e
 |.str n=>xC (cS λs=>s==nm n&&decide (n<aW))
 |.loc x=>xN λs=>bR sc x s cz
 |.cf x=>xN λs=>bR sc x s pG
 |.ba x=>xN λs=>bR sc x s uJ
 |.attr e f=>xA λv n U=>n==nm f&&(gA f&&(og v&&aM sc e v))
 |.item e i=>xS λv k=>pT k&&(aM sc e v&&aM sc i k)
 |.oq e i=>xS λv k=>aM sc e v&&xF (λa b c=>(b.isNone&&c.isNone)&&so (aM sc i) a) k
 |.qk e n=>xS λv k=>aM sc e v&&xF (λa b c=>(a.isNone&&c.isNone)&&so (xC (cI λj=>decide (j=(n:Int))&&decide (n<100))) b) k
 |.cmp op a b=>xP λl o r=>aM sc a l&&x1 (λo=>Jq o (o0 op)&&x1 (λr=> !behindInMarks o r&&aM sc b r) r) o
 |.mT a b=>xV true (aM sc a) (aM sc b)
 |.eP a b=>xV false (aM sc a) (aM sc b)
 |.not a=>xU λo x=>GK o&&aM sc a x
 |.bin op a b=>xB λl o r=>sz o (kE op)&&(aM sc a l&&aM sc b r)
 |.ite c a b=>xI λt x y=>aM sc c t&&(aM sc a x&&aM sc b y)
 |.lst _ xs=>xL (ic sc xs)
 |.tup xs=>xM (ic sc xs)
 |.kI _=>xD λa b=>d9 a&&d9 b
 |.dp ks vs=>xD λkx es=>(vi ks kx&&decide (ks.length<=15))&&((decide (0<ks.length)&&decide (kx.length=es.length))&&(decide ks.Nodup&&ic sc vs es))
 |.comp _ e ts cU dq cs=>xG λjS g scope=>x1 (λq=>(decide (q.is_async=0)&&pX sc scope)&&((lh (lL sc scope) ts q.target&&aM (lL sc scope) e jS)&&
  (ic (lL sc scope) cs q.ifs&&(decide (q.ifs.length<=1)&&AB sc cU (aM sc dq) q.iter)))) g
 |.rep _ x n=>xB λl o k=>GJ o&&(xL (x1 (aM sc x)) l&&aM sc n k)
 |.call f as=>xK λg es U=>(pS g&&aM sc f g)&&(ic sc as es&&decide (es.length<15))
 |.gj o m as=>xK λg es p=>xA (λv n ap=>(n==nm m&&((m<6||(m==ta||gA m))&&og v))&&((ap.endLine==p.line&&aM sc o v)&&(ic sc as es&&decide (es.length<15)))) g
 |.len e=>xK λf es U=>ib sc "len" f&&x1 (aM sc e) es
 |.max a b=>xK λf es U=>ib sc "max" f&&x2 (λx y=>aM sc a x&&aM sc b y) es
 |.sorted e=>xK λf es U=>ib sc "sorted" f&&x1 (aM sc e) es
def ic(sc:Scope):Es->List Expr->Bool
 |.nil=>d9
 |.cons e r=>λl=>match l with|[]=>false|x::t=>aM sc e x&&ic sc r t
end
def zp(e:Expr):Bool:=e.ctorIdx==8||(e.ctorIdx==9||e.ctorIdx==10)
def zt(e:Expr):Bool:=e.ctorIdx==25||e.ctorIdx==24
def zo(e:Expr):Bool:=e.ctorIdx==16
def AA(sc:Scope):List (Bool×Nat)->List Expr->Bool:=all2 λx=>xN λs=>bR sc x.2 s (if x.1 then nR else cz)
def cT(e:Expr):Bool:=e.ctorIdx != 22
def BK(k:Str->Pos->Bool)(e:Expr):Bool:=if h:e.ctorIdx=23 then Expr.Name.elim (motive_1:=λU=>Bool) e h (λs p=>k s p)else false
@[elab_as_elim]def KV{k:Str->Pos->Bool}{M:k19}(h:BK k e=true)(m:∀s p,(k s p)=true->M (.Name s p)):M e:=(dt h).elim λc h=>Expr.Name.elim (motive_1:=λe=>∀c:e.ctorIdx=23,Expr.Name.elim (motive_1:=λU=>Bool) e c (λs p=>k s p)=true->M e) e c (λs p U h=>m s p h) c h
def AD(sc:Scope)(x y:Nat)(n k a b:Expr):Bool:=BK (λs p=>BK (λt q=>(bR sc x s cz&&bR sc y t cz)&&((!(s==t)&&p.line==q.line)&&((!(foldedForSure 8 a&&foldedForSure 8 b)&& !(constantsAlone 8 a&&constantsAlone 8 b))&&
 (cT a&&cT b)))) k) n
def zH(k:k35):ExceptHandler->Bool|.ExceptHandler t n l _=>k t n l
def yb(sc:Scope)(s:Str):Bool:=s==Str.ofString "Deadlock"&&sc.names.lookup s==some .globalImplicit
mutual
def sj(sc:Scope):S->Stmt->Bool
 |.asg c x e=>y1 λt v=>xN (λs=>bR sc x s (if c then nR else cz)) t&&aM sc e v
 |.im ts e=>y1 λt v=>xM (AA sc ts) t&&((decide (2<=ts.length)&&aM sc e v)&& !zt v)
 |.swap x y a b=>y1 λt v=>xM (x2 λn k=>xM (x2 λu w=>AD sc x y n k u w&&(aM sc a u&&aM sc b w)) v) t
 |.fg o f e=>y1 λt v=>xA (λu n U=>(n==nm f&&gA f)&&(aM sc o u&&aM sc e v)) t
 |.ig o i e=>y1 λt v=>xS (λu w=>aM sc o u&&(aM sc i w&&aM sc e v)) t
 |.kB o f op e=>yG λt q v=>xA (λu n U=>((n==nm f&&gA f)&&(zn op&&sz q (kE op)))&&(aM sc o u&&aM sc e v)) t
 |.mW o i op e=>yG λt q v=>xS (λu w=>(pT w&&(zn op&&sz q (kE op)))&&(aM sc o u&&(aM sc i w&&aM sc e v))) t
 |.ex e=>yE λv=>zo v&&aM sc e v
 |.ite c a b=>yI λt x y=>aM sc c t&&(dj sc a x&&dj sc b y)
 |.gT c b=>yW λt x=>aM sc c t&&dj sc b x
 |.loop ts cU dq b=>yF λt i x=>lh sc ts t&&(AB sc cU (aM sc dq) i&&dj sc b x)
 |.ret e=>yR (so (aM sc e))
 |.gP=>yR Option.isNone
 |.cont=>yC
 |.kH x _=>yD λn=>bR sc x n cz
 |.qa e=>yX (xK λf es U=>xN (yb sc) f&&x1 (aM sc e) es)
 |.gR b x=>yT λbody hs=>x1 (zH λt n l=>(so (xN (yb sc)) t&&so (λn=>n==Str.ofString "fault") n)&&
  x1 (y1 λt v=>xN (λt=>bR sc x t cz) t&&xA (λw u U=>xN (λn=>n==Str.ofString "fault") w&&u==Str.ofString "tasks") v) l) hs&&
  (sc.names.lookup (Str.ofString "fault")==some .local&&dj sc b body)
 |.dead=>λU=>true
def dj(sc:Scope):Ss->List Stmt->Bool
 |.nil=>d9
 |.cons s r=>λl=>match l with|[]=>false|x::t=>sj sc s x&&dj sc r t
end
def qU:Stmt->List Stmt×List Stmt
 |.If _ x y _=>(x,y)
 |.While _ x _ _=>(x,[])
 |.For _ _ x _ _=>(x,[])
 |.Try x _ _ _ _=>(x,[])
 |_=>([],[])
mutual
def defsIn:S->Stmt->List (Nat×Stmt)
 |.kH _ f=>λst=>[(f,st)]
 |.ite _ a b=>λst=>bY a (qU st).1++bY b (qU st).2
 |.gT _ b=>λst=>bY b (qU st).1
 |.loop _ _ _ b=>λst=>bY b (qU st).1
 |.gR b _=>λst=>bY b (qU st).1
 |_=>λU=>[]
def bY:Ss->List Stmt->List (Nat×Stmt)
 |.nil=>λU=>[]
 |.cons s r=>λl=>match l with|[]=>[]|x::t=>defsIn s x++bY r t
end
def AL:Option Str->Value->Bool
 |none,.none=>true
 |some x,.str y _=>y==x
 |_,_=>false
def pZ(h:AL none v=true):v=.none:=by cases v<;>first|rfl|exact(jM h).elim
def mi(h:AL (some x) v=true):∃t,v=.str x t:=by cases v<;>first|exact(jM h).elim|exact#[_,aq (Value.str · _) (eq_of_beq h)]
variable{prog:Program}{w:World}{A:Around}{E:k01}{s:Shared}
def WS{Q:Int->Shared->Prop}(h:Q 0xFCA86420 {s with toks:=s.toks+1}):wpAny (model prog w) A (pyHash .none) Q E s:=by
 unfold pyHash pyHashByItsType;have hv:[Value.none].any Value.onHeap=false:=rfl;have d:s.TypeIs .none "NoneType":=rfl;refine av ?_;rw[cRoomFor,ak (by rw[hv];exact jM)];refine aJ ?_;refine av (wpAny_specialOf d F.slot_NoneType_hash.lookup ?_);rw[ak (by rw[beq_builtin_none];exact jM)];refine av (wpAny_specialOf d F.slot_NoneType_hash.lookup ?_);refine av (wpAny_callSpecialIfBoundUnlessNone?_slot d F.slot_NoneType_hash
  (wpAny_call_entry F.slot_NoneType_hash d F.entry_NoneType_hash
    (show wpAny _ _ (do ret (←mkInt 0xFCA86420)) _ _ s from wpAny_ret_mkInt ?_) (F.args_NoneType_hash_1 _)))
 exact aJ h
def Pb{Q:k29}(h:Q true s):wpAny (model prog w) A (eqBool .none .none) Q E s:=by unfold eqBool;exact av (wpAny_rule (aJ h))
def Pc{Q:k29}(h:Q false s):wpAny (model prog w) A (eqBool .none (.str b u)) Q E s:=by unfold eqBool;refine f4 ?_;rw[ak (by simp)];exact av (m:=richCompare .Eq _ _) (EqNone.eq_none_str (wpAny_truthy_bool h))
def Pd{Q:k29}(h:Q false s):wpAny (model prog w) A (eqBool (.str b u) .none) Q E s:=by unfold eqBool;refine f4 ?_;rw[ak (by simp)];exact av (m:=richCompare .Eq _ _) (EqNone.eq_str_none (wpAny_truthy_bool h))
def Wc(prog:Program)(w:World):KeyKind prog w (Option Str)where
 is:=AL
 hash:=λk=>match k with|none=>0xFCA86420|some x=>hashStr w x
 inj:=λv a b B hb=>by
  cases a with
  |none=>have:=pZ B;subst this;cases b with|none=>rfl|some y=>exact(jM hb).elim
  |some x=>obtain⟨t,rfl⟩:=mi B;cases b with|none=>exact(jM hb).elim|some y=>obtain⟨O,e⟩:=mi hb;injection e with G;rw[G]
 byValue:=λk v h=>by
  cases k with
  |none=>have:=pZ h;subst this;rfl
  |some x=>obtain⟨t,rfl⟩:=mi h;rfl
 pyHash:=λ{A E s k v Q} hv h=>by
  cases k with
  |none=>have:=pZ hv;subst this;exact WS h
  |some x=>obtain⟨t,rfl⟩:=mi hv;exact wpAny_pyHash_str h
 eqBool:=λ{A E s a b u v Q} d hv h=>by
  cases a with
  |none=>
   have:=pZ d;subst this;cases b with
   |none=>have:=pZ hv;subst this;exact Pb h
   |some y=>obtain⟨t,rfl⟩:=mi hv;exact Pc h
  |some x=>
   obtain⟨t,rfl⟩:=mi d;cases b with
   |none=>have:=pZ hv;subst this;exact Pd h
   |some y=>obtain⟨O,rfl⟩:=mi hv;exact wpAny_eqBool_str (by simpa using h)
 «strs»:=λk x t v h=>by
  cases k with
  |none=>cases v<;>exact(jM h).elim
  |some y=>obtain⟨u,d⟩:=mi h;injection d with J;subst J;cases v<;>rfl
abbrev gE(prog:Program)(w:World):HeapKind prog w (List (Option Str)):=tupleKind (Wc prog w)
structure dr where
 f:Nat
 c:Addr
 P:Addr
 line:Nat
 col:Nat
 name:Str
 qual:Str
 params:Arguments
 body:List Stmt
 scope:Scope
def frees(u:List (Str×NameKind)):List Str:=((u.filter (λx=>x.2== .free)).map (·.1)).reverse
mutual
def An:S->Bool
 |.ite _ a b=>fv a&&fv b
 |.gT _ b=>fv b
 |.loop _ _ _ b=>fv b
 |.gR _ _=>false
 |_=>true
def fv:Ss->Bool
 |.nil=>true
 |.cons s r=>An s&&fv r
end
def pg(d:aB)(params:Arguments)(body:k07)(scope:Scope):Bool:=
 params.posonlyargs.isEmpty&&params.vararg.isNone&&params.kwonlyargs.isEmpty&&params.kwarg.isNone&&(params.args.map (·.arg)==d.params.map (λp=>nm p.2))&&decide (d.params.map (·.2)).Nodup&&
 d.params.all (λp=>decide (p.2<aW)&&(scope.names.lookup (nm p.2)==some (if p.1 then .cell else .local)))&&
 ((scope.names.filter (λx=>x.2== .cell)).map (·.1)==d.cells.map nm)&&d.cells.all (λx=>decide (x<aW)&&(scope.names.lookup (nm x)==some .cell))&&decide d.cells.Nodup&&
 ((scope.names.filter (λx=>x.2== .free)).map (·.1)==(d.frees.map nm).reverse)&&d.frees.all (λx=>decide (x<aW))&&dj scope d.body body&&fv d.body&&(scope.kind== .function)&& !scope.isCoroutine&& !scope.isGenerator
abbrev tO(CA:Addr):List Value:=[.ref CA,.type "Exception",.type "BaseException",.type "object"]
def oy(P:Y)(n f:Nat)(d:aB):Fn:=λc args h Q X=>V.casesOn (motive_1:=λU=>Prop) c (bQ P n .none args h Q X) (λb=>bQ P n (.bool b) args h Q X) (λb=>bQ P n (.int b) args h Q X) (λb=>bQ P n (.str b) args h Q X) (λb=>bQ P n (.tup b) args h Q X) (λb=>bQ P n (.fz b) args h Q X) (λb=>bQ P n (.ref b) args h Q X)
 (λk=>if k=f then ei P (bQ P n) d [] args h Q (λU U=>False)else bQ P n (.fn k) args h Q X) (λb=>bQ P n (.cls b) args h Q X) (λb=>bQ P n (.gk b) args h Q X) (λa b=>bQ P n (.clo a b) args h Q X)
variable{af:Type}
def bL(o:Option af)(k:af->Bool):Bool:=match o with|some a=>k a|none=>false
def vE(v:Value):Option Str:=match v with|.str s _=>some s|_=>none
def qe(v:Value):Option Addr:=match v with|.ref a=>some a|_=>none
def GF(v:Value):Option Int:=match v with|.int a _=>some a|_=>none
def tV(o:Obj):Option FuncData:=match o.data with|.func fd=>some fd|_=>none
def sB(o:Obj):Option (Array Value×Nat):=match o.data with|.seq vs n=>some (vs,n)|_=>none
def iV(fd:FuncData):Option (List Stmt):=match fd.body with|.stmts b=>some b|_=>none
def hM(K:Frag)(a:Addr):Option FuncData:=(K.lookup a).bind tV
def Li:List Addr:=[28,42,47,54,61,66,71,85,99,106,113,120,127,141,155,162,169,176,183,190,197,204,211,218,225,232,239,246,253,260,274,288,295,302,307,312,319,326,333,340,347,354,427,448,462,469,476,481,495,502,509,530,535,540,547,552,559,564,571,585,592,604,609,614,619,626,633,640,651,658,665,672,679,686,691,698,705,710,715,722,729,0,0]
def eG(f:Nat):Addr:=Li.getD f 0
def dZ(c:Nat):Addr:=[31,88,144,277,430,451,595].getD c 0
def c8(n:Nat):Addr:=if n=189 then 641 else if n=186 then 642 else 0
def BN{af:Type}(k:Str->Arguments->List Stmt->Scope->Str->Pos->Option af)(e:Stmt):Option af:=if h:e.ctorIdx=0 then Stmt.FunctionDef.elim (motive_2:=λU=>Option af) e h (λn B b d r G sc ts x p=>if(d.isEmpty&&r.isNone)&&(G.isEmpty&&ts.isNone)then k n B b sc x p else none)else none
def pQ(f c P:Nat)(q:Str)(x:Nat×Stmt):Option dr:=BN (λn h b sc e d=>if x.1=f/\n=e then some {f:=f,c:=c,P:=P,line:=d.line,col:=d.col,name:=n,qual:=q++".<locals>."++n,params:=h,body:=b,scope:=sc}else none) x.2
def se(K:Frag)(a:Addr)(d:aB)(f c P:Nat):List dr:=((hM K a).bind λe=>(iV e).map λbody=>(bY d.body body).filterMap (pQ f c P e.qualname)).getD []
def d8(K:Frag):List dr:=se K 679 na 81 678 674++se K 710 cZ 82 709 707
def C6(K:Frag)(a:Addr)(d:aB):Bool:=bL (hM K a) λe=>bL (iV e) λbody=>((e.closure.isEmpty&&decide (e.globals=mainGlobals))&&decide (e.builtins=builtinsNs))&&(codeIn K e.code e.qualname&&pg d e.params body e.scope)
def IT:List Nat:=(List.range 81).filter λf=>f != 77
def C7(K:Frag)(a:Addr)(d:aB):Bool:=bL (hM K a) λe=>bL (iV e) λbody=>(d.dE.isEmpty&&e.defaults== .none)&&(bY d.body body).isEmpty
def wD(K:Frag):Bool:=IT.all λf=>bL (lE f) λd=>C6 K (eG f) d&&((C7 K (eG f) d||f==42)||f==72)
def t4:List V->List Value->Bool
 |[]=>λvs=>vs.isEmpty
 |x::r=>λvs=>match vs with|[]=>false|v::t=>(bL (x.eK some) λi=>bL (GF v) λj=>decide (i=j))&&t4 r t
def By(K:Frag)(v:V)(pv:Value):Bool:=V.casesOn (motive_1:=λU=>Bool) v false (λU=>false) (λU=>false) (λn=>bL (vE pv) λs=>s==nm n&&decide (n<aW)) (λxs=>bL (qe pv) λa=>bL (K.lookup a) λo=>(o.cls== .type "tuple")&&bL (sB o) λvs=>t4 xs vs.1.toList) (λU=>false) (λU=>false)
 (λf=>bL (qe pv) λa=>a==eG f) (λc=>bL (qe pv) λa=>a==dZ c) (λn=>bL (qe pv) λa=>(a==c8 n&&decide (n<aW))&& !(c8 n==0)) (λU U=>false)
def tF(K:Frag):Bool:=vZ.all λp=>decide (p.1<252)&&bL (nsIn K mainGlobals (nm p.1)) λo=>bL o λpv=>By K p.2 pv
def Nq(K:Frag)(c f:Nat):Bool:=((plainGet K (dZ c) (nm f)&&hasDictIn K (dZ c))&&(findIn K (.ref (dZ c)) (nm f)==some none))&&((findIn K (.ref (dZ c)) "__setattr__"==some (some (.builtin "object.__setattr__")))&&(plainOver K (dZ c)&&(takerIn K (dZ c) (nm f)==some none)))
def tE(K:Frag):Bool:=(List.range 7).all λc=>vT.all (Nq K c)
def Nr(K:Frag)(c f:Nat):Bool:=(makesIn K (dZ c)&&(findIn K (.ref (dZ c)) "__init__"==some (some (.ref (eG f)))))&&(isFn K (.ref (eG f))&&keepIn K (.ref (dZ c)))
def wF(K:Frag):Bool:=(List.range 7).all λc=>bL (qC c) (Nr K c)
def ri(K:Frag)(n:Nat):Bool:=bL (K.lookup (c8 n)) λo=>((o.cls== .type "tuple"&&o.dict.isNone)&&o.slots.isEmpty)&&bL (sB o) λvs=>x2 (λa b=>bL (vE a) (λs=>s==nm n)&&b== .none) vs.1.toList
def oW(K:Frag):Bool:=((ri K 189&&ri K 186)&&(plainGet K 595 (nm 95)&&((findIn K (.ref 595) (nm 95)==some (some (.ref 592)))&&isFn K (.ref 592))))&&
 (((nsIn K mainGlobals "len"==some none)&&(nsIn K mainGlobals "max"==some none))&&((nsIn K mainGlobals "sorted"==some none)&&(nsIn K mainGlobals "range"==some none)))
def az:Y:={PR with fns:=λf=>if f=77 then none else lE f}
def H3(l:List Arg):Bool:=l.all λa=>a.annotation.isNone
def H4(ps:Arguments):Bool:=H3 (ps.args++ps.posonlyargs++ps.vararg.toList++ps.kwonlyargs++ps.kwarg.toList)
def HV(sc:Scope)(f:Nat)(N:dr):Bool:=(((N.params.defaults.isEmpty&&N.params.kw_defaults.isEmpty)&&H4 N.params)&& !(sc.names.lookup N.name==some .globalExplicit))&&bL (lE f) λd=>((frees N.scope.names==d.frees.map nm)&&d.frees.all (λx=>decide (x<aW)&&(sc.names.lookup (nm x)==some .cell)))&&(pg d N.params N.body N.scope&&((d.cells.isEmpty&&d.dE.isEmpty)&&(bY d.body N.body).isEmpty))
def qY(K:Frag)(a:Addr)(d:aB)(f c:Nat):Bool:=bL (hM K a) λe=>bL (iV e) λbody=>((e.defaults== .none&&d.dE.isEmpty)&&e.code== .ref c)&&x1 (λx=>bL (pQ f c 0 e.qualname x) (HV e.scope f)) (bY d.body body)
def wI(K:Frag):Bool:=bL (hM K 710) λd=>bL (iV d) λbody=>(((d.closure.isEmpty&&decide (d.globals=mainGlobals))&&decide (d.builtins=builtinsNs))&&codeIn K d.code d.qualname)&&(pg {cZ with body:=.nil} d.params [] d.scope&&dj d.scope cZ.body body)
structure tc(K:Frag)(hb:Heap):Prop where
 c1:qY K 679 na 81 678=true
 c2:qY K 710 cZ 82 709=true
 h1:CodeHd hb 678 674
 h2:CodeHd hb 709 707
def IP(ps:Arguments):Bool:=(ps.posonlyargs.isEmpty&&ps.vararg.isNone)&&(ps.kwonlyargs.isEmpty&&ps.kwarg.isNone)
def wK(K:Frag)(a:Addr)(p2 u:Str)(k:List Stmt->Bool):Bool:=bL (K.lookup a) λo=>(o.cls== .type "function")&&bL (tV o) λd=>bL (iV d) λb=>
 (((((d.closure.isEmpty&&decide (d.globals=mainGlobals))&&decide (d.builtins=builtinsNs))&&codeIn K d.code d.qualname)&&d.defaults== .none)&&(IP d.params&&((d.params.args.map (·.arg)==[("self":Str),p2])&& !(("self":Str)==p2))))&&
 ((((d.scope.names.lookup ("self":Str)==some .local)&&(d.scope.names.lookup p2==some .local))&&((d.scope.names.lookup u==some .globalImplicit)&&d.scope.names.all (λx=> !(x.2== .cell))))&&((d.scope.kind== .function&&(!d.scope.isCoroutine&& !d.scope.isGenerator))&&k b))
def wU(o:Obj):Option ClassData:=match o.data with|.cls cd=>some cd|_=>none
def xo(o:Obj):Option (Array DictEntry×Nat):=match o.data with|.dict es n=>some (es,n)|_=>none
def wH(K:Frag):Bool:=bL (K.lookup 410) λo=>(o.cls== .type "type")&&bL (wU o) λcd=>(((cd.mro== .ref 410::tO 371)&&cd.hasDict)&&(!cd.hasDel&&(decide (o.slots.size=6)&&(o.slots[4]? ==some (some (.builtin "Exception.__new__"))))))&&
 bL (K.lookup cd.ns) λod=>bL (xo od) λes=>es.1.toList.all (λe=>(vE e.key).isSome)&&(nsFind es.1 "__init__"==some (.ref 407))
def wM(K:Frag)(n:Str):Bool:=(findIn K (.ref 410) "__setattr__"==some (some (.builtin "object.__setattr__")))&&(takerIn K 410 n==some none)
def yd(o:Option CFound)(v:Value):Bool:=match o with|some (.val u)=>u==v|_=>false
def Nt(K:Frag):Bool:=((((nsIn K mainGlobals "AdaError"==some (some (.ref 371)))&&(nsIn K mainGlobals "Exception"==some none))&&((nsIn K mainGlobals "Deadlock"==some (some (.ref 410)))&&readsIn K 371 (.type "type")))&&
 (yd (findCls K (.ref 371) (.type "type") "__init__") (.ref 368)&&(specialIn K (.ref 371) "__getattribute__"==some (some (.builtin "type.__getattribute__")))))&&
 (((findIn K (.type "type") "__getattribute__"==some (some (.builtin "type.__getattribute__")))&&(subIn K (.type "type") (.type "type")==some true))&&(yd (findCls K (.type "Exception") (.type "type") "__init__") (.builtin "Exception.__init__")&&keepIn K (.ref 410)))
def wJ(K:Frag):Bool:=((findIn K (.ref 410) "__getattribute__"==some (some (.builtin "BaseException.__getattribute__")))&&(findIn K (.ref 410) "__getattr__"==some none))&&((mroIn K 410 (.type "BaseException")==some true)&&(hasDictIn K 410&&(findIn K (.ref 410) "tasks"==some none)))
def A9(e:Str)(k:k25)(t:Str):List Stmt->Bool:=x2 λh x=>yE (xK λg es a=>xA (λv i d=>(xN (λn=>n==e) v&&i==("__init__":Str))&&d.endLine==a.line) g&&x2 (λs c=>xN (λn=>n==("self":Str)) s&&k c) es) h&&
 y1 (λu v=>xA (λw n U=>xN (λn=>n==("self":Str)) w&&n==t) u&&xN (λn=>n==t) v) x
def JH:List Stmt->Bool:=A9 "AdaError" (xC (cS λU=>true)) "tasks"
def JI:List Stmt->Bool:=A9 "Exception" (xN λn=>n==("text":Str)) "text"
def wN(K:Frag):Bool:=((wH K&&wK K 407 "tasks" "AdaError" JH)&&(wK K 368 "text" "Exception" JI&&wM K "text"))&&(wM K "tasks"&&Nt K)
def s9(ns:k23):Prop:=bc az (oy az 40 77 cZ) (λU=>none) kF.body (upd (λU=>none) 180 (.fz (ns.map V.int))) (λU=>.fresh) (λf U U=>f=.ret (.bool true)) (λU U U=>False)
structure sV(K:Frag)(hb:Heap):Prop where
 c0:wD K=true
 c1:tF K=true
 c2:tE K=true
 c3:oW K=true
 c4:wF K=true
 c5:wI K=true
 c6:wN K=true
 c7:wJ K=true
 NS:tc K hb
def LN:List Str:=je.params.map λp=>nm p.2
def wL(K:Frag):Bool:=bL (hM K 427) λd=>(IP d.params&&(d.params.args.map (·.arg)==LN))&&bL (qe d.defaults) λT=>bL (K.lookup T) λo=>bL (sB o) λvs=>t4 je.dE vs.1.toList
structure Gx where
 prog:Program
 w:World
 K:Frag
 loose:List Str
 r6:ExcName->Option Value
 mg:Str->Option Value
 mb:Str->Option Value
 hb:Heap
 os:OsState
def Claim(x:Gx):Prop:=x.K.In x.hb->Top topProg x.loose x.r6 x.mg x.mb x.hb->sV x.K x.hb->wL x.K=true->Below callerA x.hb [] x.hb->
 ∀(name:Str) (scope:Scope) (L fa a:Addr) (cd:Value) (body:k07) (s:Shared) (vs:k04) (ns:k23) (n:Nat),s9 ns->Fr x.hb L s.heap (λy=>([("script",.ref a)]:List (Str×Value)).reverse.lookup y)->
 News x.hb L s.heap [(674,tabObj #[]),(707,tabObj #[])]->s.gens=#[]->s.os=x.os->x.hb.get? a=some (listOf (List.toArray vs) n)->IntsAre vs ns->
 dj scope kF.body body=true->scope.kind=.function->scope.names.all (λx=> !(x.2== .cell))=true->
 wpAny (model x.prog x.w) (callerA.deeper (envX name scope L fa cd [])) (execs body (envX name scope L fa cd []))
  (λf s'=>f=.ret (.bool true)/\(∀b o,x.hb.get? b=some o->s'.heap.get? b=some o)/\s'.os=x.os/\s'.gens=#[]/\GrownAll [(678,674),(709,707)] s'.heap) (λU U=>False) s
def QS:Nonempty Gx:=#[#[default,#[λU U=>0,{strHash:=λU=>0,shareClass:=λU=>0,mergeTok:=id,idOf:=λU=>0,idOfShared:=λU U=>0,followText:=λU=>false,idOfImm:=λU=>0}],[],[],λU=>none,λU=>none,λU=>none,default,default]]
def gx:Gx:=@Classical.epsilon Gx QS λx=>¬Claim x
abbrev gM:Model:=model gx.prog gx.w
def Nz(h:Claim gx)(x:Gx):Claim x:=Classical.byContradiction λq=>Classical.epsilon_spec (p:=λx=>¬Claim x) #[x,q] h
structure Wd where
 aN:Nm->Option Addr
 own:Addr->Option Nm
 aI:Addr->Option Obj
 ar:Addr->Option Obj
 pin:Addr->Option Obj
structure Wd.Le(W W':Wd):Prop where
 aN:∀a x,W.aN a=some x->W'.aN a=some x
 own:∀x a,W.own x=some a->W'.own x=some a
 aI:∀x o,W.aI x=some o->W'.aI x=some o
 ar:∀x o,W.ar x=some o->W'.ar x=some o
 pin:∀x o,W.pin x=some o->W'.pin x=some o
def Wd.Le.refl(W:Wd):W.Le W:=#[λU U e=>e,λU U e=>e,λU U e=>e,λU U e=>e,λU U e=>e]
def Wd.Le.trans{a b c:Wd}(x:a.Le b)(y:b.Le c):a.Le c:=#[λU U e=>y.aN _ _ (x.aN _ _ e),λU U e=>y.own _ _ (x.own _ _ e),λU U e=>y.aI _ _ (x.aI _ _ e),λU U e=>y.ar _ _ (x.ar _ _ e),λU U e=>y.pin _ _ (x.pin _ _ e)]
def v5(W:Wd)(x:Addr)(o:Obj):Prop:=W.aI x=some o\/gx.hb.get? x=some o
def ci{af aK:Type}(P:af->aK->Prop):List af->List aK->Prop
 |[]=>λl=>l=[]
 |x::r=>λl=>match l with|[]=>False|y::t=>P x y/\ci P r t
def ci.ind{af aK:Type}{P:af->aK->Prop}{M:List af->List aK->Prop}(u:M [] [])(z:∀x r y t,P x y->ci P r t->M r t->M (x::r) (y::t)){l:List af}{m:List aK}(h:ci P l m):M l m:=by
 induction l generalizing m with
 |nil=>cases(h:m=[]);exact u
 |cons x r d=>induction m using List.casesOn with
  |nil=>exact False.elim h
  |cons y t=>exact z _ _ _ _ h.1 h.2 (d h.2)
def ci.imp{af aK:Type}{P Q:af->aK->Prop}(k:∀x y,P x y->Q x y){l:List af}{m:List aK}(h:ci P l m):ci Q l m:=ci.ind (M:=ci Q) rfl (λU U U U p U q=>aG (k _ _ p) q) h
def ci.length{af aK:Type}{P:af->aK->Prop}{l:List af}{m:List aK}(h:ci P l m):l.length=m.length:=ci.ind (P:=P) (M:=λ(l:List af) (m:List aK)=>l.length=m.length) (l:=l) (m:=m) rfl (λU U U U U U q=>aq (· +1) q) h
def K7(W:Wd)(p:Str×Addr)(q:Nat×Nm):Prop:=(p.1=nm q.1/\q.1<aW)/\W.aN q.2=some p.2
def ip(W:Wd):List (Str×Addr)->List (Nat×Nm)->Prop:=ci (K7 W)
def LV(W:Wd)(R:List Value->Prop)(v:Value):Prop:=∀P:Prop,(∀(x:Addr) (o:Obj) (vs:k04) (n:Nat) (e:v=.ref x) (p:v5 W x o) (c:o.cls=.type "tuple") (d:o.data=.seq (List.toArray vs) n) (r:R vs),P)->P
def Lu(W:Wd)(R:List Value->Prop)(v:Value):Prop:=∀P:Prop,(∀(x:Addr) (vs:k04) (n:Nat) (e:v=.ref x) (p:v5 W x (listOf (List.toArray vs) n)) (r:R vs),P)->P
def K8(W:Wd)(f:Nat)(cs:k31)(v:Value):Prop:=∀P:Prop,(∀(x:Addr) (N:dr) (cl:k17) (d J:Value) (h:Addr) (G:Value) (B:Obj) (vs:Array Value) (t:Tok) (e:v=.ref x) (O:N∈d8 gx.K) (z:N.f=f) (Q:W.aI x=some (fnMade N.name N.qual N.params N.body N.scope cl d J h G)) (u:ip W cl cs) (y:W.aI h=some B) (hd:B.data=.fields vs) (D:vs[1]? =some (.str N.qual t)),P)->P
def La(P:Value->Prop)(R:List Value->Prop)(vs:k04):Prop:=∀d:Prop,(∀(v:Value) (r:k04) (e:vs=v::r) (a:P v) (b:R r),d)->d
mutual
def VR(W:Wd):V->Value->Prop
 |.none=>λv=>v=.none
 |.bool b=>λv=>v=.bool b
 |.int i=>λv=>∃t,v=.int i t
 |.str n=>λv=>n<aW/\∃t,v=.str (nm n) t
 |.tup xs=>LV W (aA W xs)
 |.fz xs=>Lu W (aA W xs)
 |.ref a=>λv=>∃x,v=.ref x/\W.aN a=some x
 |.fn f=>λv=>v=.ref (eG f)
 |.cls c=>λv=>v=.ref (dZ c)
 |.gk n=>λv=>n<aW/\c8 n≠0/\v=.ref (c8 n)
 |.clo f cs=>K8 W f cs
def aA(W:Wd):List V->List Value->Prop
 |[]=>λvs=>vs=[]
 |x::xs=>La (VR W x) (aA W xs)
end
def jI(W:Wd):Option V->Option Value->Prop
 |some x=>λv=>match v with|some v=>VR W x v|none=>False
 |none=>λv=>v=none
def FP(W:Wd)(e:DictEntry)(p:Nat×V):Prop:=p.1<aW/\(∃d,e.key=.str (nm p.1) d)/\VR W p.2 e.val
def FR(W:Wd):List DictEntry->List (Nat×V)->Prop:=ci (FP W)
def AP{af aK:Type}(u:af->aK->Prop)(W:Wd)(e:af×Value)(p:aK×V):Prop:=u e.1 p.1/\VR W p.2 e.2
def AR{af aK:Type}(u:af->aK->Prop)(W:Wd):List (af×Value)->List (aK×V)->Prop:=ci (AP u W)
def uU(s:Str)(n:Nat):Prop:=n<aW/\s=nm n
def Ab(a b:Int):Prop:=a=b
def QI(n:Nat):Prop:=c8 n≠0
def eM(k:List (Option Str)×Addr)(n:Nat):Prop:=QI n/\n<aW/\k=([some (nm n),none],c8 n)
def eQ(x:k33):(List (Option Str)×Addr)×Value:=((x.1,x.2.1),x.2.2)
inductive LG(W:Wd)(news:k05)(a:Nm)(c:Nat)(fs:k16):Prop
 |mk (x d:Addr) (es:List DictEntry) (n:Nat) (h1:W.aN a=some x) (h2:W.own d=some a) (h3:(x,instObj (dZ c) d)∈news) (h4:(d,dictOf es n)∈news) (h5:FR W es fs) (h6:c<7)
inductive LF(W:Wd)(news:k05)(a:Nm)(xs:k00):Prop
 |mk (x:Addr) (vs:k04) (n:Nat) (h1:W.aN a=some x) (h3:(x,listOf (List.toArray vs) n)∈news) (h5:aA W xs vs)
inductive B9(W:Wd)(news:k05)(a:Nm)(fs:k16):Prop
 |mk (x:Addr) (o:Obj) (kvs:List (Str×Value)) (h1:W.aN a=some x) (h2:(x,o)∈news) (h3:o.IsDictOf (strKind gx.prog gx.w) kvs) (h4:AR uU W kvs fs)
inductive B7(W:Wd)(news:k05)(a:Nm)(fs:k16):Prop
 |mk (x:Addr) (o:Obj) (es:Array DictEntry) (ep:Nat) (xs:k24) (h1:W.aN a=some x) (h2:(x,o)∈news) (h3:o.ExactDict/\(x==sysModules)=false) (h4:o.data=.dict es ep) (h5:es.toList=xs.map (entryOfKey (gE gx.prog gx.w))) (h6:(xs.map (·.1)).Nodup) (h7:AR (eM) W (xs.map eQ) fs)
inductive B8(W:Wd)(news:k05)(a:Nm)(fs:List (Int×V)):Prop
 |mk (x:Addr) (o:Obj) (kvs:List (Int×Value)) (h1:W.aN a=some x) (h2:(x,o)∈news) (h3:o.IsDictOf (intKind gx.prog gx.w) kvs/\(x==sysModules)=false) (h4:AR Ab W kvs fs)
inductive LD(W:Wd)(news:k05)(a:Nm)(v:Option V):Prop
 |mk (x:Addr) (o:Obj) (v':Option Value) (h1:W.aN a=some x) (h2:(x,o)∈news) (h3:o.data=.cell v') (h4:jI W v v')
def OR(W:Wd)(news:k05)(a:Nm):aa->Prop
 |.inst c fs=>LG W news a c fs
 |.list xs=>LF W news a xs
 |.dp fs=>B9 W news a fs
 |.aU fs=>B7 W news a fs
 |.fc fs=>B8 W news a fs
 |.cell v=>LD W news a v
inductive wd(W:Wd)(news:k05)(N:dr):Prop
 |no (h:(N.P,tabObj #[])∈news)
 |yes (c':Addr) (oc:Obj) (vs:Array Value) (t:Tok) (h:(N.P,tabObj #[rawInt N.line,rawInt N.col,.ref c',])∈news) (h1:W.aI c'=some oc) (h2:oc.data=.fields vs) (h3:vs[1]? =some (.str N.qual t))
structure ky(W:Wd)(news:k05)(N:dr):Prop where
 own:W.own N.P=none
 aI:W.aI N.P=none
 ar:W.ar N.P=none
 t:wd W news N
structure bg(W:Wd)(h:H)(news:k05):Prop where
 nd:(news.map (·.1)).Nodup
 aI:∀x o,W.aI x=some o->(x,o)∈news/\W.own x=none
 ar:∀x o,W.ar x=some o->(x,o)∈news/\W.own x=none/\W.aI x=none
 pin:∀x o,W.pin x=some o->(x,o)∈news/\∃a es,W.aN a=some x/\h a=.pin es
 own:∀x a,W.own x=some a->x∈news.map (·.1)
 bp:∀a x,W.aN a=some x->W.own x=some a
 fresh:∀a,h a=.fresh->W.aN a=none
 live:∀a o,h a=.live o->OR W news a o
 pins:∀a es,h a=.pin es->OR W news a (.aU es)
 tabs:∀N∈d8 gx.K,ky W news N
def VR.n{W:Wd}:VR W .none .none:=rfl
def VR.b{W:Wd}{b:Bool}:VR W (.bool b) (.bool b):=rfl
def VR.i{W:Wd}{i:Int}{t:Tok}:VR W (.int i) (.int i t):=#[t,rfl]
def VR.sv{W:Wd}{n:Nat}{t:Tok}(h:n<aW):VR W (.str n) (.str (nm n) t):=#[h,t,rfl]
def VR.r{W:Wd}(h:W.aN a=some x):VR W (.ref a) (.ref x):=#[x,rfl,h]
def aA.z:aA W [] []:=rfl
def aA.c(h:VR W x v)(k:aA W xs vs):aA W (x::xs) (v::vs):=λU z=>z v vs rfl h k
@[elab_as_elim]def aA.f7{M:List Value->Prop}(h:aA W (x::xs) vs)(k:∀v r,VR W x v->aA W xs r->M (v::r)):M vs:=by refine h _ ?_;rintro v r rfl a b;exact k v r a b
structure Wd.Lv(W W':Wd):Prop where
 aN:∀a x,W.aN a=some x->W'.aN a=some x
 aI:∀x o,W.aI x=some o->W'.aI x=some o
def Wd.Le.lv{W W':Wd}(k:W.Le W'):W.Lv W':=#[k.aN,k.aI]
def Wd.Lv.of{W W':Wd}(u:W'.aN=W.aN)(y:W'.aI=W.aI):W.Lv W':=#[λa x e=>(congrFun u a).trans e,λx o e=>(congrFun y x).trans e]
def ip.up{W W':Wd}(k:W.Lv W')(h:ip W cl cs):ip W' cl cs:=ci.imp (λU U h=>#[h.1,k.aN _ _ h.2]) h
def ip.mono{W W':Wd}(k:W.Le W')(h:ip W cl cs):ip W' cl cs:=h.up k.lv
def VR.up{W W':Wd}(k:W.Lv W')(x:V):∀v,VR W x v->VR W' x v:=@V.rec (λx=>∀v,VR W x v->VR W' x v) (λx=>∀v,aA W x v->aA W' x v) (λU h=>h) (λU U h=>h) (λU U h=>h) (λU U h=>h)
 (λU ae v h=>by exact h _ λx o vs n e p c d r=>λU z=>z x o vs n e (p.imp (k.aI _ _) id) c d (ae _ r)) (λU ae v h=>by exact h _ λx vs n e p r=>λU z=>z x vs n e (p.imp (k.aI _ _) id) (ae _ r))
 (λU v h=>h.elim λx h=>#[x,h.1,k.aN _ _ h.2]) (λU U h=>h) (λU U h=>h) (λU U h=>h)
 (λU U v h=>by exact h _ λx N cl B pm G J oc vs t e O y Q P u hd D=>λU z=>z x N cl B pm G J oc vs t e O y (k.aI _ _ Q) (P.up k) (k.aI _ _ u) hd D)
 (λU h=>h) (λU U ae aH v h=>by exact h _ λv r e a b=>λU z=>z v r e (ae _ a) (aH _ b)) x
def aA.up{W W':Wd}(k:W.Lv W'):∀{xs:k00} {vs:k04},aA W xs vs->aA W' xs vs:=λ{xs}=>by
 induction xs with
 |nil=>exact id
 |cons x r d=>intro vs h;exact h _ λv t e a b=>λU z=>z v t e (VR.up k x v a) (d b)
def jI.up{W W':Wd}(k:W.Lv W')(h:jI W x v):jI W' x v:=by
 induction x using Option.casesOn with
 |none=>exact h
 |some x=>induction v using Option.casesOn with
  |none=>exact h
  |some v=>exact VR.up k x v h
def FR.up{W W':Wd}(k:W.Lv W')(h:FR W es fs):FR W' es fs:=ci.imp (λU U h=>#[h.1,h.2.1,VR.up k _ _ h.2.2]) h
def AR.up{af aK:Type}{u:af->aK->Prop}{W W':Wd}(k:W.Lv W'){es:List (af×Value)}{fs:List (aK×V)}(h:AR u W es fs):AR u W' es fs:=ci.imp (λU U h=>#[h.1,VR.up k _ _ h.2]) h
def OR.up{W W':Wd}(k:W.Lv W')(z:∀x a,W.own x=some a->W'.own x=some a)(y:∀a x,W.aN a=some x->W.own x=some a)(u:∀x o,W.own x=some a->(x,o)∈news->(x,o)∈news'):
 ∀{o:aa},OR W news a o->OR W' news' a o:=λ{o}=>by
 cases o<;>intro h<;>cases h
 .exact#[_,_,_,_,k.aN _ _ ‹_›,z _ _ ‹W.own _=_›,u _ _ (y _ _ ‹_›) ‹_›,u _ _ ‹W.own _=_› ‹_›,FR.up k ‹_›,‹_›]
 .exact#[_,_,_,k.aN _ _ ‹_›,u _ _ (y _ _ ‹_›) ‹_›,aA.up k ‹_›]
 .exact#[_,_,_,k.aN _ _ ‹_›,u _ _ (y _ _ ‹_›) ‹_›,‹_›,AR.up k ‹_›]
 .exact#[_,_,_,_,_,k.aN _ _ ‹_›,u _ _ (y _ _ ‹_›) ‹_›,‹_›,‹_›,‹_›,‹_›,AR.up k ‹_›]
 .exact#[_,_,_,k.aN _ _ ‹_›,u _ _ (y _ _ ‹_›) ‹_›,‹_›,AR.up k ‹_›]
 .exact#[_,_,_,k.aN _ _ ‹_›,u _ _ (y _ _ ‹_›) ‹_›,‹_›,jI.up k ‹_›]
def VR.mono{W W':Wd}(k:W.Le W')(h:VR W x v):VR W' x v:=VR.up k.lv x v h
def aA.mono{W W':Wd}(k:W.Le W')(h:aA W xs vs):aA W' xs vs:=h.up k.lv
def OR.mono{W W':Wd}(k:W.Le W')(y:∀a x,W.aN a=some x->W.own x=some a)(u:∀x o,W.own x=some a->(x,o)∈news->(x,o)∈news')(h:OR W news a o):OR W' news' a o:=h.up k.lv k.own y u
def H.fy(h:H)(a:Nm)(s:Slot):h.set a s a=s:=al rfl
def H.dT(h:H)(s:Slot)(n:b≠a):h.set a s b=h b:=ak n
def fS{news:k05}(h:(x,o)∈news):x∈news.map (·.1):=bv.mpr #[_,h,rfl]
def Vv{news:k05}(u:(news.map (·.1)).Nodup)(h:(x,o)∈news)(h':(x,o')∈news):o=o':=by
 induction news with
 |nil=>cases h
 |cons p r d=>
  rw[List.map_cons,ek]at u;rcases b8.mp h with e|h
  .rcases b8.mp h' with e'|h'
   .rw[←e]at e';exact(Prod.mk.inj e').2.symm
   .rw[←e]at u;exact absurd (fS h') u.1
  .rcases b8.mp h' with e'|h'
   .rw[←e']at u;exact absurd (fS h) u.1
   .exact d u.2 h h'
def bg.xX(R:bg W h news)(f:i6 h h'):bg W h' news:=
 #[R.nd,R.aI,R.ar,λx o e=>#[(R.pin x o e).1,let#[a,es,B,d]:=(R.pin x o e).2;#[a,es,B,by
  rcases f a with q|⟨_,G,q⟩
  .rw[q];exact d
  .rw[q]at d;cases d]],R.own,R.bp,
  λa e=>R.fresh a (by rcases f a with q|⟨q,_⟩<;>rw[q]at e<;>first|exact e|cases e),
  λa o e=>R.live a o (by rcases f a with q|⟨q,_⟩<;>rw[q]at e<;>first|exact e|cases e),
  λa o e=>R.pins a o (by rcases f a with q|⟨q,_⟩<;>rw[q]at e<;>first|exact e|cases e),R.tabs]
def Wd.eo(W:Wd)(x:Addr)(o:Obj):Wd:={W with aI:=λy=>if y=x then some o else W.aI y}
def Wd.Qm{W:Wd}(hx:W.aI x=none):W.Le (W.eo x o):=
 #[λU U e=>e,λU U e=>e,λy d e=>by
  by_cases q:y=x
  .subst q;rw[hx]at e;cases e
  .show(if y=x then some o else W.aI y)=_;rw[ak q];exact e,λU U e=>e,λU U e=>e]
def wd.key{news:k05}{N:dr}(T:wd W news N):N.P∈news.map (·.1):=by cases T<;>exact fS ‹_›
def ky.mono{W W':Wd}{N:dr}(T:ky W news N)(ho:W'.own N.P=none)(hf:W'.aI N.P=none)(hp:W'.ar N.P=none)(k:W.Lv W')(u:∀o,(N.P,o)∈news->(N.P,o)∈news'):ky W' news' N:=
 #[ho,hf,hp,by cases T.t with|no h=>exact .no (u _ h)|yes d G vs t h e x B=>exact .yes d G vs t (u _ h) (k.aI _ _ e) x B]
def ky.key{news:k05}{N:dr}(T:ky W news N):N.P∈news.map (·.1):=T.t.key
def bg.eo{W:Wd}{news:k05}(R:bg W h news)(hx:x∉news.map (·.1)):bg (W.eo x o) h ((x,o)::news)/\W.Le (W.eo x o):=by
 have G:W.aI x=none:=by
  cases q:W.aI x with
  |none=>rfl
  |some d=>exact absurd (fS (R.aI x d q).1) hx
 have O:W.own x=none:=by
  cases q:W.own x with
  |none=>rfl
  |some d=>exact absurd (R.own x d q) hx
 have k:=Wd.Qm (o:=o) G;refine#[#[by rw[List.map_cons,ek];exact#[hx,R.nd],λy d e=> ?_,λy d e=>#[gv _ (R.ar y d e).1,(R.ar y d e).2.1,?_],λy d e=>#[gv _ (R.pin y d e).1,(R.pin y d e).2],λy a e=>gv _ (R.own y a e),R.bp,R.fresh,λa d e=>(R.live a d e).mono k R.bp λU U U m=>gv _ m,λa es e=>(R.pins a es e).mono k R.bp λU U U m=>gv _ m,λN B=> ?_],k]
 .change (if y=x then some o else W.aI y)=_ at e;by_cases q:y=x
  .rw[al q]at e;cases e;subst q;exact#[.head _,O]
  .rw[ak q]at e;exact#[gv _ (R.aI y d e).1,(R.aI y d e).2]
 .show(if y=x then some o else W.aI y)=none;rw[ak (λq=>hx (by rw[←q];exact fS (R.ar y d e).1))];exact(R.ar y d e).2.2
 .have T:=R.tabs N B;have J:N.P≠x:=λq=>hx (q▸T.key);exact T.mono T.1 (by show(if N.P=x then some o else W.aI N.P)=none;rw[ak J];exact T.2) T.3 k.lv λU m=>gv _ m
def Wd.name(W:Wd)(a:Nm)(x:Addr)(xs:List Addr):Wd:={W with aN:=λb=>if b=a then some x else W.aN b,own:=λy=>if y∈x::xs then some a else W.own y}
def bg.name{W:Wd}{h:H}{news:k05}(R:bg W h news)(u:h a=.fresh){new:k05}
 (hk:new.map (·.1)=x::xs)(nH:(x::xs).Nodup)(hx:∀y∈x::xs,y∉news.map (·.1))(D:∀W',W'=W.name a x xs->W.Le W'->OR W' (new++news) a o):
 bg (W.name a x xs) (h.set a (.live o)) (new++news)/\W.Le (W.name a x xs):=by
 obtain nO:=R.fresh a u;have J:∀y∈x::xs,W.own y=none:=λy G=>by
  cases q:W.own y with
  |none=>rfl
  |some d=>exact absurd (R.own y d q) (hx y G)
 have k:W.Le (W.name a x xs):=by
  refine#[λb y e=> ?_,λy b e=> ?_,λU U e=>e,λU U e=>e,λU U e=>e]
  .show(if b=a then some x else W.aN b)=_;rw[ak (λq=>by subst q;rw[nO]at e;cases e)];exact e
  .show(if y∈x::xs then some a else W.own y)=_;rw[ak (λq=>by rw[J y q]at e;cases e)];exact e
 obtain Q:∀y,y∈(new++news).map (·.1)↔y∈x::xs\/y∈news.map (·.1):=λy=>by rw[List.map_append,hk,List.mem_append]
 refine#[#[?_,λy d e=> ?_,λy d e=> ?_,λy d e=> ?_,λy b e=> ?_,λb y e=> ?_,λb e=> ?_,λb d e=> ?_,λb es e=> ?_,λN O=> ?_],k]
 .rw[List.map_append,hk,List.nodup_append];exact#[nH,R.nd,λy G z hz q=>hx y G (q▸hz)]
 .have q:=R.aI y d e;refine#[jL _ q.1,?_];show(if y∈x::xs then some a else W.own y)=_;rw[ak λz=>hx y z (fS q.1)];exact q.2
 .have q:=R.ar y d e;refine#[jL _ q.1,?_,q.2.2];show(if y∈x::xs then some a else W.own y)=_;rw[ak λz=>hx y z (fS q.1)];exact q.2.1
 .obtain⟨q1,b,es,q2,B⟩:=R.pin y d e;refine#[jL _ q1,b,es,?_,?_]
  .show(if b=a then some x else W.aN b)=_;rw[ak (λz=>by rw[z,u]at B;cases B)];exact q2
  .rw[H.dT _ _ (λz=>by rw[z,u]at B;cases B)];exact B
 .rw[Q];change (if y∈x::xs then some a else W.own y)=_ at e;by_cases q:y∈x::xs
  .exact .inl q
  .rw[ak q]at e;exact .inr (R.own y b e)
 .change (if b=a then some x else W.aN b)=_ at e;show(if y∈x::xs then some a else W.own y)=_;by_cases q:b=a
  .rw[al q]at e;cases e;rw[al (.head _),q]
  .rw[ak q]at e;have z:=R.bp b y e;rw[ak (λc=>by rw[J y c]at z;cases z)];exact z
 .show(if b=a then some x else W.aN b)=_;by_cases q:b=a
  .subst q;rw[H.fy]at e;cases e
  .rw[H.dT _ _ q]at e;rw[ak q];exact R.fresh b e
 .by_cases q:b=a
  .subst q;rw[H.fy]at e;cases e;exact D _ rfl k
  .rw[H.dT _ _ q]at e;exact(R.live b d e).mono k R.bp λU U U m=>jL _ m
 .by_cases q:b=a
  .subst q;rw[H.fy]at e;cases e
  .rw[H.dT _ _ q]at e;exact(R.pins b es e).mono k R.bp λU U U m=>jL _ m
 .have T:=R.tabs N O;refine T.mono ?_ T.2 T.3 k.lv λU m=>jL _ m;show(if N.P∈x::xs then some a else W.own N.P)=none;rw[ak λz=>hx _ z T.key];exact T.1
abbrev dc(news:k05)(d:Addr)(o:Obj):List (Addr×Obj):=news.map λp=>if p.1=d then(d,o)else p
def km(news:k05)(d:Addr)(o:Obj):(dc news d o).map (·.1)=news.map (·.1):=by
 rw[List.map_map];apply jb;intro p _;by_cases q:p.1=d
 .simp[q]
 .simp[q]
def dz(h:(x,o')∈news)(n:x≠d):(x,o')∈dc news d o:=
 bv.mpr #[_,h,by simp[n]]
def iH(h:(d,o')∈news):(d,o)∈dc news d o:=
 bv.mpr #[_,h,by simp]
def Zt{l:k05}(u:d∉l.map (·.1)):dc l d o'=l:=by
 conv=>rhs;rw[←List.map_id l]
 apply jb;intro q h;have:q.1≠d:=λz=>u (z▸bv.mpr #[q,h,rfl]);simp[this]
def Kr(r:k05)(d:Addr)(o o':Obj)(u:d∉r.map (·.1)):dc ((d,o)::r) d o'=(d,o')::r:=by show(if(d,o).1=d then(d,o')else(d,o))::dc r d o'=_;rw[al rfl,Zt u]
def Bw(r:k05)(p:Addr×Obj)(d:Addr)(o':Obj)(u:p.1≠d):dc (p::r) d o'=p::dc r d o':=by show(if p.1=d then(d,o')else p)::dc r d o'=_;rw[ak u]
def Zu{news:k05}(u:(news.map (·.1)).Nodup)(h:(d,o)∈news):Upd d o o' news (dc news d o'):=by
 induction news with
 |nil=>cases h
 |cons p r G=>
  rw[List.map_cons,ek]at u;rcases b8.mp h with e|h
  .subst e;rw[Kr _ _ _ _ u.1];exact .head λq B z=>u.1 (z▸bv.mpr #[q,B,rfl])
  .have x:p.1≠d:=λz=>u.1 (z▸fS h);rw[Bw _ _ _ _ x];exact .tail x (G u.2 h)
def Zv{news:k05}(u:(news.map (·.1)).Nodup)(h:(d,o)∈news):UpdF d o news (λo'=>dc news d o'):=by
 induction news with
 |nil=>cases h
 |cons p r G=>
  rw[List.map_cons,ek]at u;rcases b8.mp h with e|h
  .subst e;have:(λo'=>dc ((d,o)::r) d o')=λo'=>(d,o')::r:=by funext o';exact Kr _ _ _ _ u.1
   rw[this];exact .head λq B z=>u.1 (z▸bv.mpr #[q,B,rfl])
  .have x:p.1≠d:=λz=>u.1 (z▸fS h);have:(λo'=>dc (p::r) d o')=λo'=>p::dc r d o':=by funext o';exact Bw _ _ _ _ x
   rw[this];exact .tail x (G u.2 h)
def bg.turn{W:Wd}{h:H}(R:bg W h news)(hd:W.own d=some a)(u:∃ol,h a=.live ol)
 (Q:OR W (dc news d o') a o):bg W (h.set a (.live o)) (dc news d o'):=by
 obtain⟨ol,u⟩:=u;refine#[by rw[km];exact R.nd,λy B e=> ?_,λy B e=> ?_,λy B e=> ?_,λy b e=>by rw[km];exact R.own y b e,R.bp,λb e=> ?_,λb B e=> ?_,λb es e=> ?_,λN D=> ?_]
 .have q:=R.aI y B e;exact#[dz q.1 (λz=>by rw[←z,q.2]at hd;cases hd),q.2]
 .have q:=R.ar y B e;exact#[dz q.1 (λz=>by rw[←z,q.2.1]at hd;cases hd),q.2]
 .obtain⟨q1,b,es,P,J⟩:=R.pin y B e;have O:b≠a:=λz=>by rw[z,u]at J;cases J
  exact#[dz q1 (λz=>by rw[←z,R.bp b y P]at hd;exact O (aL hd)),b,es,P,by rw[H.dT _ _ O];exact J]
 .by_cases q:b=a
  .subst q;rw[H.fy]at e;cases e
  .rw[H.dT _ _ q]at e;exact R.fresh b e
 .by_cases q:b=a
  .subst q;rw[H.fy]at e;cases e;exact Q
  .rw[H.dT _ _ q]at e;exact(R.live b B e).mono (.refl W) R.bp λx AM G m=>dz m λz=>q (by rw[z,hd]at G;exact(aL G).symm)
 .by_cases q:b=a
  .subst q;rw[H.fy]at e;cases e
  .rw[H.dT _ _ q]at e;exact(R.pins b es e).mono (.refl W) R.bp λx AM G m=>dz m λz=>q (by rw[z,hd]at G;exact(aL G).symm)
 .have T:=R.tabs N D;exact T.mono T.1 T.2 T.3 (Wd.Le.refl W).lv λU m=>dz m λz=>by rw[←z,T.1]at hd;cases hd
def Wd.aw(W:Wd)(x:Addr)(o:Option Obj):Wd:={W with ar:=λy=>if y=x then o else W.ar y}
def VR.aw{W W':Wd}(u:W'.aN=W.aN)(y:W'.aI=W.aI)(h:VR W x v):VR W' x v:=VR.up (.of u y) x v h
def aA.aw{W W':Wd}(u:W'.aN=W.aN)(y:W'.aI=W.aI)(h:aA W xs vs):aA W' xs vs:=h.up (.of u y)
def OR.aw{W W':Wd}(u:W'.aN=W.aN)(y:W'.aI=W.aI)(z:W'.own=W.own)(Q:∀a x,W.aN a=some x->W.own x=some a)(D:∀x o,W.own x=some a->(x,o)∈news->(x,o)∈news')(h:OR W news a o):OR W' news' a o:=
 h.up (.of u y) (λx b e=>(congrFun z x).trans e) Q D
def bg.hide{W:Wd}{news:k05}(R:bg W h news)(hx:x∉news.map (·.1)):bg (W.aw x (some o)) h ((x,o)::news)/\W.Le (W.aw x (some o)):=by
 have O:W.own x=none:=by
  cases q:W.own x with
  |none=>rfl
  |some d=>exact absurd (R.own x d q) hx
 have G:W.aI x=none:=by
  cases q:W.aI x with
  |none=>rfl
  |some d=>exact absurd (fS (R.aI x d q).1) hx
 refine#[#[by rw[List.map_cons,ek];exact#[hx,R.nd],λy d e=>#[gv _ (R.aI y d e).1,(R.aI y d e).2],λy d e=> ?_,λy d e=>#[gv _ (R.pin y d e).1,(R.pin y d e).2],λy a e=>gv _ (R.own y a e),R.bp,R.fresh,
  λa d e=>OR.aw (W:=W) (W':=W.aw x (some o)) rfl rfl rfl R.bp (λU U U m=>gv _ m) (R.live a d e),λa es e=>OR.aw (W:=W) (W':=W.aw x (some o)) rfl rfl rfl R.bp (λU U U m=>gv _ m) (R.pins a es e),λN B=> ?_],#[λU U e=>e,λU U e=>e,λU U e=>e,λy d e=> ?_,λU U e=>e]]
 .change (if y=x then some o else W.ar y)=_ at e;by_cases q:y=x
  .rw[al q]at e;cases e;subst q;exact#[.head _,O,G]
  .rw[ak q]at e;exact#[gv _ (R.ar y d e).1,(R.ar y d e).2]
 .have T:=R.tabs N B;have J:N.P≠x:=λq=>hx (q▸T.key);have hp:(W.aw x (some o)).ar N.P=none:=by show(if N.P=x then some o else W.ar N.P)=none;rw[ak J];exact T.3
  exact T.mono T.1 T.2 hp (.of rfl rfl) λU m=>gv _ m
 .show(if y=x then some o else W.ar y)=_;rw[ak (λq=>hx (by rw[←q];exact fS (R.ar y d e).1))];exact e
def bg.iU{W:Wd}(R:bg W h news)(hx:W.ar x=some o):bg (W.aw x (some o')) h (dc news x o'):=by
 obtain⟨D,G,J⟩:=R.ar x o hx;refine#[by rw[km];exact R.nd,λy d e=>#[dz (R.aI y d e).1 λq=> ?_,(R.aI y d e).2],λy d e=> ?_,λy d e=>#[dz (R.pin y d e).1 λq=> ?_,(R.pin y d e).2],λy a e=>by rw[km];exact R.own y a e,R.bp,R.fresh,
  λa d e=>OR.aw (W:=W) (W':=W.aw x (some o')) rfl rfl rfl R.bp (λy U B m=>dz m λq=>by rw[q,G]at B;cases B) (R.live a d e),λa es e=>OR.aw (W:=W) (W':=W.aw x (some o')) rfl rfl rfl R.bp (λy U B m=>dz m λq=>by rw[q,G]at B;cases B) (R.pins a es e),λN z=> ?_]
 .change W.aI y=some d at e;rw[q,J]at e;cases e
 .change (if y=x then some o' else W.ar y)=_ at e;by_cases q:y=x
  .rw[al q]at e;cases e;subst q;exact#[iH D,G,J]
  .rw[ak q]at e;exact#[dz (R.ar y d e).1 q,(R.ar y d e).2]
 .obtain⟨_,b,es,Q,_⟩:=R.pin y d e;have u:=R.bp b y Q;rw[q,G]at u;cases u
 .have T:=R.tabs N z;have O:N.P≠x:=λq=>by have:=T.3;rw[q,hx]at this;cases this
  have hp:(W.aw x (some o')).ar N.P=none:=by show(if N.P=x then some o' else W.ar N.P)=none;rw[ak O];exact T.3
  exact T.mono T.1 T.2 hp (.of rfl rfl) λU m=>dz m O
def bg.bare{W:Wd}(R:bg W h news)(x:Addr):bg (W.aw x none) h news:=by
 refine#[R.nd,R.aI,λy d e=> ?_,R.pin,R.own,R.bp,R.fresh,λa d e=>OR.aw (W:=W) (W':=W.aw x none) rfl rfl rfl R.bp (λU U U m=>m) (R.live a d e),λa es e=>OR.aw (W:=W) (W':=W.aw x none) rfl rfl rfl R.bp (λU U U m=>m) (R.pins a es e),λN B=> ?_]
 .change (if y=x then none else W.ar y)=_ at e;by_cases q:y=x
  .rw[al q]at e;cases e
  .rw[ak q]at e;exact R.ar y d e
 .have T:=R.tabs N B;have hp:(W.aw x none).ar N.P=none:=by
   show(if N.P=x then none else W.ar N.P)=none;split
   .rfl
   .exact T.3
  exact T.mono T.1 T.2 hp (.of rfl rfl) λU m=>m
def bg.adopt{W:Wd}{h:H}(R:bg W h news)(D:h a=.fresh)(hx:W.ar x=some o)
 (hO:∀W',W'=(W.aw x none).name a x []->W'.aN a=some x->OR W' (dc news x o') a ob):
 bg ((W.aw x none).name a x []) (h.set a (.live ob)) (dc news x o'):=by
 obtain⟨hm,J,hf⟩:=R.ar x o hx;have nO:=R.fresh a D;have k:W.Le {((W.aw x none).name a x [])with ar:=W.ar}:=#[λb y e=>by
  show(if b=a then some x else W.aN b)=_;rw[ak (λq=>by subst q;rw[nO]at e;cases e)];exact e,λy b e=>by
  show(if y∈[x]then some a else W.own y)=_;rw[ak (λq=>by rw[cu.mp q,J]at e;cases e)];exact e,λU U e=>e,λU U e=>e,λU U e=>e]
 refine#[by rw[km];exact R.nd,λy d e=> ?_,λy d e=> ?_,λy d e=> ?_,λy b e=> ?_,λb y e=> ?_,λb e=> ?_,λb AM e=> ?_,λb es e=> ?_,λN hN=> ?_]
 .have q:=R.aI y d e;have G:y≠x:=λz=>by rw[z]at e;change W.aI x=_ at e;rw[hf]at e;cases e
  refine#[dz q.1 G,?_];show(if y∈[x]then some a else W.own y)=_;rw[ak λz=>G (cu.mp z)];exact q.2
 .change (if y=x then none else W.ar y)=_ at e;by_cases q:y=x
  .rw[al q]at e;cases e
  .rw[ak q]at e;have z:=R.ar y d e;refine#[dz z.1 q,?_,z.2.2];show(if y∈[x]then some a else W.own y)=_;rw[ak λz=>q (cu.mp z)];exact z.2.1
 .obtain⟨q1,b,es,Q,u⟩:=R.pin y d e;have G:y≠x:=λz=>by have q4:=R.bp b y Q;rw[z,J]at q4;cases q4
  refine#[dz q1 G,b,es,?_,?_]
  .show(if b=a then some x else W.aN b)=_;rw[ak (λz=>by rw[z,D]at u;cases u)];exact Q
  .rw[H.dT _ _ (λz=>by rw[z,D]at u;cases u)];exact u
 .rw[km];change (if y∈[x]then some a else W.own y)=_ at e;by_cases q:y∈[x]
  .rw[cu.mp q];exact fS hm
  .rw[ak q]at e;exact R.own y b e
 .change (if b=a then some x else W.aN b)=_ at e;show(if y∈[x]then some a else W.own y)=_;by_cases q:b=a
  .rw[al q]at e;cases e;rw[al (.head _),q]
  .rw[ak q]at e;have z:=R.bp b y e;rw[ak (λc=>by rw[cu.mp c,J]at z;cases z)];exact z
 .show(if b=a then some x else W.aN b)=_;by_cases q:b=a
  .subst q;rw[H.fy]at e;cases e
  .rw[H.dT _ _ q]at e;rw[ak q];exact R.fresh b e
 .by_cases q:b=a
  .subst q;rw[H.fy]at e;cases e;exact hO _ rfl (al rfl)
  .rw[H.dT _ _ q]at e;have z:=OR.mono (W:=W) (W':={((W.aw x none).name a x [])with ar:=W.ar}) (news':=dc news x o') k R.bp (λy Wh O m=>dz m λc=>by rw[c,J]at O;cases O) (R.live b AM e);exact OR.aw (W:={((W.aw x none).name a x [])with ar:=W.ar}) (W':=(W.aw x none).name a x []) rfl rfl rfl (λB y e'=>by
    change (if B=a then some x else W.aN B)=_ at e';show(if y∈[x]then some a else W.own y)=_;by_cases q:B=a
    .rw[al q]at e';cases e';rw[al (.head _),q]
    .rw[ak q]at e';have z:=R.bp B y e';rw[ak (λc=>by rw[cu.mp c,J]at z;cases z)];exact z) (λU U U m=>m) z
 .by_cases q:b=a
  .subst q;rw[H.fy]at e;cases e
  .rw[H.dT _ _ q]at e;have z:=OR.mono (W:=W) (W':={((W.aw x none).name a x [])with ar:=W.ar}) (news':=dc news x o') k R.bp (λy Wh O m=>dz m λc=>by rw[c,J]at O;cases O) (R.pins b es e);exact OR.aw (W:={((W.aw x none).name a x [])with ar:=W.ar}) (W':=(W.aw x none).name a x []) rfl rfl rfl (λB y e'=>by
    change (if B=a then some x else W.aN B)=_ at e';show(if y∈[x]then some a else W.own y)=_;by_cases q:B=a
    .rw[al q]at e';cases e';rw[al (.head _),q]
    .rw[ak q]at e';have z:=R.bp B y e';rw[ak (λc=>by rw[cu.mp c,J]at z;cases z)];exact z) (λU U U m=>m) z
 .have T:=R.tabs N hN;have G:N.P≠x:=λq=>by have:=T.3;rw[q,hx]at this;cases this
  refine T.mono ?_ T.2 ?_ #[k.aN,k.aI] λU m=>dz m G
  .show(if N.P∈[x]then some a else W.own N.P)=none;rw[ak λz=>G (cu.mp z)];exact T.1
  .show(if N.P=x then none else W.ar N.P)=none;rw[ak G];exact T.3
def Wd.Le.adopt{W W':Wd}(k:W.Le W')(hx:W.ar x=none)(ho:W'.own x=none)(u:W'.aN a=none):W.Le ((W'.aw x none).name a x []):=
 #[λb y e=>by
  show(if b=a then some x else W'.aN b)=_;have:=k.aN _ _ e;rw[ak (λq=>by rw[q,u]at this;cases this)];exact this,λy b e=>by
  show(if y∈[x]then some a else W'.own y)=_;have:=k.own _ _ e;rw[ak (λq=>by rw[cu.mp q,ho]at this;cases this)];exact this,k.aI,λy d e=>by
  show(if y=x then none else W'.ar y)=_;rw[ak λq=>by rw[q,hx]at e;cases e];exact k.ar y d e,k.pin]
def Wd.Le.bare{W W':Wd}(k:W.Le W')(hx:W.ar x=none)(o:Option Obj):W.Le (W'.aw x o):=
 #[k.aN,k.own,k.aI,λy d e=>by
  show(if y=x then o else W'.ar y)=_;rw[ak λq=>by rw[q,hx]at e;cases e];exact k.ar y d e,k.pin]
def Vp:NM.Nodup:=by decide+kernel
def Am(h:n<aW):NM[n]? =some (nm n):=by unfold nm;rw[List.getD_eq_getElem?_getD];rw[fm h];rfl
def iK(u:a<aW)(hb:b<aW)(e:nm a=nm b):a=b:=by have h:=Am u;have d:=Am hb;rw[e]at h;exact(List.getElem?_inj u Vp).mp (h.trans d.symm)
structure St(J:Heap)(L:Addr)(m:k03)(W:Wd)(h:H)(s:Shared):Prop where
 fr:Fr J L s.heap m
 nw:∃news,News J L s.heap news/\bg W h news
 gens:s.gens=#[]
 os:s.os=gx.os
structure K4(K:Frag)(C:Addr)(n:Str):Prop where
 get:plainGet K C n=true
 dict:hasDictIn K C=true
 find:findIn K (.ref C) n=some none
 set:findIn K (.ref C) "__setattr__"=some (some (.builtin "object.__setattr__"))
 over:plainOver K C=true
 take:takerIn K C n=some none
structure cb(P:Y):Prop where
 X:gx.K.In gx.hb
 T:Top topProg gx.loose gx.r6 gx.mg gx.mb gx.hb
 glob:∀x v,P.gl x=some v->∃pv,nsIn gx.K mainGlobals (nm x)=some (some pv)/\∀W,VR W v pv
 gk:∀n,n<aW->c8 n≠0->∃t e,gx.hb.get? (c8 n)=some {cls:=.type "tuple",data:=.seq #[.str (nm n) t,.none,] e}
 low:∃a o,sysModules<a/\gx.hb.get? a=some o
 attr:∀c f,c<7->gA f=true->K4 gx.K (dZ c) (nm f)
 mN:P.mN=ta
 gj:∀c m f,P.meths c m=some f->plainGet gx.K (dZ c) (nm m)=true/\findIn gx.K (.ref (dZ c)) (nm m)=some (some (.ref (eG f)))/\isFn gx.K (.ref (eG f))=true/\m<aW
variable{P:Y}{J:Heap}{L:Addr}{m:k03}{W:Wd}{h:H}
def VR.handed(h:VR W v pv):handedIn pv=true:=V.casesOn (motive_1:=λv=>VR W v pv->handedIn pv=true) v (λh=>h▸rfl) (λU h=>h▸rfl) (λU h=>h.elim λU e=>e▸rfl) (λU h=>h.2.elim λU e=>e▸rfl) (λU h=>by refine h _ λU U U U e U U U U=> ?_;exact e▸rfl) (λU h=>by refine h _ λU U U e U U=> ?_;exact e▸rfl)
 (λU h=>h.elim λU e=>e.1▸rfl) (λU h=>h▸rfl) (λU h=>h▸rfl) (λU h=>h.2.2▸rfl) (λU U h=>by refine h _ λU U U U U U U U U U e U U U U U U U=> ?_;exact e▸rfl) h
def TY(u:a<aW)(hb:b<aW):(Value.str (nm a) tk).isStr (nm b)=decide (a=b):=by
 show(nm a==nm b)=_;by_cases e:a=b
 .subst e;simp
 .rw[gz e];exact beq_eq_false_iff_ne.mpr λq=>e (iK u hb q)
def FP.is{e:DictEntry}{p:Nat×V}(h:FP W e p)(hf:f<aW):e.key.isStr (nm f)=decide (p.1=f):=h.2.1.elim λU q=>(aq (Value.isStr · (nm f)) q).trans (TY h.1 hf)
def FP.noRef{e:DictEntry}(h:FP W e p):e.refKey=false:=h.2.1.elim λU q=>by unfold DictEntry.refKey;rw[q]
def BW(W:Wd):Option V->Option DictEntry->Prop
 |some u=>λo=>match o with|some e=>VR W u e.val|none=>False
 |none=>λo=>o=none
def xJ{q:DictEntry->Bool}(h:q x=true):(x::r).find? q=some x:=List.find?_cons_of_pos h
def EJ{r:List DictEntry}{q:DictEntry->Bool}(h:q x=false):(x::r).find? q=r.find? q:=List.find?_cons_of_neg (f0.mp h)
def FR.find{es:List DictEntry}(hf:f<aW)(R:FR W es fs):BW W (bh f fs) (es.find? (·.key.isStr (nm f))):=
 ci.ind (M:=λes fs=>BW W (bh f fs) (es.find? (·.key.isStr (nm f)))) rfl (λx r p t h U ae=>by
  have d:=h.is hf;by_cases q:p.1=f
  .rw[oQ q,xJ (d.trans (dX q))];exact h.2.2
  .rw[mS q,EJ (d.trans (gz q))];exact ae) R
def FR.noRef{es:List DictEntry}(R:FR W es fs):es.any (·.refKey)=false:=
 ci.ind (M:=λ(es:List DictEntry) (U:k16)=>es.any (·.refKey)=false) rfl (λx r p t h U ae=>(congr (aq or h.noRef) ae:(x.refKey||r.any (·.refKey))=(false||false))) R
def x6{es:List DictEntry}{e:DictEntry}(h:es.find? (·.key.isStr n)=some e):getL n es=some (some e.val):=by unfold getL;rw[h]
def E4{es:List DictEntry}(h:es.find? (·.key.isStr n)=none)(k:es.any (·.refKey)=false):getL n es=some none:=by unfold getL;rw[h];exact ak (f0.mp k)
def FR.get(hf:f<aW)(R:FR W es fs)(e:bh f fs=some u):∃y,getL (nm f) es=some (some y)/\VR W u y:=by
 have z:=R.find hf;rw[e]at z;revert z;cases q:es.find? (·.key.isStr (nm f))with
 |none=>exact False.elim
 |some x=>exactλz=>#[x.val,x6 q,z]
def FR.QG(hf:f<aW)(R:FR W es fs)(e:bh f fs=none):getL (nm f) es=some none:=by have z:=R.find hf;rw[e]at z;exact E4 z R.noRef
def FR.put(hf:f<aW)(R:FR W es fs)(y:VR W u z):
 FR W (putL (nm f) hsh (.str (nm f) tk) z es) (cc f u fs):=
 ci.ind (M:=λes fs=>ci (FP W) (putL (nm f) hsh (.str (nm f) tk) z es) (cc f u fs)) #[#[hf,#[_,rfl],y],rfl] (λx r p t h H ae=>by
  have d:=h.is hf;unfold putL;by_cases q:p.1=f
  .rw[tz q,d,dX q];exact#[#[hf,q▸h.2.1,y],H]
  .rw[ty q,d,gz q];exact#[h,ae]) R
def FR.length{es:List DictEntry}{fs:k16}(R:FR W es fs):es.length=fs.length:=ci.length R
def FR.aT(f:Nat)(R:FR W es fs):(getL (nm f) es).isSome=true:=by
 cases q:es.find? (·.key.isStr (nm f))with
 |some=>rw[x6 q];rfl
 |none=>rw[E4 q R.noRef];rfl
def VR.sx(hv:VR W (.ref a) pv)(h:W.aN a=some x):pv=.ref x:=hv.elim λy q=>q.1.trans (aq Value.ref (aL (q.2.symm.trans h)))
inductive B1(J:Heap)(L:Addr)(W:Wd)(h:H)(s:Shared)(a:Nm)(c:Nat)(fs:k16):Value->Prop
 |mk (x d:Addr) (es:List DictEntry) (n:Nat) (news:k05) (N:News J L s.heap news) (R:bg W h news) (h1:W.aN a=some x) (h2:W.own d=some a) (h3:(x,instObj (dZ c) d)∈news) (h4:(d,dictOf es n)∈news) (h5:FR W es fs) (h6:c<7):B1 J L W h s a c fs (.ref x)
def St.inst(S:St J L m W h s)(e:h a=.live (.inst c fs))(hv:VR W (.ref a) pv):B1 J L W h s a c fs pv:=by obtain⟨B,N,R⟩:=S.nw;obtain⟨x,d,es,n,G,O,P,u,y,z⟩:=R.live a _ e;exact VR.sx hv G▸ .mk x d es n B N R G O P u y z
def GC{af:Type}{F:Nat->List (Nat×V)->Option af}{s:Slot}{u:af}(e:ee (aa.rN F) s=some u):∃c fs,s=.live (.inst c fs)/\F c fs=some u:=
 ma (M:=λs=>∃c fs,s=.live (.inst c fs)/\F c fs=some u) e λU e=>TL (M:=λo=>∃c fs,Slot.live o=.live (.inst c fs)/\F c fs=some u) e λc fs e=>#[c,fs,rfl,e]
def AK(ah:cb P)(hb:gx.hb.StaysIn J)(S:St J L m W h s)(e:jT h v f=some u)(hv:VR W v pv)(hf:gA f=true)
 {Q:k01}(k:∀y s',St J L m W h s'->VR W u y->Q y s'):wpAny gM A (getAttr pv (nm f) f9) Q E s:=by
 revert hv;refine lj e λa e hv=> ?_;obtain⟨c,fs,hc,e⟩:=GC e;induction S.inst hc hv with|mk x d es n B N R h1 h2 O z D h6=>
 obtain⟨y,h7,G⟩:=D.get (CH hf) e;have ax:=ah.attr c f h6 hf;exact get_own S.fr (ah.X.keeps hb) (InstAt.of_news N O z) ax.get ax.dict ax.find rfl h7 G.handed (k _ _ #[S.fr,#[B,N,R],S.gens,S.os] G)
def IF(ah:cb P)(hb:gx.hb.StaysIn J)(S:St J L m W h s){v u:V}{f:Nat}{pv pu:Value}{h':H}(e:ml h v f u=some h')(hv:VR W v pv)(hu:VR W u pu)(hf:gA f=true)
 {Q:k09}(k:∀s',St J L m W h' s'->Q () s'):wpAny gM A (setAttr pv (nm f) pu) Q E s:=by
 revert hv;refine lj e λa e hv=>gi e λsl e he=> ?_;obtain⟨c,fs,hc,e⟩:=GC e;refine dw e λbl e=> ?_;cases e;cases he;induction S.inst hc hv with|mk x d es n news N R h1 O G B y z=>
 have ax:=ah.attr c f z hf;have D:=y.put (hsh:=PyData.keyHash gx.w.params (nm f)) (tk:=s.toks+1) (CH hf) hu;exact set_dict S.fr (ah.X.keeps hb) N (InstAt.of_news N G B) rfl ax.set ax.over ax.take ax.dict (y.aT f) rfl (Zu R.nd B) (D.length▸bk bl (by decide)) λhp F' N'=>k _ #[F',#[_,N',R.turn O #[_,hc] #[x,d,_,_,h1,O,dz G λq=>(by cases Vv R.nd (q▸G) B),iH B,D,z]],S.gens,S.os]
def aA.length{xs:k00}{vs:k04}(R:aA W xs vs):vs.length=xs.length:=by
 induction xs generalizing vs with
 |nil=>cases(R:vs=[]);rfl
 |cons x r d=>exact aA.f7 (M:=λvs=>vs.length=r.length+1) R λv t U h=>aq (· +1) (d h)
def aA.get{xs:k00}{vs:k04}(R:aA W xs vs){i:Nat}{x:V}(e:xs[i]? =some x):∃v,vs[i]? =some v/\VR W x v:=by
 induction xs generalizing vs i with
 |nil=>cases e
 |cons y r B=>
  refine aA.f7 R λv t h d=> ?_;induction i using Nat.casesOn with
  |zero=>cases e;exact#[v,rfl,h]
  |succ i=>exact B d e
def aA.append(R:aA W xs vs)(T:aA W y us):aA W (xs++y) (vs++us):=by
 induction xs generalizing vs with
 |nil=>cases(R:vs=[]);exact T
 |cons x r e=>exact aA.f7 R λv t h d=>aA.c h (e d)
def aA.set{xs:k00}{vs:k04}(R:aA W xs vs)(i:Nat)(y:VR W u D):aA W (xs.set i u) (vs.set i D):=by
 induction xs generalizing vs i with
 |nil=>cases(R:vs=[]);exact .z
 |cons x r e=>
  refine aA.f7 R λv t d h=> ?_;induction i using Nat.casesOn with
  |zero=>exact .c y h
  |succ i=>exact .c d (e h i)
def aA.take{xs:k00}{vs:k04}(R:aA W xs vs)(k:Nat):aA W (xs.take k) (vs.take k):=by
 induction xs generalizing vs k with
 |nil=>cases(R:vs=[]);cases k<;>exact .z
 |cons x r e=>
  refine aA.f7 R λv t h d=> ?_;induction k using Nat.casesOn with
  |zero=>exact .z
  |succ k=>exact .c h (e d k)
def aA.drop{xs:k00}{vs:k04}(R:aA W xs vs)(k:Nat):aA W (xs.drop k) (vs.drop k):=by
 induction k generalizing xs vs with
 |zero=>exact R
 |succ k d=>induction xs using List.casesOn with
  |nil=>cases(R:vs=[]);exact .z
  |cons x r=>exact aA.f7 R λv t e h=>d h
def St.AO(S:St J L m W h s)(hb:gx.hb.StaysIn J)(p:v5 W x o):s.heap.get? x=some o:=by
 obtain⟨d,N,R⟩:=S.nw;rcases p with p|p
 .exact(N _ (R.aI _ _ p).1).1
 .exact S.fr.keep _ _ (hb _ _ p)
def St.tup(S:St J L m W h s)(hb:gx.hb.StaysIn J)(hv:VR W (.tup xs) pv):∃x vs,pv=.ref x/\IsTup s.heap x (List.toArray vs)/\aA W xs vs:=by exact hv _ λx o vs n e p d hd r=>#[x,vs,e,#[o,S.AO hb p,d,n,hd],r]
def St.x3(S:St J L m W h s)(hb:gx.hb.StaysIn J)(hv:VR W (.fz xs) pv):∃x vs n,pv=.ref x/\s.heap.get? x=some (listOf (List.toArray vs) n)/\aA W xs vs:=by exact hv _ λx vs n e p r=>#[x,vs,n,e,S.AO hb p,r]
inductive kr(W:Wd)(s:Shared)(xs:k00):Value->Prop
 |mk (x:Addr) (vs:k04) (h:s.heap.IsList x (List.toArray vs)) (r:aA W xs vs):kr W s xs (.ref x)
def St.fz(S:St J L m W h s)(hb:gx.hb.StaysIn J)(hv:VR W (.fz xs) pv):kr W s xs pv:=by exact hv _ λx vs n e p r=>e▸ .mk x vs #[_,S.AO hb p,rfl,n,rfl] r
inductive B4(J:Heap)(L:Addr)(W:Wd)(h:H)(s:Shared)(a:Nm)(xs:k00):Value->Prop
 |mk (x:Addr) (vs:k04) (n:Nat) (news:k05) (N:News J L s.heap news) (R:bg W h news) (h1:W.aN a=some x) (h3:(x,listOf (List.toArray vs) n)∈news) (h5:aA W xs vs):B4 J L W h s a xs (.ref x)
def St.list(S:St J L m W h s)(e:h a=.live (.list xs))(hv:VR W (.ref a) pv):B4 J L W h s a xs pv:=by obtain⟨d,N,R⟩:=S.nw;obtain⟨x,vs,n,B,G,O⟩:=R.live a _ e;exact VR.sx hv B▸ .mk x vs n d N R B G O
def UI(e:fR h v=some xs):v=.fz xs\/∃a,v=.ref a/\h a=.live (.list xs):=
 V.casesOn (motive_1:=λv=>fR h v=some xs->v=.fz xs\/∃a,v=.ref a/\h a=.live (.list xs)) v no (λU=>no) (λU=>no) (λU=>no) (λU=>no) (λU e=>.inl (aq V.fz (aL e))) (λa e=>.inr #[a,rfl,UL e]) (λU=>no) (λU=>no) (λU=>no) (λU U=>no) e
def St.jw(S:St J L m W h s)(hb:gx.hb.StaysIn J)(e:fR h v=some xs)(hv:VR W v pv):kr W s xs pv:=by
 rcases UI e with rfl|⟨a,rfl,O⟩
 .exact S.fz hb hv
 .induction S.list O hv with|mk x vs n d N R P B G=>exact .mk x vs (N.isList B) G
def Jw{i:Int}(e:iP xs i=some u):0<=i/\i<1000/\xs[i.toNat]? =some u:=by
 unfold iP at e;split at e
 .rename_i c;exact#[c.1,c.2,e]
 .cases e
def Ut(n:Nat):(-1+(n:Int)).toNat=n-1:=by rw[Int.add_comm];exact Int.toNat_sub n 1
def QB{x:Addr}{vs:k04}{xs:k00}{i:Int}{u:V}{tk:Tok}(z:s.heap.IsList x (List.toArray vs))(R:aA W xs vs)(e:eg xs i=some u)
 {Q:k01}(k:∀y,VR W u y->Q y s):wpAny gM A (getItem (.ref x) (.int i tk)) Q E s:=by
 unfold eg at e;split at e
 .rename_i c;subst c;rw[List.getLast?_eq_getElem?]at e;obtain⟨y,h,d⟩:=R.get e;have B:vs.length=xs.length:=R.length;have G:0<xs.length:=by
   rcases Nat.eq_zero_or_pos xs.length with q|q
   .have:=List.length_eq_zero_iff.mp q;subst this;simp at e
   .exact q
  refine wpAny_getItem_list_neg z (by lia) (by simp only[fi];lia) (by lia) ?_ (k y d);have:(-1+(List.toArray vs).size:Int).toNat=xs.length-1:=by rw[fi,B];exact Ut _
  rw[this];simpa using h
 .obtain⟨a,b,c⟩:=Jw e;obtain⟨y,h,d⟩:=R.get c;exact getItem_listL z a (by lia) h (k y d)
def QA{x:Addr}{vs:k04}{xs:k00}{i:Int}{u:V}{tk:Tok}(z:IsTup s.heap x (List.toArray vs))(R:aA W xs vs)(e:iP xs i=some u)
 {Q:k01}(k:∀y,VR W u y->Q y s):wpAny gM A (getItem (.ref x) (.int i tk)) Q E s:=by
 obtain⟨a,b,c⟩:=Jw e;obtain⟨y,h,d⟩:=R.get c;refine getItem_tuple z (by lia) (by lia) ?_ (j:=i.toNat) (by simpa using h) (k y d);have B:i.toNat<vs.length:=(eU.mp h).1;unfold seqIndex?;obtain J:¬i<0:=by lia
 obtain G:i<((List.toArray vs).size:Int):=(Int.toNat_lt a).mp B;simp[J,a];simpa using G
def Y5{T id:String}{u y:Expr}{o i:Value}{Q:k01}(z:s.TypeIs o T)(D:typeLookup (.type T) "__getitem__"=pure (some (.builtin id)))
 (hg:wpAny gM A (getItem o i) Q E s)(hs:subscripted y false o i=operate [o,i] (getItem o i)):wpAny gM A (subscriptTail u y o i) Q E s:=tail_any z D hg hs
structure Lb(env:Env)(G:Ka)(W:Wd):Prop where
 fn:env.scope.kind=.function
 nh:env.globals=mainGlobals
 blt:env.builtins=builtinsNs
 cf:∀x a,G x=some a->(∃q,env.scope.names.lookup (nm x)=some q/\pG q=true)->∃c,env.cells.lookup (nm x)=some c/\W.aN a=some c
 own:∀n,env.scope.names.lookup n=some .cell->∃c,env.cells.lookup n=some c
def eC(W:Wd)(o:Obj)(l:Lc):Prop:=∃es e,o.data=.dict es e/\StrKeys es/\∀x v,l x=some v->x<aW/\∃pv,nsFind es (nm x)=some pv/\VR W v pv
structure Lo(L:Addr)(m:k03)(env:Env)(G:Ka)(W:Wd)(l:Lc):Prop extends Lb env G W where
 loc:(env.locals=L/\∀x v,l x=some v->x<aW/\∃pv,m (nm x)=some pv/\VR W v pv)\/(∃o,W.ar env.locals=some o/\eC W o l)
def dB(J:Heap)(L:Addr)(m:k03)(W:Wd)(Q:QV)(pv:Value)(s':Shared):Prop:=∀P:Prop,(∀(W':Wd) (h':H) (v:V) (U:W.Le W') (U:St J L m W' h' s') (U:VR W' v pv) (U:Q v h'),P)->P
def ku(J:Heap)(L:Addr)(m:k03)(W:Wd)(Q:QV)(b:Bool)(s':Shared):Prop:=∀P:Prop,(∀(W':Wd) (h':H) (U:W.Le W') (U:St J L m W' h' s') (U:Q (.bool b) h'),P)->P
def td(J:Heap)(L:Addr)(m:k03)(W:Wd)(Q:k21)(pv:k04)(s':Shared):Prop:=∀P:Prop,(∀(W':Wd) (h':H) (v:k00) (U:W.Le W') (U:St J L m W' h' s') (U:aA W' v pv) (U:Q v h'),P)->P
abbrev ag:=Wd->H->V->Value->Shared->Prop
def bz(RX:ag)(W:Wd)(X:QV)(e:Value)(s':Shared):Prop:=∀P:Prop,(∀(W':Wd) (h':H) (v:V) (U:W.Le W') (U:RX W' h' v e s') (U:X v h'),P)->P
def fF(M:Model)(f:Value)(h:Heap):Prop:=∃k,(k=Keeper.frame\/k=Keeper.machine\/k=Keeper.boundFrame)/\Looks M h (keeperOf f) k
structure Fx(P:Y)(O:Fn)(A:Around)(J:Heap)(L:Addr)(m:k03)(RX:ag):Prop where
 ah:cb P
 hb:gx.hb.StaysIn J
 call:∀W h s c vs pc bf Q X,St J L m W h s->VR W c pc->aA W vs bf->O c vs h Q X->fF gM pc s.heap/\wpAny gM A (PySem.call pc bf []) (dB J L m W Q) (bz RX W X) s
 handled:A.handled=none
 units:A.units+300<cLine
variable{O:Fn}{RX:ag}{W':Wd}{env:Env}{G:Ka}{l:Lc}
def Lb.mono(aa:Lb env G W)(k:W.Le W'):Lb env G W':=
 #[aa.fn,aa.nh,aa.blt,λx a e q=>let#[c,d,h]:=aa.cf x a e q;#[c,d,k.aN _ _ h],aa.own]
def eC.mono(ai:eC W o l)(k:W.Le W'):eC W' o l:=
 let#[es,d,h,B,G]:=ai;#[es,d,h,B,λx v e=>let#[a,pv,b,c]:=G x v e;#[a,pv,b,c.mono k]]
def Lo.mono(aa:Lo L m env G W l)(k:W.Le W'):Lo L m env G W' l:=
 #[aa.toLb.mono k,aa.loc.imp (λ#[e,q]=>#[e,λx v z=>let#[y,pv,a,b]:=q x v z;#[y,pv,a,b.mono k]]) λ#[o,h,ai]=>#[o,k.ar _ _ h,ai.mono k]]
def dB.le(k:W.Le W')(p:dB J L m W' Q pv s'):dB J L m W Q pv s':=
 λU z=>p _ λe h' v a b c d=>z e h' v (k.trans a) b c d
def ku.le(k:W.Le W')(p:ku J L m W' Q pv s'):ku J L m W Q pv s':=
 λU z=>p _ λd h' a b c=>z d h' (k.trans a) b c
def td.le{Q:k21}(k:W.Le W')(p:td J L m W' Q pv s'):td J L m W Q pv s':=
 λU z=>p _ λe h' v a b c d=>z e h' v (k.trans a) b c d
def bz.le(k:W.Le W')(p:bz RX W' X e s'):bz RX W X e s':=
 λU z=>p _ λd h' v a b c=>z d h' v (k.trans a) b c
def eB{af:Type}{t:Sem af}{Q:af->Shared->Prop}(k:W.Le W')(h:wpAny gM A t Q (bz RX W' X) s):wpAny gM A t Q (bz RX W X) s:=
 bj h (λU U q=>q) λU U q=>q.le k
set_option tactic.hygienic true in
def mh{sc:Scope}{k:NameKind->Bool}(e:bR sc x n k=true):n=nm x/\x<aW/\(∃q,sc.names.lookup n=some q/\k q=true)/\(n==("__debug__":Str))=false/\(n==("__classdict__":Str))=false:=by
 unfold bR at e;simp only[ja,tv,Cy,Bool.not_eq_true']at e;obtain⟨⟨⟨⟨a,b⟩,c⟩,d⟩,f⟩:=e;refine#[a,b,?_,d,f];split at c
 .rename_i q h;exact#[q,h,c]
 .cases c
def Ow(S:St J L m W h s)(aa:Lo L m env G W l)(e:bR env.scope x n cz=true)(hv:l x=some v)
 {Q:k01}(k:∀pv,VR W v pv->Q pv s):wpAny gM A (eval (.Name n p) env) Q E s:=by
 obtain⟨rfl,_,⟨q,hq,hk⟩,d,d2⟩:=mh e;have B:env.kindOf (nm x)=some .local:=by cases q<;>first|exact hq|cases hk
 rcases aa.loc with⟨P,z⟩|⟨o,D,es,u,h2,h3,z⟩
 .obtain⟨_,pv,a,b⟩:=z x v hv;exact wpAny_Name (wpAny_loadName_local aa.fn B (P▸S.fr.ns) a (k pv b)) d
 .obtain⟨_,pv,a,b⟩:=z x v hv;obtain⟨O,N,R⟩:=S.nw;have ho:=(N _ (R.ar _ _ D).1).1;exact wpAny_Name (wpAny_loadName_local (m:=λy=>nsFind es y) aa.fn B #[o,es,u,ho,h2,h3,λU=>rfl] a (k pv b)) d
def Ou(S:St J L m W h s)(aa:Lo L m env G W l)(e:bR env.scope x n pG=true)(ha:G x=some a)(hv:h a=.live (.cell (some v)))
 {Q:k01}(k:∀pv,VR W v pv->Q pv s):wpAny gM A (eval (.Name n p) env) Q E s:=by
 obtain⟨rfl,_,⟨q,B,hk⟩,O,D⟩:=mh e;obtain⟨c,P,h2⟩:=aa.cf x a ha #[q,B,hk];obtain⟨z,N,R⟩:=S.nw;obtain⟨x',o,v',u,h4,h5,d⟩:=R.live a _ hv;rw[h2]at u;cases u;induction v' using Option.casesOn with
 |none=>exact d.elim
 |some pv=>
  have y:s.heap.IsCell c (some pv):=#[o,(N _ h4).1,h5];cases q<;>first|(cases hk;done)|skip
  .exact wpAny_Name (wpAny_loadName_cell aa.fn B P y (k pv d)) O
  .exact wpAny_Name (wpAny_loadName_free aa.fn B P y (k pv d) D) O
def Ov(ah:cb P)(hb:gx.hb.StaysIn J)(S:St J L m W h s)(aa:Lo L m env G W l)(e:bR env.scope x n uJ=true)(hv:P.gl x=some v)
 {Q:k01}(k:∀pv,VR W v pv->Q pv s):wpAny gM A (eval (.Name n p) env) Q E s:=by
 obtain⟨rfl,_,⟨q,u,hk⟩,d,z⟩:=mh e;obtain⟨pv,B,O⟩:=ah.glob x v hv;obtain y:env.kindOf (nm x)=some .globalImplicit:=by cases q<;>first|exact u|cases hk
 exact nameG_K S.fr (ah.X.keeps hb) (topRead_of (ah.T.keeps hb)) B (k pv (O W)) aa.nh aa.fn y d
def Ek(ah:cb P)(hb:gx.hb.StaysIn J)(S:St J L m W h s)(aa:Lo L m env G W l)(e:ib env.scope n f=true)(z:nsIn gx.K mainGlobals (Str.ofString n)=some none)
 (hv:bootBuiltins (Str.ofString n)=some v)(u:Str.ofString n≠"__name__")(y:(Str.ofString n==("__debug__":Str))=false)
 {Q:k01}(k:Q v s):wpAny gM A (eval f env) Q E s:=by
 refine eR e λx p e=> ?_;have a:=an e;cases eq_of_beq a.1;have e:=a.2;cases d:env.scope.names.lookup (Str.ofString n)with
 |none=>rw[d]at e;cases e
 |some q=>
  rw[d]at e;obtain B:env.kindOf (Str.ofString n)=some .globalImplicit:=by cases q<;>first|exact d|cases e
  have T:=topRead_of (ah.T.keeps hb);exact Name_function_global aa.fn B (loadGlobal_builtin (env:=env) (by rw[aa.nh];exact T.g.keeps S.fr.keep) (mg_none_of (ah.X.keeps hb) T.g z) (by rw[aa.blt];exact T.b.keeps S.fr.keep) ((T.builtins _ u).trans hv) k) y
def St.toks(S:St J L m W h s)(t:Tok):St J L m W h {s with toks:=t}:=#[S.fr,S.nw,S.gens,S.os]
def St.put(S:St J L m W h s)(F:Fr J L hp m)(N:News J L hp news)(R:bg W' h' news):St J L m W' h' {s with heap:=hp,toks:=t}:=
 #[F,#[news,N,R],S.gens,S.os]
def gh{news:k05}(l:∀p∈news,p.1<x):x∉news.map (·.1):=λq=>by obtain⟨p,hp,e⟩:=bv.mp q;have:=l p hp;rw[e]at this;exact fK _ this
def IA(S:St J L m W h s)(R:aA W xs vs)(e:jz z xs h Q)
 {K:k01}(k:∀pv s',dB J L m W Q pv s'->K pv s'):wpAny gM A (newList vs) K E s:=by
 obtain⟨hl,e⟩:=e;obtain⟨u,N,O⟩:=S.nw;refine newList_K S.fr N (λx h' B G lt=>k _ _ ?_) (by rw[R.length,fk];lia);have P:=gh lt;induction z using Bool.casesOn with
 |true=>obtain⟨d,le⟩:=O.eo (o:=listOf (List.toArray vs) 0) P;exactλU z=>z _ h (.fz xs) le (S.put B G d) (λU z=>z x vs 0 rfl (.inl (al rfl)) (R.mono le)) e
 |false=>
  obtain⟨a,D,q⟩:=e;obtain⟨d,le⟩:=O.name (a:=a) D (x:=x) (new:=[(x,listOf (List.toArray vs) 0)]) (xs:=[]) (o:=.list xs) rfl (by simp) (by simpa using P)
   (λW' y le=>#[x,vs,0,by rw[y];exact al rfl,.head _,R.mono le])
  exactλU z=>z _ _ (.ref a) le (S.put B G d) (.r (al rfl)) q
def II(S:St J L m W h s){xs:k00}(R:aA W xs vs)(u:xs.length<=1000)
 {K:k01}(k:∀W' pv s',W.Le W'->St J L m W' h s'->VR W' (.tup xs) pv->K pv s'):wpAny gM A (newTuple vs) K E s:=by
 obtain⟨d,N,O⟩:=S.nw;refine kup_newTuple S.fr N (λx h' e B lt=> ?_) (by rw[R.length,fk];lia);obtain⟨G,le⟩:=O.eo (o:={cls:=.type "tuple",data:=.seq (List.toArray vs)}) (gh lt);refine k _ _ _ le (S.put e B G) ?_;exactλU z=>z x _ vs 0 rfl (.inl (al rfl)) rfl rfl (R.mono le)
def J1(u:a<aW)(hb:b<aW):(nm a==nm b)=decide (a=b):=by
 by_cases e:a=b
 .subst e;simp
 .rw[gz e];exact beq_eq_false_iff_ne.mpr λq=>e (iK u hb q)
def s0(f:FV)(v:Value):Prop:=match f with
 |.n=>v=.none
 |.i i=>∃t,v=.int i t
 |.s n=>n<aW/\∃t,v=.str (nm n) t
def EL{x:V}(e:x.tU=some f)(h:VR W x u):s0 f u:=V.casesOn (motive_1:=λx=>x.tU=some f->VR W x u->s0 f u) x (λe h=>aL e▸h) (λU e=>no e) (λU e h=>aL e▸h) (λU e h=>aL e▸h) (λU e=>no e) (λU e=>no e) (λU e=>no e) (λU e=>no e) (λU e=>no e) (λU e=>no e) (λU U e=>no e) e h
structure vU(A:Around)(s:Shared)(u v:Value)(b:Bool):Prop where
 eq:∀(prog:Program) (w:World) (E:k01) (Q:k01),Q (.bool b) s->wpAny (model prog w) A (compareOp .Eq u v) Q E s
 ne:∀(prog:Program) (w:World) (E:k01) (Q:k01),Q (.bool (!b)) s->wpAny (model prog w) A (compareOp .NotEq u v) Q E s
 id:u=v->b=true
 fl:∀x tx,u≠ .float x tx
def PX{f y:FV}(h:s0 f u)(h':s0 y v):vU A s u v (f.eq y):=by
 induction f using FV.casesOn with
 |n=>
  cases(h:u=_);induction y using FV.casesOn with
  |n=>cases(h':v=_);exact#[λU U U U=>EqNone.eq_none_none,λU U U U=>EqNone.ne_none_none,λU=>rfl,nofun]
  |i=>obtain⟨t,rfl⟩:=h';exact#[λU U U U=>EqNone.eq_none_int,λU U U U=>EqNone.ne_none_int,nofun,nofun]
  |s=>obtain⟨_,t,rfl⟩:=h';exact#[λU U U U=>EqNone.eq_none_str,λU U U U=>EqNone.ne_none_str,nofun,nofun]
 |i=>
  obtain⟨t,rfl⟩:=h;induction y using FV.casesOn with
  |n=>cases(h':v=_);exact#[λU U U U=>EqNone.eq_int_none,λU U U U=>EqNone.ne_int_none,nofun,nofun]
  |i=>obtain⟨x,rfl⟩:=h';exact#[λU U U U=>PyProof.Rows.eq_int,λU U U U=>PyProof.Rows.ne_int,λq=>dX (by injection q),nofun]
  |s=>obtain⟨_,x,rfl⟩:=h';exact#[λU U U U=>EqMixed.eq_int_str,λU U U U=>EqMixed.ne_int_str,nofun,nofun]
 |s a=>
  obtain⟨d,t,rfl⟩:=h;induction y using FV.casesOn with
  |n=>cases(h':v=_);exact#[λU U U U=>EqNone.eq_str_none,λU U U U=>EqNone.ne_str_none,nofun,nofun]
  |i=>obtain⟨x,rfl⟩:=h';exact#[λU U U U=>EqMixed.eq_str_int,λU U U U=>EqMixed.ne_str_int,nofun,nofun]
  |s b=>obtain⟨e,x,rfl⟩:=h';exact#[λU U U Q k=>PyProof.Rows.eq_str (show Q (.bool (nm a==nm b)) s from(J1 d e).symm▸k),λU U U Q k=>PyProof.Rows.ne_str (show Q (.bool (!(nm a==nm b))) s from(J1 d e).symm▸k),λq=>dX (by injection q with q;exact iK d e q),nofun]
def tP(e:gD x y=some b)(hx:VR W x u)(z:VR W y v):vU A s u v b:=
 gY e λU d e=>gY e λU h e=>aL e▸PX (EL d hx) (EL h z)
set_option tactic.hygienic true in
def Pa(uj:u=v->b=true)(hr:∀(prog:Program) (w:World) (E:k01) (Q:k01),Q (.bool b) s->wpAny (model prog w) A (compareOp .Eq u v) Q E s)
 (hm:∀x y z D,¬(u=.float x z/\v=.float y D)):EqAt A s u v b:=by
 intro prog w E Q h;unfold eqBool;refine f4 ?_;refine wpAny_ite_split (λd=> ?_) (λd=> ?_)
 .have:=uj (eq_of_beq d);subst this;exact av (wpAny_rule (aJ h))
 .obtain fin:=av (m:=richCompare .Eq u v) (f:=truthOfDropped) (hr prog w E _ (wpAny_truthy_bool h));split
  .rename_i x z y D e;injection e with B G;exact absurd #[B,G] (hm _ _ _ _)
  .exact fin
def O9(e:gD x y=some b)(hx:VR W x u)(z:VR W y v):EqAt A s u v b:=
 have c:=tP (A:=A) (s:=s) e hx z
 Pa c.id c.eq λU U U U h=>c.fl _ _ h.1
def lO(xs u:k00)(j:Nat):Bool:=((xs[j]?.bind λx=>u[j]?.bind λy=>gD x y)).getD false
def tR{xs z:k00}(e:eZ xs z=some b):xs.length=z.length/\b=(List.range xs.length).all (lO xs z)/\∀j x y,xs[j]? =some x->z[j]? =some y->gD x y=some (lO xs z j):=by
 induction xs generalizing z b with
 |nil=>induction z using List.casesOn with
  |nil=>cases e;exact#[rfl,rfl,λU U U e=>nomatch e]
  |cons=>cases e
 |cons x xs D=>induction z using List.casesOn with
  |nil=>cases e
  |cons y z=>
   refine gY e λa h e=>gY e λc G e=> ?_;obtain⟨J,O,P⟩:=D G;have d:lO (x::xs) (y::z) 0=a:=(aq (Option.getD · false) h:(gD x y).getD false=a);refine#[aq (· +1) J,?_,λj u v B hv=> ?_]
   .rw[gu,List.range_succ_eq_map,List.all_cons,List.all_map,d,←aL e,O];rfl
   .induction j using Nat.casesOn with
    |zero=>cases B;cases hv;exact h.trans (aq some d.symm)
    |succ j=>exact P j u v B hv
def uL{xs D:k00}{us vs:k04}{b:Bool}(e:eZ xs D=some b)(R:aA W xs us)(T:aA W D vs):∀j (y:j<(List.toArray us).size) (z:j<(List.toArray vs).size),EqAt A s (List.toArray us)[j] (List.toArray vs)[j] (lO xs D j):=by
 intro j y z;obtain⟨aeh,i2,Q⟩:=tR e;simp only[fi]at y z;have x:j<xs.length:=by rw[←R.length];exact y
 have B:j<D.length:=by rw[←T.length];exact z
 obtain⟨u,d,G⟩:=R.get (fm x);obtain⟨v,h,J⟩:=T.get (fm B);have:=Q j _ _ (fm x) (fm B);obtain O:us[j]=u:=by rw[fm y]at d;exact aL d
 obtain P:vs[j]=v:=by rw[fm z]at h;exact aL h
 simp only[List.getElem_toArray];rw[O,P];exact O9 this G J
def Pe(Q:A.units+300<cLine)(u:s.heap.IsList a (List.toArray us))(D:s.heap.IsList c (List.toArray vs))(R:aA W xs us)(T:aA W y vs)
 (e:da xs y=some b):RcAt A s (.ref a) (.ref c) b/\RcNeAt A s (.ref a) (.ref c) (!b):=by
 have d:(List.toArray us).size=xs.length:=R.length;have sv:(List.toArray vs).size=y.length:=T.length;unfold da at e;by_cases h:xs.length=y.length
 .rw[al h]at e;have B:=(tR e).2.1;have z:=RcAt.lists (A:=A) (e:=lO xs y) u D (d.trans (h.trans sv.symm)) (by lia) (uL e R T);have x:=RcNeAt.lists (A:=A) (e:=lO xs y) u D (d.trans (h.trans sv.symm)) (by lia) (uL e R T);rw[d,←B]at z x;exact#[z,x]
 .cases(ak h).symm.trans e;exact#[RcAt.lists_lengths u D (by rw[d,sv];exact bne_iff_ne.mpr h) (by lia),RcNeAt.lists_lengths u D (by rw[d,sv];exact bne_iff_ne.mpr h) (by lia)]
def Ew{xs y:k00}(hu:A.units+300<cLine)(u:IsTup s.heap a (List.toArray us))(D:IsTup s.heap c (List.toArray vs))(R:aA W xs us)(T:aA W y vs)
 (Q:xs.length=y.length)(e:eZ xs y=some b):RcAt A s (.ref a) (.ref c) b/\RcNeAt A s (.ref a) (.ref c) (!b):=by
 obtain⟨G,B,J⟩:=tR e;have h:(List.toArray us).size=xs.length:=by simp[R.length]
 have x:(List.toArray vs).size=xs.length:=by simp[T.length,Q]
 have z:=RcAt.tuples (A:=A) (e:=lO xs y) u D (by lia) (uL e R T);have d:=RcNeAt.tuples (A:=A) (e:=lO xs y) u D (by lia) (uL e R T);rw[h,x,Nat.min_self,←B,beq_self_eq_true,Bool.and_true]at z d;exact#[z,d]
def Vw{vs:k04}(R:aA W xs vs)(e:ia xs=some b):vs.length<=1000/\(!(List.toArray vs).isEmpty)=b:=dw e λh e=>by
 refine#[R.length▸h,?_];cases e;induction xs using List.casesOn with
 |nil=>cases(R:vs=[]);rfl
 |cons x r=>exact aA.f7 R λU U U U=>rfl
def Kp(S:St J L m W h s)(R:kr W s xs pv)(e:ia xs=some b){Q:k29}(k:∀s',St J L m W h s'->Q b s'):wpAny gM A (PySem.truthy pv) Q E s:=by
 induction R with|mk x vs d R=>
 have q:=Vw R e;exact wpAny_truthy_list d (by have:=q.1;show(vs.length:Int)<2^63;lia) (q.2▸k _ (S.toks _))
def vj(hb:gx.hb.StaysIn J)(S:St J L m W h s)(e:truthy h v=some b)(hv:VR W v pv){Q:k29}(k:∀s',St J L m W h s'->Q b s'):
 wpAny gM A (PySem.truthy pv) Q E s:=by
 induction v using V.casesOn with
 |none=>cases hv;cases e;exact truthy_none (k _ S)
 |bool b=>cases hv;cases e;exact wpAny_truthy_bool (k _ S)
 |int i=>
  obtain⟨t,rfl⟩:=hv;cases e;refine PyProof.Rows.truthy_int ?_;have:(i != 0)=decide (i≠0):=by by_cases q:i=0<;>simp[q]
  rw[this];exact k _ S
 |fz xs=>exact Kp S (S.fz hb hv) e k
 |ref a=>exact gY e λxs d e=>Kp S (S.jw hb (show fR h (.ref a)=some xs from d) hv) e k
 |_=>exact no e
def AJ(e:f5 D x y=some u)(S:St J L m W h s)(hx:VR W x px)(hy:VR W y py){Q:k01}(k:∀pu s',St J L m W h s'->VR W u pu->Q pu s'):
 wpAny gM A (binaryOp (kE D) px py) Q E s/\((D=.add\/D=.sub)->wpAny gM A (inplaceOp (kE D) px py) Q E s):=by
 revert hx hy;refine gJ e λi e=>gJ e λj e hx hy=> ?_;obtain⟨t,rfl⟩:=hx;obtain⟨d,rfl⟩:=hy;have q:∀z,u=.int z->Q (.int z s.toks) {s with toks:=s.toks+1}:=λz hz=>k _ _ (S.toks _) (hz▸VR.i);induction D using eS.casesOn with
 |add=>have q:=q _ (aL e).symm;exact#[PyProof.Rows.add_int q,λU=>PySem.P.iadd_int q]
 |sub=>have q:=q _ (aL e).symm;exact#[PyProof.Rows.sub_int q,λU=>PyProof.Rows.isub_int q]
 |mul=>exact no e
 |mod=>
  by_cases hz:j=0
  .cases(al hz).symm.trans e
  .exact#[PyProof.Rows.mod_int' hz (q _ (aL ((ak hz).symm.trans e)).symm),nofun]
 |fdiv=>exact dw e λhz e=>#[PyProof.Rows.floordiv_int (Int.ne_of_gt hz.1) (q _ (aL e).symm) (hp:=.inl (PyProof.noPylong_small (Int.natAbs_lt_natAbs_of_nonneg_of_lt (b:=1073741824) (Int.le_of_lt hz.1) (Int.lt_trans hz.2 (by decide))))),nofun]
def zr(h:VR W v pv):(pv== .none)=ev v:=
 have n {x:Value} (e:pv=x):(pv== .none)=(x== .none):=aq (· ==Value.none) e
 V.casesOn (motive_1:=λv=>VR W v pv->(pv== .none)=ev v) v (λh=>n h) (λU h=>n h) (λU h=>h.elim λU e=>n e) (λU h=>h.2.elim λU e=>n e) (λU h=>by refine h _ λU U U U e U U U U=> ?_;exact n e) (λU h=>by refine h _ λU U U e U U=> ?_;exact n e)
 (λU h=>h.elim λU e=>n e.1) (λU h=>n h) (λU h=>n h) (λU h=>n h.2.2) (λU U h=>by refine h _ λU U U U U U U U U U e U U U U U U U=> ?_;exact n e) h
inductive B0(s:Shared)(n:Nat):Value->Prop
 |mk (h1:n<aW) (h2:c8 n≠0) (t:Tok) (h3:IsTup s.heap (c8 n) (List.toArray [.str (nm n) t,.none])):B0 s n (.ref (c8 n))
def lP(ah:cb P)(hb:gx.hb.StaysIn J)(S:St J L m W h s)(hv:VR W (.gk n) pv):B0 s n pv:=by obtain⟨d,x,rfl⟩:=hv;obtain⟨t,e,B⟩:=ah.gk n d x;exact .mk d x t #[_,S.fr.keep _ _ (hb _ _ B),rfl,e,rfl]
def ya(h:n<aW):aA W [.str n,.none] [.str (nm n) t,.none]:=.c (.sv h) (.c .n .z)
def pp(ah:cb P)(hb:gx.hb.StaysIn J)(S:St J L m W h s)(u:n<aW)(y:c8 n≠0):(gE gx.prog gx.w).is s.heap [some (nm n),none] (c8 n):=by obtain⟨t,e,d⟩:=ah.gk n u y;exact#[_,_,e,S.fr.keep _ _ (hb _ _ d),rfl,rfl,.cons (beq_self_eq_true (nm n)) (.cons rfl .nil)]
def qd{M:List (List (Option Str)×Addr×Value)->List (Nat×V)->Prop}(u:M [] [])(y:∀x r p t,AP (eM) W (eQ x) p->AR (eM) W (r.map eQ) t->M r t->M (x::r) (p::t)){xs:k24}(R:AR (eM) W (xs.map eQ) fs):M xs fs:=by
 induction xs generalizing fs with
 |nil=>cases(R:fs=[]);exact u
 |cons x r d=>induction fs using List.casesOn with
  |nil=>exact False.elim R
  |cons p t=>exact y _ _ _ _ R.1 R.2 (d R.2)
def AP.key{x:k33}{p:Nat×V}(h:AP (eM) W (eQ x) p):x.1=[some (nm p.1),none]:=aq Prod.fst h.1.2.2
def Ht(u:a<aW)(hb:b<aW)(q:a≠b):([some (nm a),none]:List (Option Str))≠[some (nm b),none]:=λz=>q (iK u hb (by injection z with z;injection z))
def My{x:k33}(h:x.1=k):PySem.atKey (x::r) k=some x.2:=by unfold PySem.atKey;rw[List.find?_cons_of_pos (p:=λy:List (Option Str)×Addr×Value=>decide (y.1=k)) (dX h)];rfl
def Mx{x:k33}(h:x.1≠k):PySem.atKey (x::r) k=PySem.atKey r k:=by unfold PySem.atKey;rw[List.find?_cons_of_neg (p:=λy:List (Option Str)×Addr×Value=>decide (y.1=k)) (λz=>h (aP z))]
def AR.atKey{xs:k24}(y:n<aW)(R:AR (eM) W (xs.map eQ) fs):
 (∀u,bh n fs=some u->∃p,PySem.atKey xs [some (nm n),none]=some p/\VR W u p.2)/\(bh n fs=none->PySem.atKey xs [some (nm n),none]=none):=
 qd (M:=λxs fs=>(∀u,bh n fs=some u->∃p,PySem.atKey xs [some (nm n),none]=some p/\VR W u p.2)/\(bh n fs=none->PySem.atKey xs [some (nm n),none]=none)) #[λU e=>(nomatch e),λU=>rfl] (λx r p t k U ae=>by
  by_cases q:p.1=n
  .rw[oQ q,My (k.key.trans (q▸rfl))];exact#[λu e=>#[_,rfl,aL e▸k.2],nofun]
  .rw[mS q,Mx (k.key.symm▸Ht k.1.2.1 y q)];exact ae) R
def AR.Uk{xs:k24}(R:AR (eM) W (xs.map eQ) fs):∀x∈xs,∃n,n<aW/\c8 n≠0/\x.1=[some (nm n),none]/\x.2.1=c8 n:=
 qd (M:=λxs U=>∀x∈xs,∃n,n<aW/\c8 n≠0/\x.1=[some (nm n),none]/\x.2.1=c8 n) (λU h=>nomatch h) (λx r p t k U ae y d=>by
  rcases b8.mp d with rfl|d
  .exact#[p.1,k.1.2.1,k.1.1,k.key,aq Prod.snd k.1.2.2]
  .exact ae y d) R
def AR.length{af aK:Type}{u:af->aK->Prop}{es:List (af×Value)}{fs:List (aK×V)}(R:AR u W es fs):es.length=fs.length:=ci.length R
inductive BZ(J:Heap)(L:Addr)(W:Wd)(h:H)(s:Shared)(a:Nm)(fs:k16):Value->Prop
 |mk (x:Addr) (o:Obj) (es:Array DictEntry) (ep:Nat) (xs:k24) (news:k05) (N:News J L s.heap news) (R:bg W h news) (u1:W.aN a=some x) (u2:(x,o)∈news) (u3:o.ExactDict) (u4:o.data=.dict es ep)
  (u5:es.toList=xs.map (entryOfKey (gE gx.prog gx.w))) (u6:(xs.map (·.1)).Nodup) (u7:AR (eM) W (xs.map eQ) fs) (u8:s.heap.DictOfH (gE gx.prog gx.w) x xs) (u9:(x==sysModules)=false):BZ J L W h s a fs (.ref x)
def St.aU(ah:cb P)(hb:gx.hb.StaysIn J)(S:St J L m W h s)(e:h a=.live (.aU fs)\/h a=.pin fs)(hv:VR W (.ref a) pv):BZ J L W h s a fs pv:=by obtain⟨d,N,R⟩:=S.nw;obtain⟨x,o,es,G,xs,O,u,B,z,D,Q,h7⟩:=e.elim (λe=>(R.live a _ e:B7 W d a fs)) (λe=>R.pins a _ e);rw[hv.sx O];refine .mk x o es G xs d N R O u B.1 z D Q h7 #[o,es,G,N.get u,B.1,z,D,λy hy=> ?_,Q] B.2;obtain⟨n,q1,q2,q3,q4⟩:=h7.Uk y hy;rw[q3,q4];exact pp ah hb S q1 q2
def mF(A:Around)(s:Shared)(u y:Value)(c:Bool):Prop:=∀(Q E:k01),(Q (.bool c) s->wpAny gM A (compareOp .Eq u y) Q E s)/\(Q (.bool (!c)) s->wpAny gM A (compareOp .NotEq u y) Q E s)
def mF.flat(h:vU A s u y c):mF A s u y c:=λU U=>#[h.eq _ _ _ _,h.ne _ _ _ _]
def mF.at(h:RcAt A s u y c/\RcNeAt A s u y (!c)):mF A s u y c:=λU U=>#[h.1 _ _ _ _,h.2 _ _ _ _]
def mF.lst(u:A.units+300<cLine)(R:kr W s xs z)(T:kr W s Q D)(e:da xs Q=some c):mF A s z D c:=by
 induction R with|mk x vs h R=>
 induction T with|mk y B d T=>exact .at (Pe u h d R T e)
def Ix(ah:cb P)(hb:gx.hb.StaysIn J)(z:A.units+300<cLine)(S:St J L m W h s)(e:eh h x y=some c)(hx:VR W x px)(u:VR W y py):mF A s px py c:=by
 induction x using V.casesOn with
 |none=>exact .flat (tP (x:=.none) e hx u)
 |int i=>exact .flat (tP (x:=.int i) e hx u)
 |str n=>exact .flat (tP (x:=.str n) e hx u)
 |tup xs=>revert u;refine Bv e λG e u=> ?_;obtain⟨u1,u2,rfl,u3,u4⟩:=S.tup hb hx;obtain⟨v1,v2,rfl,d,B⟩:=S.tup hb u;exact .at (Ew z u3 d u4 B (tR e).1 e)
 |fz xs=>exact gY e λG q e=>.lst z (S.fz hb hx) (S.jw hb q u) e
 |ref a=>exact gY e λxs p e=>gY e λG q e=>.lst z (S.jw hb (show fR h (.ref a)=some xs from p) hx) (S.jw hb q u) e
 |gk n=>
  revert u;refine x8 e λn' e u=> ?_;induction lP ah hb S hx with|mk O a2 t D=>
  induction lP ah hb S u with|mk Q b2 t' b3=>
  exact .at (Ew z D b3 (ya (W:=W) O) (ya Q) rfl ((aq some (Bool.and_true _)).trans e))
 |_=>exact no e
def Iw(ah:cb P)(hb:gx.hb.StaysIn J)(hu:A.units+300<cLine)(S:St J L m W h s)(e:gC h op x y=some b)(hx:VR W x px)(D:VR W y py)
 {Q:k01}(k:∀s',St J L m W h s'->Q (.bool b) s'):wpAny gM A (compareOp (o0 op) px py) Q E s:=by
 have G:∀F,kY F x y=some b->(∀i j t B,F i j=some b->wpAny gM A (compareOp (o0 op) (.int i t) (.int j B)) Q E s)->wpAny gM A (compareOp (o0 op) px py) Q E s:=λF e q=>by revert hx D;refine gJ e λi e=>gJ e λj e hx D=> ?_;obtain⟨t,rfl⟩:=hx;obtain⟨B,rfl⟩:=D;exact q i j t B e
 have H7:∀d,(if ev y=true then some d else none)=some b->py=.none/\d=b:=λd e=>dw e λhn e=>#[eq_of_beq ((zr D).trans hn),aL e];induction op using mD.casesOn with
 |eq=>exact(Ix ah hb hu S e hx D _ _).1 (k _ S)
 |ne=>exact gi e λc hc e=>(Ix ah hb hu S hc hx D _ _).2 (e▸k _ S)
 |lt=>exact G _ e λi j t B e=>PySem.P.lt_int (aL e▸k _ S)
 |le=>exact G _ e λi j t B e=>PySem.P.le_int (aL e▸k _ S)
 |gt=>exact G _ e λi j t B e=>PySem.P.gt_int (aL e▸k _ S)
 |ge=>exact G _ e λi j t B e=>PySem.P.ge_int (aL e▸k _ S)
 |is=>obtain⟨rfl,rfl⟩:=H7 _ e;exact PyProof.Rows.is_none_gen (zr hx▸k _ S)
 |dy=>obtain⟨rfl,rfl⟩:=H7 _ e;exact PyProof.Rows.isnot_none_gen (zr hx▸k _ S)
 |rM=>
  refine gY e λxs hl e=>dw e λhe e=> ?_;cases cY.mp he;induction S.jw hb hl D with|mk y vs hv R=>
  cases(R:vs=[]);exact in_listAt (λU=>false) hv (λy D=>by simp at D) (by cases e;simpa using k _ S)
 |sf=>
  revert hx D;refine lj e λd e=>x8 e λn e hx D=> ?_;obtain⟨es,hd,e⟩:=E3 e;induction lP ah hb S hx with|mk O a2 t a3=>
  induction S.aU ah hb (.inl hd) D with|mk x o kJ ep xs news N R u1 u2 u3 u4 u5 u6 u7 u8 u9=>
  refine PyProof.Rows.wpAny_notIn_heap (knd:=gE gx.prog gx.w) (tupleKind_room_in1 (by lia)) (pp ah hb S O a2) u9 u8 ?_;have z:=AR.atKey O u7;have:(!(PySem.atKey xs [some (nm n),none]).isSome)=(bh n es).isNone:=by
   cases q:bh n es with
   |none=>rw[z.2 q];rfl
   |some u=>obtain⟨p,q1,_⟩:=z.1 u q;rw[q1];rfl
  rw[this,aL e];exact k _ (S.toks _)
def ZF{af:Type}[DecidableEq af]{x:af×Value}{r:List (af×Value)}{k:af}(h:x.1=k):valueAt (x::r) k=some x.2:=by unfold valueAt;rw[List.find?_cons_of_pos (p:=λy:af×Value=>decide (y.1=k)) (dX h)];rfl
def ZE{af:Type}[DecidableEq af]{x:af×Value}{r:List (af×Value)}{k:af}(h:x.1≠k):valueAt (x::r) k=valueAt r k:=by unfold valueAt;rw[List.find?_cons_of_neg (p:=λy:af×Value=>decide (y.1=k)) (λz=>h (aP z))]
def AR.at{af aK:Type}[DecidableEq af][DecidableEq aK]{D:af->aK->Prop}{es:List (af×Value)}{fs:List (aK×V)}{k:af}{n:aK}(R:AR D W es fs)(hk:∀a b,D a b->(a=k↔b=n))(e:bh n fs=some u):
 ∃y,valueAt es k=some y/\VR W u y:=
 ci.ind (M:=λes fs=>bh n fs=some u->∃y,valueAt es k=some y/\VR W u y) (λe=>no e) (λx r p t h U ae e=>by
  have z:=hk _ _ h.1;by_cases q:p.1=n
  .exact#[_,ZF (z.mpr q),aL ((oQ q).symm.trans e)▸h.2]
  .rw[ZE λc=>q (z.mp c)];exact ae ((mS q).symm.trans e)) R e
def putK{af:Type}[DecidableEq af](k:af)(v:Value):List (af×Value)->List (af×Value)
 |[]=>[(k,v)]
 |p::r=>if p.1=k then(k,v)::r else p::putK k v r
def IX{af:Type}[DecidableEq af]{k:af}{p:af×Value}{r:List (af×Value)}(q:p.1=k):putK k v (p::r)=(k,v)::r:=al q
def IW{af:Type}[DecidableEq af]{k:af}{p:af×Value}{r:List (af×Value)}(q:¬p.1=k):putK k v (p::r)=p::putK k v r:=ak q
def HJ{af:Type}{f:af->af}{l:List af}(h:∀x∈l,f x=x):l.map f=l:=(jb h).trans (List.map_id l)
def YP{af:Type}[DecidableEq af](k:af)(v:Value)(l:List (af×Value))(u:(l.map (·.1)).Nodup):stored l k v=putK k v l:=by
 induction l with
 |nil=>rfl
 |cons p r d=>
  have u:=ek.mp u;by_cases q:p.1=k
  .rw[IX q];unfold stored;rw[al (by rw[List.any_cons,dX q];rfl),List.map_cons,al q,q];exact aq _ (HJ λy h=>ak λz=>u.1 (bv.mpr #[y,h,z.trans q.symm]))
  .rw[IW q,←d u.2];unfold stored;rw[List.any_cons,gz q,Bool.false_or];by_cases c:(r.any λe=>decide (e.1=k))=true
   .rw[al c,al c,List.map_cons,ak q]
   .rw[ak c,ak c];rfl
def AR.putK{af aK:Type}[DecidableEq af][DecidableEq aK]{y:af->aK->Prop}{es:List (af×Value)}{fs:List (aK×V)}{k:af}{n:aK}(R:AR y W es fs)(hk:∀a b,y a b->(a=k↔b=n))(D:y k n)(Q:VR W u pu):
 AR y W (Internal.putK k pu es) (cc n u fs):=
 ci.ind (M:=λes fs=>ci (AP y W) (Internal.putK k pu es) (cc n u fs)) #[#[D,Q],rfl] (λx r p t h H ae=>by
  have z:=hk _ _ h.1;by_cases q:p.1=n
  .rw[tz q,IX (z.mpr q)];exact#[#[D,Q],H]
  .rw[ty q,IW λc=>q (z.mp c)];exact#[h,ae]) R
def Hx(u:n<aW)(a:Str)(b:Nat)(h:uU a b):a=nm n↔b=n:=#[λe=>iK h.1 u (h.2.symm.trans e),λe=>h.2.trans (aq nm e)]
def Hv(a b:Int)(h:Ab a b):a=i↔b=i:=by cases(h:a=b);exact Iff.rfl
def WP(l:k24):(l.map (putAt k v)).map (·.1)=l.map (·.1):=by
 rw[List.map_map];refine jb λy U=> ?_;show(putAt k v y).1=y.1;unfold putAt;by_cases c:y.1=k
 .rw[al c]
 .rw[ak c]
def YO(hn:n<aW)(h0:c8 n≠0){xs:k24}(D:(xs.map (·.1)).Nodup)(R:AR (eM) W (xs.map eQ) fs)(hu:VR W u Q):
 AR (eM) W ((storedH xs [some (nm n),none] (c8 n) Q).map eQ) (cc n u fs)/\((storedH xs [some (nm n),none] (c8 n) Q).map (·.1)).Nodup:=by
 have z:=AR.atKey hn R;have O:∀(y:k33) (p:Nat×V),AP (eM) W (eQ y) p->(y.1=[some (nm n),none]↔p.1=n):=λy p h=>#[λc=>Decidable.byContradiction λq=>Ht h.1.2.1 hn q (h.key.symm.trans c),λq=>h.key.trans (q▸rfl)]
 cases B:bh n fs with
 |none=>
  rw[storedH_new (z.2 B)];constructor
  .clear z D;revert B;refine qd (M:=λxs fs=>bh n fs=none->AR (eM) W ((xs++[([some (nm n),none],c8 n,Q)]).map eQ) (cc n u fs)) (λU=>#[#[#[h0,hn,rfl],hu],rfl]) (λx r p t h U ae B=> ?_) R;by_cases q:p.1=n
   .exact no (B.symm.trans (oQ q))
   .rw[ty q];exact#[h,ae ((mS q).symm.trans B)]
  .rw[List.map_append,List.nodup_append];refine#[D,ek.mpr #[List.not_mem_nil,List.nodup_nil],λa P b hb e=> ?_];obtain⟨y,G,e'⟩:=bv.mp P;obtain w:=Option.map_eq_none_iff.mp (z.2 B);exact List.find?_eq_none.mp w y G (dX (e'.trans (e.trans (cu.mp hb))))
 |some v=>
  obtain⟨p,hp,_⟩:=z.1 v B;rw[storedH_old hp];refine#[?_,by rw[WP];exact D];clear hp z;revert B D;refine qd (M:=λxs fs=>(xs.map (·.1)).Nodup->bh n fs=some v->AR (eM) W ((xs.map (putAt [some (nm n),none] Q)).map eQ) (cc n u fs)) (λU=>no) (λx r p t h H ae D B=> ?_) R;have D:=ek.mp D;have J:putAt [some (nm n),none] Q x=if x.1=[some (nm n),none]then(x.1,x.2.1,Q)else x:=rfl
  by_cases q:p.1=n
  .have c:=(O x p h).mpr q;obtain hr:r.map (putAt [some (nm n),none] Q)=r:=HJ λy G=>ak λd=>D.1 (bv.mpr #[y,G,d.trans c.symm]);rw[tz q,List.map_cons,J,al c,hr];exact#[#[q▸h.1,hu],H]
  .rw[ty q,List.map_cons,J,ak λc=>q ((O x p h).mp c)];exact#[h,ae D.2 ((mS q).symm.trans B)]
def St.turn(S:St J L m W h s)(N:News J L s.heap news)(R:bg W h news){hp:Heap}(u:(d,o)∈news)(y:Heap.SameBut d s.heap hp)
 (ho:hp.get? d=some o')(Q:W.own d=some a)(D:∃ol,h a=.live ol)(z:OR W (dc news d o') a ob):St J L m W (h.set a (.live ob)) {s with heap:=hp,toks:=t}:=
 S.put (S.fr.change y (N _ u).2.1 (N _ u).2.2) (N.replace y ho) (R.turn Q D z)
def n7(e:h a=.live o):∃ol,h a=.live ol:=#[_,e]
def Bl(n:Nat)(t:Tok):(PySem.strKind gx.prog gx.w).is (nm n) (.str (nm n) t)=true:=by show(nm n==nm n)=true;exact beq_self_eq_true _
def GD(i:Int)(t:Tok):(PySem.intKind gx.prog gx.w).is i (.int i t)=true:=by show Value.isInt i (.int i t)=true;simp[Value.isInt]
def mH(A:Around)(Q E:k01)(s:Shared)(pv u:Value):Prop:=∀d:Prop,(∀(T id:String) (h:s.TypeIs pv T) (e:typeLookup (.type T) "__getitem__"=pure (some (.builtin id))) (x:wpAny gM A (getItem pv u) Q E s),d)->d
def mH.lst(S:St J L m W h s)(R:kr W s xs pv)(e:eg xs i=some u){Q:k01}(q:∀y s',St J L m W h s'->VR W u y->Q y s'):mH A Q E s pv (.int i tk):=by induction R with|mk x vs d B=>exactλU z=>z ("list") _ d.typeIs list_getitem_lookup (QB d B e λy z=>q y s S z)
def mH.tup(S:St J L m W h s)(D:IsTup s.heap x (List.toArray vs))(h2:aA W xs vs)(e:iP xs i=some u){Q:k01}(q:∀y s',St J L m W h s'->VR W u y->Q y s'):mH A Q E s (.ref x) (.int i tk):=
 λU z=>z ("tuple") _ D.typeIs PyProof.Rows.slot_tuple_getitem.lookup (QA D h2 e λy z=>q y s S z)
inductive sZ{af:Type}[DecidableEq af](knd:KeyKind gx.prog gx.w af)(J:Heap)(L:Addr)(W:Wd)(h:H)(s:Shared)(a:Nm)(T:Addr->Obj->List (af×Value)->Prop):Value->Prop
 |mk (x:Addr) (o:Obj) (kvs:List (af×Value)) (news:k05) (N:News J L s.heap news) (R:bg W h news) (h1:W.aN a=some x) (h2:(x,o)∈news) (h3:o.IsDictOf knd kvs) (h4:T x o kvs) (ai:s.heap.DictOf knd x kvs):sZ knd J L W h s a T (.ref x)
def St.zl(S:St J L m W h s)(e:h a=.live (.fc fs))(hv:VR W (.ref a) pv):sZ (PySem.intKind gx.prog gx.w) J L W h s a (λx U kvs=>(x==sysModules)=false/\AR Ab W kvs fs) pv:=by obtain⟨d,N,R⟩:=S.nw;obtain⟨x,o,kvs,G,O,B,P⟩:=(R.live a _ e:B8 W d a fs);exact hv.sx G▸ .mk x o kvs d N R G O B.1 #[B.2,P] (Heap.dictOf_iff.mpr #[o,N.get O,B.1])
def St.Jt(S:St J L m W h s)(e:h a=.live (.dp fs))(hv:VR W (.ref a) pv):sZ (PySem.strKind gx.prog gx.w) J L W h s a (λU U kvs=>AR uU W kvs fs) pv:=by obtain⟨d,N,R⟩:=S.nw;obtain⟨x,o,kvs,B,G,O,P⟩:=(R.live a _ e:B9 W d a fs);exact hv.sx B▸ .mk x o kvs d N R B G O P (Heap.dictOf_iff.mpr #[o,N.get G,O])
def QH(e:x7 n i=some u):iP [.str n,.none] i=some u:=by
 unfold x7 at e;by_cases c:i=0
 .subst c;exact e
 .rw[ak c]at e;exact dw e λc e=>by subst c;exact e
def Iy(ah:cb P)(hb:gx.hb.StaysIn J)(hu:A.units+300<cLine)(S:St J L m W h s){v k u:V}{pv pk:Value}(e:bM h v k=some u)(hv:VR W v pv)(hk:VR W k pk)
 {Q:k01}(q:∀D s',St J L m W h s'->VR W u D->Q D s'):mH A Q E s pv pk:=by
 induction k using V.casesOn with
 |int i=>
  obtain⟨t,rfl⟩:=hk;induction v using V.casesOn with
  |tup xs=>obtain⟨x,vs,rfl,h1,h2⟩:=S.tup hb hv;exact .tup S h1 h2 e q
  |fz xs=>exact .lst S (S.fz hb hv) e q
  |gk n=>induction lP ah hb S hv with|mk y a2 t a3=>exact .tup S a3 (ya y) (QH e) q
  |ref a=>
   rcases Ag e with⟨xs,B,e⟩|⟨es,B,e⟩
   .exact .lst S (S.jw hb (show fR h (.ref a)=some xs from aq gL B) hv) e q
   .induction S.zl B hv with|mk x o kvs d N R h1 h2 h3 h4 ai=>
    obtain⟨D,G,O⟩:=h4.2.at Hv e;exactλU z=>z ("dict") _ ai.mapOf.typeIs PySem.slot_dict_getitem.lookup (wpAny_getItem_of (GD i t) ai.mapOf G (q _ _ (S.toks _) O))
  |_=>exact no e
 |str n=>
  obtain⟨hn,t,rfl⟩:=hk;revert hv;refine lj e λa e hv=> ?_;obtain⟨es,B,e⟩:=Js e;induction S.Jt B hv with|mk x o kvs d N R h1 h2 h3 h4 ai=>
  obtain⟨D,G,O⟩:=h4.at (Hx hn) e;exactλU z=>z ("dict") _ ai.mapOf.typeIs PySem.slot_dict_getitem.lookup (wpAny_getItem_of (Bl n t) ai.mapOf G (q _ _ (S.toks _) O))
 |gk n=>
  revert hv;refine lj e λa e hv=> ?_;obtain⟨es,B,e⟩:=QJ e;induction lP ah hb S hk with|mk y a2 t a3=>
  induction S.aU ah hb B hv with|mk x o kJ ep xs d N R u1 u2 u3 u4 u5 u6 u7 u8 u9=>
  obtain⟨p,G,O⟩:=(AR.atKey y u7).1 _ e;exactλU z=>z ("dict") _ u8.typeIs PySem.slot_dict_getitem.lookup (wpAny_getItem_heap (knd:=gE gx.prog gx.w) (tupleKind_room_in1 (by lia)) (pp ah hb S y a2) u8 G (q _ _ (S.toks _) O))
 |_=>exact no e
def YT(e:pT u=true):subscripted u false o i=operate [o,i] (getItem o i):=by cases u<;>first|rfl|cases e
def Jy{af:Type}[DecidableEq af]{knd:KeyKind gx.prog gx.w af}(S:St J L m W h s){T:Addr->Obj->List (af×Value)->Prop}{k:af}(u:h a=.live ob)(R:sZ knd J L W h s a T pv)(hk:knd.is k pk=true)(len:∀x o kvs,T x o kvs->kvs.length<=1000)
 (to:∀x o o' kvs news,T x o kvs->W.aN a=some x->(x,o')∈news->o'.IsDictOf knd (putK k pu kvs)->OR W news a ob'){Q:k09}(q:∀s',St J L m W (h.set a (.live ob')) s'->Q () s'):wpAny gM A (setItem pv pk pu) Q E s:=by
 induction R with|mk x o kvs news N R d e O B ai=>
 refine wpAny_setItem_pairs (k:=k) hk ai (λhp D y=>q _ ?_) (by have:=len _ _ _ B;rw[fk];lia);obtain⟨o',P,G⟩:=Heap.dictOf_iff.mp D;obtain⟨_,_,_,_,_,_,z⟩:=O;rw[YP _ _ _ z]at G;exact S.turn N R e y P (R.bp _ _ d) (n7 u) (to x o o' kvs _ B d (iH e) G)
def IG(ah:cb P)(hb:gx.hb.StaysIn J)(hu:A.units+300<cLine)(S:St J L m W h s)(e:ki h v k u=some h')(hv:VR W v pv)(hk:VR W k pk)(hx:VR W u D)
 {Q:k09}(q:∀s',St J L m W h' s'->Q () s'):wpAny gM A (setItem pv pk D) Q E s:=by
 revert hv;refine lj e λa e1 hv=>gi e1 λsl e2 he=> ?_;clear e1 e;subst he;rename _=some sl=>e;induction k using V.casesOn with
 |int i=>
  obtain⟨t,rfl⟩:=hk;rcases Ag e with⟨xs,B,e⟩|⟨es,B,e⟩
  .refine dw e λc e=> ?_;cases aL e;induction S.list B hv with|mk x vs n d N R G h3 h5=>
   have y:=h5.length;have ho:=(N _ h3).1;have hs:(List.toArray vs).setIfInBounds i.toNat D=List.toArray (vs.set i.toNat D):=Array.toList_inj.mp (by simp);refine ki_setAt ho c.1 (Int.lt_trans c.2.2 (by decide)) (show i<(vs.length:Int)from y▸c.2.1) (q _ ?_);have z:=PySem.IsL.update ho (·.setIfInBounds i.toNat D);dsimp only at z;rw[hs,if_pos (by simp)]at z;exact S.turn (t:=s.toks) N R h3 (Heap.SameBut.update ..) z (R.bp _ _ G) (n7 B) #[x,_,n,G,iH h3,h5.set _ hx]
  .refine dw e λc e=> ?_;cases aL e;exact Jy (ob':=.fc (cc i u es)) S B (S.zl B hv) (GD i t) (λU U U z=>z.2.length▸c) (λx o O kvs d z G h2 hd=>#[x,O,_,G,h2,#[hd,z.1],z.2.putK Hv rfl hx]) q
 |str n=>obtain⟨y,t,rfl⟩:=hk;obtain⟨es,B,e⟩:=Js e;refine dw e λc e=> ?_;cases aL e;exact Jy (ob':=.dp (cc n u es)) S B (S.Jt B hv) (Bl n t) (λU U U z=>z.length▸c) (λx o O kvs d z G h2 hd=>#[x,O,_,G,h2,hd,z.putK (Hx y) #[y,rfl] hx]) q
 |gk n=>
  obtain⟨es,hd,e⟩:=E3 e;refine dw e λc e=> ?_;cases aL e;induction lP ah hb S hk with|mk a1 a2 t a3=>
  induction S.aU ah hb (.inl hd) hv with|mk x o kJ ep xs d N R u1 u2 u3 u4 u5 u6 u7 u8 u9=>
  obtain bl:xs.length=es.length:=(be _).symm.trans u7.length;refine wpAny_setItem_heap (knd:=gE gx.prog gx.w) (tupleKind_room_in1 (by lia)) (pp ah hb S a1 a2) u8 (λhp D' hs=>q _ ?_) (by rw[bl,fk];lia);obtain⟨O,tN,xw,jp,lQ,gc,pz,_,nE⟩:=D';obtain z:=YO a1 a2 u6 u7 hx;exact S.turn N R u2 hs jp (R.bp _ _ u1) (n7 hd) #[x,O,tN,xw,_,u1,iH u2,#[lQ,u9],gc,pz,nE,z.1]
 |_=>exact no e
def T5(e:eL h v=some xs):v=.tup xs\/fR h v=some xs:=
 V.casesOn (motive_1:=λv=>eL h v=some xs->v=.tup xs\/fR h v=some xs) v no (λU=>no) (λU=>no) (λU=>no) (λU e=>.inl (aq V.tup (aL e))) (λU e=>.inr e) (λU e=>.inr e) (λU=>no) (λU=>no) (λU=>no) (λU U=>no) e
def V3(hb:gx.hb.StaysIn J)(S:St J L m W h s){xs:k00}(e:eL h v=some xs)(u:xs.length<=1000)(hv:VR W v pv)
 {Q:k01}(q:∀t s',St J L m W h s'->Q (.int xs.length t) s'):wpAny gM A (call (.builtin "len") [pv]) Q E s:=by
 have z:∀{vs:k04},aA W xs vs->Q (.int (List.toArray vs).size (s.toks+1)) {s with toks:=s.toks+1+1}:=λ{vs} R=>by obtain hz:(List.toArray vs).size=xs.length:=R.length;rw[hz];exact q (s.toks+1) _ (S.toks (s.toks+1+1))
 have b:∀{vs:k04},aA W xs vs->(List.toArray vs).size<2^62:=λ{vs} R=>el (bk (Nat.le_of_eq (R.length:(List.toArray vs).size=_)) u) (by decide);rcases T5 e with rfl|e
 .obtain⟨x,vs,rfl,B,d⟩:=S.tup hb hv;exact PyProof.Rows.len_tuple B (by have:=b d;lia) (z d)
 .induction S.jw hb e hv with|mk x vs B d=>
  exact Calls.call_len_list B (by have:=b d;lia) (z d)
def V4(D:A.handled=none)(S:St J L m W h s)(e:kY (λi j=>some (if j>i then j else i)) x y=some r)(hx:VR W x px)(z:VR W y py)
 {Q:k01}(q:∀t s',St J L m W h s'->Q (.int r t) s'):wpAny gM A (call (.builtin "max") [px,py]) Q E s:=by
 revert hx z;refine gJ e λi e=>gJ e λj e hx z=> ?_;obtain⟨t,rfl⟩:=hx;obtain⟨u,rfl⟩:=z;obtain⟨d,N,R⟩:=S.nw;exact max_two_N D S.fr N λh' O B G=>aL e▸q _ _ (S.put B G R)
def St.made(S:St J L m W h s)(u:bg W h news)(R:aA W xs vs)(e:jz z xs h Q)
 (F':Fr J L hp m)(N':News J L hp ((ai,listOf (List.toArray vs) n)::news))(lt:∀p∈news,p.1<ai):dB J L m W Q (.ref ai) {s with heap:=hp,toks:=t}:=by
 have e:=e.2;have B:=gh lt;cases z
 .obtain⟨a,O,q⟩:=e;obtain⟨d,le⟩:=u.name (a:=a) O (x:=ai) (new:=[(ai,listOf (List.toArray vs) n)]) (xs:=[]) (o:=.list xs) rfl (by simp) (by simpa using B)
   (λW' G le=>#[ai,vs,n,by rw[G];exact al rfl,.head _,R.mono le])
  exactλU z=>z _ _ (.ref a) le (S.put F' N' d) (.r (al rfl)) q
 .obtain⟨d,le⟩:=u.eo (o:=listOf (List.toArray vs) n) B;exactλU z=>z _ h (.fz xs) le (S.put F' N' d) (λU z=>z ai vs n rfl (.inl (al rfl)) (R.mono le)) e
def aA.rep(R:VR W v pv):∀n,aA W (List.replicate n v) (List.replicate n pv)
 |0=>.z
 |n+1=>.c R (aA.rep R n)
def V7(S:St J L m W h s){l:Addr}{v:V}{pv u:Value}{i:Int}{z:Bool}{Q:QV}(y:s.heap.IsList l (List.toArray [pv]))(hv:VR W v pv)(hk:VR W (.int i) u)(D: -200<i)(h2:i<200)
 (e:jz z (List.replicate i.toNat v) h Q){K:k01}(k:∀pv s',dB J L m W Q pv s'->K pv s'):wpAny gM A (binaryOp .Mult (.ref l) u) K E s:=by
 obtain⟨t,rfl⟩:=hk;obtain⟨d,N,R⟩:=S.nw;obtain G:(List.replicate i.toNat [pv]).flatten=List.replicate i.toNat pv:=by
  induction i.toNat with
  |zero=>rfl
  |succ n O=>simp[List.replicate_succ,O]
 refine KMa.mul S.fr N y (by lia) (by lia) (by simp only[gu,List.length_nil];lia) G λai hp x B lt=>k _ _ ?_;exact S.made R (aA.rep hv _) e x B lt (t:=s.toks)
def TN(e:j0 xs=some ns)(R:aA W xs vs):IntsAre vs ns:=by
 induction xs generalizing ns vs with
 |nil=>cases e;cases(R:vs=[]);exact .nil
 |cons x r B=>revert R;refine gJ (show x.eK (λi=>(j0 r).map (i::·))=some ns from e) λi e R=>gi e λl q e=> ?_;refine aA.f7 R λv t h d=> ?_;obtain⟨G,rfl⟩:=h;exact e▸ .cons _ _ (B q d)
def GG{ns:k23}(h:IntsAre vs ns):aA W (ns.map V.int) vs:=by
 induction h with
 |nil=>exact .z
 |cons k t r d=>exact .c .i d
def YE{a b:k23}(p:a.Perm b)(o:a.Pairwise (· <=·)):a=b.mergeSort (λa b=>decide (a<=b)):=by have q:=List.mergeSort_perm b (λa b=>decide (a<=b));have s:=List.pairwise_mergeSort (le:=λa b:Int=>decide (a<=b)) (λa b c h d=>by simp at*;lia) (λa b=>by simp;lia) b;refine List.Perm.eq_of_pairwise (le:=(· <=·)) (λa b U U h d=>by lia) o ?_ (p.trans q.symm);exact s.imp λ{x y} z=>by simpa using z
def Wm{a b:k23}(h:a.length<=1)(p:b.Perm a):b=a:=by
 rcases a with _|⟨x,_|⟨y,t⟩⟩
 .exact p.eq_nil
 .exact List.perm_singleton.mp p
 .exact absurd h (by simp)
def Af{af:Type}{l:List af}(h:l.length=1):∃a,l=[a]:=List.length_eq_one_iff.mp h
def qK(J:Heap)(L:Addr)(m:k03)(W:Wd)(h:H)(xs:k00)(pv:Value)(s':Shared):Prop:=∃W',W.Le W'/\St J L m W' h s'/\VR W' (.fz xs) pv
def qK.of(S:St J L m W h s){xs:k00}{vs:k04}{ai:Addr}{n:Nat}{hp:Heap}{t:Tok}{news:k05}(u:bg W h news)(R:aA W xs vs)(F':Fr J L hp m)(N':News J L hp ((ai,listOf (List.toArray vs) n)::news))(lt:∀p∈news,p.1<ai):
 qK J L m W h xs (.ref ai) {s with heap:=hp,toks:=t}:=by
 obtain⟨d,le⟩:=u.eo (o:=listOf (List.toArray vs) n) (gh lt);exact#[_,le,S.put F' N' d,λU z=>z ai vs n rfl (.inl (al rfl)) (R.mono le)]
def YC(S:St J L m W h s){y:k00}{ns:k23}(D:h a=.live (.list y))(bl:y.length<64)(e:j0 y=some ns)(hv:VR W (.ref a) pv):
 wpAny gM A (call (.builtin "sorted") [pv]) (qK J L m W h ((ns.mergeSort (λa b=>decide (a<=b))).map V.int)) E s:=by
 induction S.list D hv with|mk x vs n G N R Q u d=>
 have B:=TN e d;have hn:=B.length;have nE:=d.length;exact kso_sorted S.fr N (N.isList u) B (by lia) λai Bz VF c hp O P lt z U p o U=>.of S (t:=s.toks) R (YE p o▸GG z) O P lt
def YB(ah:cb P)(hh:A.handled=none)(S:St J L m W h s){a:Nm}{es:List (Int×V)}{pv:Value}(hd:h a=.live (.fc es))(bl:es.length<=1)(hv:VR W (.ref a) pv):
 wpAny gM A (call (.builtin "sorted") [pv]) (qK J L m W h (es.map λp=>V.int p.1)) E s:=by
 induction S.zl hd hv with|mk x o kvs d N R h1 h2 h3 e ai=>
 obtain⟨lo,e⟩:=e;obtain⟨ep,Rh⟩:=ai.dictAt;have O:=e.length;refine kdu_sorted (kdl_dict (knd:=PySem.intKind gx.prog gx.w) (kvs:=kvs) (ep:=ep) lo) hh S.fr N Rh (by rw[fk];lia) λB hp tk vs u z lt G hv=> ?_;have key:∃ns,IntsAre vs ns/\es.map (λp=>V.int p.1)=ns.map V.int/\ns.length<=1:=by
  rcases Nat.le_one_iff_eq_zero_or_eq_one.mp bl with c|c
  .cases List.length_eq_zero_iff.mp c;cases List.length_eq_zero_iff.mp (G.trans O);exact#[[],.nil,rfl,cD _]
  .obtain⟨p,rfl⟩:=Af c;obtain⟨aew,rfl⟩:=Af (O.trans c);obtain⟨v,rfl⟩:=Af (G.trans rfl);obtain⟨k',x',lW,eH⟩:=hv 0 v rfl;cases aL lW;obtain⟨t,rfl⟩:=Value.isInt_shape eH;cases(e.1.1:k'=p.1);exact#[[p.1],.cons _ _ .nil,rfl,bG _]
 obtain⟨ns,Q,cP,Sw⟩:=key;exact ksk_lsort (ns:=ns) (news':=λo=>(B,o)::d) u z (λo=>.head λq hq=>Nat.ne_of_lt (lt q hq)) rfl Q (by lia) λBz VF c e8 y D Q3 du p' o' U=>.of S (t:=tk) R (cP▸Wm Sw p'▸GG Q3) y D lt
def YH(e:qi z=some xs):(∃u ns,z=.live (.list u)/\u.length<64/\j0 u=some ns/\xs=(ns.mergeSort (λa b=>decide (a<=b))).map V.int)\/∃es,z=.live (.fc es)/\es.length<=1/\xs=es.map λp=>V.int p.1:=by
 rcases Ag e with⟨u,h,e⟩|⟨es,h,e⟩
 .exact dw e λd e=>gi e λns q e=>.inl #[u,ns,h,d,q,e.symm]
 .refine .inr #[es,h,?_];rcases es with _|⟨p,_|⟨y,t⟩⟩
  .exact#[cD _,(aL e).symm]
  .exact#[bG _,(aL e).symm]
  .exact no e
def V9(ah:cb P)(u:A.handled=none)(hb:gx.hb.StaysIn J)(S:St J L m W h s)(e:ot h v=some xs)(hv:VR W v pv)
 {K:k01}(k:∀W' pv s',W.Le W'->St J L m W' h s'->VR W' (.fz xs) pv->K pv s'):wpAny gM A (call (.builtin "sorted") [pv]) K E s:=by
 refine bj (Q:=qK J L m W h xs) ?_ (λpv s' #[W',le,B,hv]=>k W' pv s' le B hv) λU U q=>q;revert hv;refine lj e λa e hv=> ?_;rcases YH e with⟨y,ns,d,x,G,rfl⟩|⟨es,d,x,rfl⟩
 .exact YC S d x G hv
 .exact YB ah u S d x hv
def HY:nm 0=Str.ofString "append"/\nm 1=Str.ofString "pop"/\nm 2=Str.ofString "remove"/\nm 3=Str.ofString "extend"/\nm 4=Str.ofString "get"/\nm 5=Str.ofString "clear":=by decide+kernel
def CN(bq:Nat):String:=if bq=0 then "list.append" else if bq=1 then "list.pop" else if bq=2 then "list.remove" else "list.extend"
def CM(bq:Nat):String:=if bq=4 then "dict.get" else if bq=1 then "dict.pop" else "dict.clear"
def E5(ho:s.heap.get? x=some (listOf (List.toArray vs) n))(u:bq<4){Q:k34}(q:Q (.builtin (CN bq),[.ref x]) s):
 wpAny gM A (getMethod (.ref x) (nm bq) y) Q E s:=by
 obtain⟨d,B,G,e3,J,O⟩:=HY;have hd:∀a,Value.ref x=.ref a->∃o,s.heap.get? a=some o/\o.dict=none:=λa e=>by cases e;exact#[_,ho,rfl]
 have h:s.TypeIs (.ref x) "list":=#[_,ho,rfl];rcases bq with _|_|_|_|n
 .rw[d];exact getMethod_builtin h PySem.F.plainAttrs_list PySem.F.slot_list_append PySem.F.type_list_append hd q
 .rw[B];exact getMethod_builtin h PySem.F.plainAttrs_list PySem.F.slot_list_pop PySem.F.type_list_pop hd q
 .rw[G];exact getMethod_builtin h PySem.F.plainAttrs_list PySem.F.slot_list_remove PySem.F.type_list_remove hd q
 .rw[e3];exact getMethod_builtin h PySem.F.plainAttrs_list PySem.F.slot_list_extend PySem.F.type_list_extend hd q
 .exact absurd u (Nat.not_lt.mpr (fj 4 n))
def QE{o:Obj}(ho:s.heap.get? x=some o)(hc:o.ExactDict)(u:bq=1\/bq=4\/bq=5){Q:k34}(q:Q (.builtin (CM bq),[.ref x]) s):
 wpAny gM A (getMethod (.ref x) (nm bq) y) Q E s:=by
 obtain⟨J,d,O,e3,B,G⟩:=HY;have hd:∀a,Value.ref x=.ref a->∃o,s.heap.get? a=some o/\o.dict=none:=λa e=>by cases e;exact#[_,ho,hc.2.1]
 have h:s.TypeIs (.ref x) "dict":=#[_,ho,hc.1];rcases u with rfl|rfl|rfl
 .rw[d];exact getMethod_builtin h PySem.F.plainAttrs_dict PySem.F.slot_dict_pop PySem.F.type_dict_pop hd q
 .rw[B];exact getMethod_builtin h PySem.F.plainAttrs_dict PySem.F.slot_dict_get PySem.F.type_dict_get hd q
 .rw[G];exact getMethod_builtin h PySem.F.plainAttrs_dict PySem.F.slot_dict_clear PySem.F.type_dict_clear hd q
def St.uZ(S:St J L m W h s)(N:News J L s.heap news)(R:bg W h news){f:Array Value->Array Value}(hx:h a=.live (.list xs))(y:W.aN a=some x)
 (u:(x,listOf (List.toArray vs) n)∈news)(hf:f (List.toArray vs)=List.toArray us)(D:aA W Q us):St J L m W (h.set a (.live (.list Q))) {s with heap:=s.heap.update x (Obj.mapSeq f),toks:=t}:=by
 have z:=PySem.IsL.update (N _ u).1 f;rw[hf]at z;exact S.turn N R u (Heap.SameBut.update ..) z (R.bp _ _ y) (n7 hx) #[x,us,_,y,iH u,D]
def aA.snoc(R:aA W xs vs)(y:VR W u D):aA W (xs++[u]) (vs++[D]):=R.append (.c y .z)
def Cz(e:kA (x::r)=true):(∃c,x=.int c)/\kA r=true:=by have e:=an e;obtain⟨c,h⟩:=Option.isSome_iff_exists.mp e.1;exact#[gJ (M:=λx=>∃c,x=.int c) h λc U=>#[c,rfl],e.2]
def Lh(W:Wd)(i:Int)(xs:k00)(vs:k04):Prop:=∀d:Prop,(∀(j:Nat) (B:j<vs.length) (t:Tok) (e:vs[j]=.int i t) (h:∀k (hk:k<vs.length),k<j->∃c t,vs[k]=.int c t/\c≠i) (x:aA W (jf i xs) (vs.eraseIdx j)),d)->d
def Pg(u:kA xs=true)(e:kP i xs=true)(R:aA W xs vs):Lh W i xs vs:=by
 induction xs generalizing vs with
 |nil=>cases e
 |cons x r Q=>
  obtain⟨⟨c,rfl⟩,u⟩:=Cz u;refine aA.f7 R λv t P h=> ?_;obtain⟨B,rfl⟩:=P;have d:jf i (.int c::r)=if c=i then r else .int c::jf i r:=rfl
  by_cases q:c=i
  .subst q;exactλU z=>z 0 (Nat.zero_lt_succ _) B rfl (λk U hk=>absurd hk (Nat.not_lt_zero _)) (by rw[d,al rfl];exact h)
  .have e:(decide (c=i)||kP i r)=true:=e;rw[gz q,Bool.false_or]at e;refine(Q u e h) _ λj y tj G J O=> ?_;refine(λU z=>z (j+1) (Nat.succ_lt_succ y) tj G (λk hk D=> ?_) (by rw[d,ak q];exact .c .i O));rcases k with _|k
   .exact#[c,B,rfl,q]
   .exact J k (Nat.lt_of_succ_lt_succ hk) (Nat.lt_of_succ_lt_succ D)
def all_ints(e:kA xs=true)(R:aA W xs vs):∀y∈vs,∃c t,y=Value.int c t:=by
 induction xs generalizing vs with
 |nil=>cases(R:vs=[]);exactλU h=>nomatch h
 |cons x r O=>
  obtain⟨⟨c,rfl⟩,J⟩:=Cz e;refine aA.f7 R λv t B G y d=> ?_;rcases b8.mp d with rfl|d
  .exact B.elim λt e=>#[c,t,e]
  .exact O J G y d
variable{a:Nm}{xs:k00}{pv:Value}{K:k01}
def UN(S:St J L m W h s)(hx:h a=.live (.list xs))(hv:VR W (.ref a) pv)(y:VR W x u)(z:xs.length<1000)(k:∀s',St J L m W (h.set a (.live (.list (xs++[x])))) s'->K .none s'):
 wpAny gM A (call (.builtin "list.append") [pv,u]) K E s:=by
 induction S.list hx hv with|mk d vs n G N R O e B=>
 have P:=B.length;exact call_meets PySem.F.slot_list_append #[_,(N _ e).1,rfl] PySem.F.entry_list_append (PySem.F.args_list_append_2 _ _) (PySem.list_append d (List.toArray vs) n u (by simp only[fi,fk];lia)) #[(N _ e).1,k _ (S.uZ N R hx O e (us:=vs++[u]) (by simp) (B.snoc y))]
def UP(S:St J L m W h s)(hx:h a=.live (.list (y::xs)))(hv:VR W (.ref a) pv)(D:xs.length<1000)(k:∀u s',St J L m W (h.set a (.live (.list xs))) s'->VR W y u->K u s'):
 wpAny gM A (call (.builtin "list.pop") [pv,.int 0 t]) K E s:=by
 induction S.list hx hv with|mk d vs n B N R O e P=>
 refine P _ ?_;rintro u G rfl z x;have Q:=x.length;exact call_meets PySem.F.slot_list_pop #[_,(N _ e).1,rfl] PySem.F.entry_list_pop (PySem.F.args_list_pop_2 _ _) (PySem.MeetsSeq.list_pop_at d (List.toArray (u::G)) n 0 t 0 u (by decide+kernel) (by simp[seqIndex?]) (by simp) (by simp only[fi,gu,fk];lia)) #[(N _ e).1,k _ _ (S.uZ N R hx O e (us:=G) (by simp) x) z]
def UQ(S:St J L m W h s)(hx:h a=.live (.list xs))(hv:VR W (.ref a) pv)(u:kA xs=true)(hi:kP i xs=true)(hl:xs.length<1000)(k:∀s',St J L m W (h.set a (.live (.list (jf i xs)))) s'->K .none s'):
 wpAny gM A (call (.builtin "list.remove") [pv,.int i t]) K E s:=by
 induction S.list hx hv with|mk d vs n G N R h1 e x=>
 have hn:=x.length;refine(Pg u hi x) _ λj B tj P z D=> ?_;refine call_meets PySem.F.slot_list_remove #[_,(N _ e).1,rfl] PySem.F.entry_list_remove (PySem.F.args_list_remove_2 _ _) (PySem.MeetsSeq.list_remove d (List.toArray vs) n (.int i t) (λy=>match y with|.int c _=>c==i|_=>false) (λy hy=> ?_) j B (by simp[P]) (λk hk bZ=> ?_) (by simp only[fi,fk];lia)) #[(N _ e).1,k _ (S.uZ N R hx h1 e (us:=vs.eraseIdx j) (by simp[Array.eraseIdxIfInBounds,B]) D)]
 .obtain⟨c,O,rfl⟩:=all_ints u x y (by simpa using hy);exact PySem.MeetsSeq.EqGives.int c i O t
 .obtain⟨c,O,Q,b2⟩:=z k hk bZ;simp[Q,b2]
def UO(S:St J L m W h s)(hx:h a=.live (.list xs))(hv:VR W (.ref a) pv){y:V}(z:xs.getLast?=some y)(hl:xs.length<1000)(k:∀u s',St J L m W (h.set a (.live (.list xs.dropLast))) s'->VR W y u->K u s'):
 wpAny gM A (call (.builtin "list.pop") [pv]) K E s:=by
 induction S.list hx hv with|mk d vs n O N R D x B=>
 have G:=B.length;rw[List.getLast?_eq_getElem?]at z;obtain⟨u,e,P⟩:=B.get z;rw[←G]at e;obtain Q:vs.length-1<vs.length:=(eU.mp e).1;exact call_meets PySem.F.slot_list_pop #[_,(N _ x).1,rfl] PySem.F.entry_list_pop (PySem.F.args_list_pop_1 _) (PySem.MeetsSeq.list_pop_last d (List.toArray vs) n u (by simpa using e) (by simp only[fi,fk];lia))
  #[(N _ x).1,k _ _ (S.uZ N R hx D x (us:=vs.take (vs.length-1)) (by simp[Array.eraseIdxIfInBounds,Q,List.dropLast_eq_take]) (by rw[List.dropLast_eq_take,G];exact B.take _)) P]
def V6(S:St J L m W h s){r:V×H}(e:j7 false h a bq args=some r)(hv:VR W (.ref a) pv)(ha:aA W args sp)
 {K:k01}(k:∀pr s',St J L m W r.2 s'->VR W r.1 pr->K pr s'):wpAny gM A (call (.builtin (CN bq)) (pv::sp)) K E s:=by
 refine gi (show(n9 (h a) bq args).map (oi h a)=some r from e) λp O hr=> ?_;clear e;subst hr;obtain⟨xs,P,e⟩:=UM O;clear O;rcases args with _|⟨x,_|⟨y,args⟩⟩
 .cases(ha:sp=[]);refine dw (show(if bq=1/\xs.length<1000 then vo xs xs.getLast? else none)=some p from e) λc e1=>gi e1 λy u O=> ?_;clear e e1;obtain⟨rfl,G⟩:=c;subst O;exact UO S P hv u G k
 .refine ha _ ?_;rintro px t rfl d ht;cases(ht:t=[]);replace e:la xs bq x=some p:=e;unfold la at e;by_cases Q:bq=0
  .rw[al Q]at e;subst Q;refine dw e λG e3=> ?_;clear e;cases e3;exact UN S P hv d G λs' D=>k _ s' D .n
  rw[ak Q]at e;by_cases c1:bq=1
  .rw[al c1]at e;subst c1;revert d;refine gJ e λi e3 d=>dw e3 λc B=>gi B λy u e5=> ?_;clear e e3 B;obtain⟨t,rfl⟩:=d;obtain⟨rfl,G⟩:=c;subst e5;rcases xs with _|⟨z,xs⟩
   .exact no u
   .cases u;exact UP S P hv (Nat.lt_of_succ_lt_succ G) k
  rw[ak c1]at e;refine dw e λc2 e3=> ?_;clear e;subst c2;revert d;refine gJ e3 λi B d=>dw B λc e5=> ?_;clear e3 B;obtain⟨t,rfl⟩:=d;cases e5;have c:=an c;exact UQ S P hv c.1 (an c.2).1 (aP (an c.2).2) λs' D=>k _ s' D .n
 .exact no e
def xx{af aK:Type}(f:af->aK):∀(l:List af) (i:Nat),(l.map f).eraseIdx i=(l.eraseIdx i).map f
 |[],_=>rfl
 |_::_,0=>rfl
 |x::r,i+1=>by rw[List.map_cons,List.eraseIdx_cons_succ,List.eraseIdx_cons_succ,List.map_cons,xx f r i]
section
variable{prog:Program}{w:World}{K:Type}[DecidableEq K](knd:HeapKind prog w K)(d a:Addr)
def U2(dflt:Value):
 MeetsIn prog w (Builtin.«dict.pop» #[[.ref d,.ref a,dflt],[]]) (λA R s=>knd.room A.in1/\∃k xs j p,knd.is s.heap k a/\s.heap.DictOfH knd d xs/\xs[j]? =some (k,p)/\xs.length<=sizeLine/\
  ∀h',h'.DictOfH knd d (xs.eraseIdx j)->Heap.SameBut d s.heap h'->R (.ok (.ret p.2)) {s with heap:=h',toks:=s.toks+knd.draws k}):=
 .of_wp λA R s z=>by
  obtain⟨D,k,xs,j,p,u,y,B,rD,h⟩:=z;obtain⟨o,es,Q,e,hc,hd,G,P,O⟩:=id y;have hes:es.size=xs.length:=size_of_entries G;unfold Builtin.«dict.pop»;refine av ?_;unfold Builtin.Dict.keyAndDefault;refine av (wpAny_notOrdered_dict y.typeIs ?_);show wpAny _ _ (pure (d,Value.ref a,some dflt)) _ _ s;refine aJ ?_;obtain SO:(keyPart (Value.ref a)).isSome=false:=rfl;simp only[SO,oR,if_false];refine av (wpAny_dictEntries e hd ?_);refine av (aJ ?_);have bZ:j<xs.length:=(eU.mp B).1;obtain RL:es.isEmpty=false:=by
   cases hq:es.isEmpty with
   |false=>rfl
   |true=>have:es.size=0:=by simpa using hq
          lia
  rw[RL];simp only[oR,if_false];refine av ?_;unfold Builtin.Dict.takeOut;refine f4 ?_;refine av (knd.pyHash D u ?_);refine av (wpAny_dictFind_heap (s:={s with toks:=s.toks+knd.draws k}) D u e hd G P O (λkR=>absurd B (kR j p)) λi q J=> ?_);obtain R5:i=j:=idxH_unique O J B;subst R5;obtain SU:q=p:=by rw[B]at J;cases J;rfl
  subst SU;refine av (wpAny_dictEntries (s:={s with toks:=s.toks+knd.draws k}) e hd ?_);rw[entry_at G i,B];obtain SA:(s.heap.update d (Obj.mapDictKeys λx=>x.eraseIdxIfInBounds i)).DictOfH knd d (xs.eraseIdx i):=by
   refine#[_,_,Q+1,Heap.get?_update_self _ e (Obj.isFreed_of_dict (Obj.data_mapDictKeys hd _)),hc.mapDictKeys _,Obj.data_mapDictKeys hd _,?_,λx hx=>knd.keeps (P x (List.mem_of_mem_eraseIdx hx)) e hd (Heap.SameBut.update ..),?_]
   .have:i<es.size:=by lia
    simp only[Array.eraseIdxIfInBounds,this,dif_pos,Array.toList_eraseIdx,G];exact xx _ _ _
   .rw[←xx];exact O.sublist (List.eraseIdx_sublist _ _)
  refine av (wpAny_updateDictKeys (hz:=by lia) (s:={s with toks:=s.toks+knd.draws k}) e hd (aJ ?_) (hf:=by unfold Array.eraseIdxIfInBounds;split<;>simp<;>lia));simp only[Option.isNone_some,oR,if_false];exact av (wpAny_letGo (aJ #[q.2,rfl,h _ SA (Heap.SameBut.update ..)]))
end
def AR.del{xs:k24}(R:AR (eM) W (xs.map eQ) fs)(e:bh n fs=some u):
 ∃j p,xs[j]? =some ([some (nm n),none],p)/\VR W u p.2/\AR (eM) W ((xs.eraseIdx j).map eQ) (lJ n fs):=
 qd (M:=λxs fs=>bh n fs=some u->∃j p,xs[j]? =some ([some (nm n),none],p)/\VR W u p.2/\AR (eM) W ((xs.eraseIdx j).map eQ) (lJ n fs)) no (λx r p t h H ae e=>by
  by_cases q:p.1=n
  .exact#[0,x.2,aq some (Prod.ext (h.key.trans (q▸rfl)) rfl),aL ((oQ q).symm.trans e)▸h.2,by rw[Cr q];exact H]
  .obtain⟨j,y,d,B,G⟩:=ae ((mS q).symm.trans e);exact#[j+1,y,d,B,by rw[Mj q];exact#[h,G]]) R e
def NZ(ah:cb P)(hb:gx.hb.StaysIn J)(hu:A.units+300<cLine)(S:St J L m W h s)(hd:h a=.live (.aU es))(hv:VR W (.ref a) pv)(hk:VR W (.gk n) pk)(Q:VR W dv y)
 (k:∀D s',St J L m W h s'->VR W ((bh n es).getD dv) D->K D s'):wpAny gM A (call (.builtin "dict.get") [pv,pk,y]) K E s:=by
 induction lP ah hb S hk with|mk d G t a3=>
 induction S.aU ah hb (.inl hd) hv with|mk x o kJ ep xs e N R u1 u2 u3 u4 u5 u6 u7 B u9=>
 refine call_meetsIn PySem.F.slot_dict_get B.typeIs PySem.F.entry_dict_get (PySem.F.args_dict_get_3 _ _ _) (meetsH_dict_get_default (gE gx.prog gx.w) x (c8 n) u9 y) #[tupleKind_room_in1 (by lia),_,xs,pp ah hb S d G,B,k _ _ (S.toks _) ?_];have z:=AR.atKey d u7;cases q:bh n es with
 |none=>rw[z.2 q];exact Q
 |some u=>obtain⟨p,O,q2⟩:=z.1 u q;rw[O];exact q2
def N6(ah:cb P)(hb:gx.hb.StaysIn J)(hu:A.units+300<cLine)(S:St J L m W h s){es:k16}(hd:h a=.live (.aU es))(hv:VR W (.ref a) pv)(hk:VR W (.gk n) pk)(nJ:bh n es=some u)(hl:es.length<1000)
 (k:∀y s',St J L m W (h.set a (.live (.aU (lJ n es)))) s'->VR W u y->K y s'):wpAny gM A (call (.builtin "dict.pop") [pv,pk,pd]) K E s:=by
 induction lP ah hb S hk with|mk z Q t a3=>
 induction S.aU ah hb (.inl hd) hv with|mk x o kJ ep xs d N R e B u3 u4 u5 u6 G O u9=>
 obtain⟨j,p,b1,b2,b3⟩:=AR.del G nJ;have bl:xs.length=es.length:=(be _).symm.trans G.length;refine call_meetsIn PySem.F.slot_dict_pop O.typeIs PySem.F.entry_dict_pop (PySem.F.args_dict_pop_3 _ _ _) (U2 (gE gx.prog gx.w) x (c8 n) pd) #[tupleKind_room_in1 (by lia),_,xs,j,p,pp ah hb S z Q,O,b1,by rw[bl,fk];lia,λhp D hs=> ?_];obtain⟨o',tN,xw,jp,lQ,gc,pz,_,nE⟩:=D;exact k _ _ (S.turn N R B hs jp (R.bp _ _ e) (n7 hd) #[x,o',tN,xw,_,e,iH B,#[lQ,u9],gc,pz,nE,b3]) b2
def NY(ah:cb P)(hb:gx.hb.StaysIn J)(S:St J L m W h s)(hd:h a=.live (.aU []))(hv:VR W (.ref a) pv)(k:∀s',St J L m W h s'->K .none s'):wpAny gM A (call (.builtin "dict.clear") [pv]) K E s:=by
 induction S.aU ah hb (.inl hd) hv with|mk x o O B xs d N R e u u3 u4 u5 u6 u7 u8 u9=>
 cases List.length_eq_zero_iff.mp ((be _).symm.trans u7.length);cases Array.toList_inj.mp (u5:O.toList=(#[]:Array DictEntry).toList);have ai:s.heap.DictOf (PySem.strKind gx.prog gx.w) x []:=#[o,#[],B,N.get u,u3,u4,λU he=>(by simp at he),.nil,List.nodup_nil];refine call_meetsIn PySem.F.slot_dict_clear u8.typeIs PySem.F.entry_dict_clear (PySem.F.args_dict_clear_1 _) (meets_dict_clear (PySem.strKind gx.prog gx.w) x) #[[],ai,cD _,λhp D hs=> ?_];obtain⟨o',y,G,jp,Q,gc,eH,e8,nE⟩:=D;cases Array.toList_inj.mp (List.length_eq_zero_iff.mp e8.length:y.toList=(#[]:Array DictEntry).toList);have z:=S.turn (t:=s.toks) (ob:=.aU []) N R u hs jp (R.bp _ _ e) (n7 hd) #[x,o',#[],G,[],e,iH u,#[Q,u9],gc,rfl,List.nodup_nil,rfl];have hh:h.set a (.live (.aU []))=h:=funext λb=>by
  by_cases q:b=a
  .rw[q,H.fy,hd]
  .exact H.dT _ _ q
 rw[hh]at z;exact k _ z
def Qy(e:oX u=true):u=.live (.aU []):=by
 unfold oX at e;cases q:nf u with
 |none=>rw[q]at e;cases e
 |some es=>rw[q]at e;cases cY.mp e;exact rg q
def V5(ah:cb P)(hb:gx.hb.StaysIn J)(hu:A.units+300<cLine)(S:St J L m W h s){r:V×H}(e:j7 true h a bq args=some r)(hv:VR W (.ref a) pv)(ha:aA W args sp)
 {K:k01}(k:∀pr s',St J L m W r.2 s'->VR W r.1 pr->K pr s'):wpAny gM A (call (.builtin (CM bq)) (pv::sp)) K E s:=by
 replace e:HS h a bq args=some r:=e;rcases args with _|⟨x,_|⟨d,_|⟨y,args⟩⟩⟩
 .cases(ha:sp=[]);refine dw (show(if bq=5 then(if oX (h a)then some (.none,h)else none)else none)=some r from e) λc B=>dw B λc' G=> ?_;clear e B;subst c;cases G;exact NY ah hb S (Qy c') hv λs' S'=>k _ s' S' .n
 .exact no e
 .refine ha _ ?_;rintro pk t rfl hk nI;refine nI _ ?_;rintro pd t' rfl RB ht;cases(ht:t'=[]);revert hk;refine x8 (show x.pj (λn=>if bq=4 then(t7 (h a) n d).map (vq h)else if bq=1 then(t6 (h a) n).map (oi h a)else none)=some r from e) λn B hk=> ?_;clear e;by_cases O:bq=4
  .rw[al O]at B;subst O;refine gi B λv G z=>gi G λes hd e3=> ?_;clear B G;subst z e3;exact NZ ah hb hu S (rg hd) hv hk RB k
  rw[ak O]at B;refine dw B λc1 G=>gi G λv e3 z=>gY e3 λes hd D=>dw D λhl Q=>gi Q λu nJ e6=> ?_;clear B G e3 D Q;subst c1 z e6;exact N6 ah hb hu S (rg hd) hv hk nJ hl k
 .exact no e
def V0(hb:gx.hb.StaysIn J)(S:St J L m W h s){xs:k00}(hv:VR W (.fz xs) pv)(hw:VR W (.fz []) D)(hl:xs.length<=1000)
 {K:k01}(k:∀s',St J L m W h s'->K .none s'):wpAny gM A (call (.builtin "list.extend") [pv,D]) K E s:=by
 obtain⟨x,vs,n,rfl,d,G⟩:=S.x3 hb hv;obtain⟨y,Q,u,rfl,O,P⟩:=S.x3 hb hw;cases(P:Q=[]);have hn:=G.length;refine call_meets PySem.F.slot_list_extend #[_,d,rfl] PySem.F.entry_list_extend (PySem.F.args_list_extend_2 _ _) (PySem.AutoSeq1.list_extend_list_list_0 x (List.toArray vs) n y #[] u ?_ (by simp only[fi,fk];lia) (by simp only[fi,fk];simp;lia)) #[d,O,?_]
 .simp only[Builtin.List.listTooLong,fi,fk];simp;lia
 .have z:=PySem.IsL.update d (λx=>x++#[]);have same:∀b o,s.heap.get? b=some o->(s.heap.update x (Obj.mapSeq λx=>x++#[])).get? b=some o:=λb o e=>by
   by_cases q:b=x
   .subst q;rw[z];cases d.symm.trans e;simp
   .rw[Heap.get?_update_other _ _ (Ne.symm q)];exact e
  obtain⟨B,N,R⟩:=S.nw;exact k _ (S.put (S.fr.keptAll same) (λp hp=>#[same _ _ (N p hp).1,(N p hp).2]) R)
def V2(ah:cb P)(hb:gx.hb.StaysIn J)(S:St J L m W h s)(e:h a=.live (.inst c fs))(hv:VR W (.ref a) pv)(hu:bh bq fs=some u)(y:gA bq=true)
 {Q:k34}(k:∀z s',St J L m W h s'->VR W u z->Q (z,[]) s'):wpAny gM A (getMethod pv (nm bq) pl) Q E s:=by
 induction S.inst e hv with|mk x d es n B N R h1 h2 G O h5 D=>
 have ax:=ah.attr c bq D y;refine kmu_own S.fr (ah.X.keeps hb) (InstAt.of_news N G O) ax.get ax.find ?_;exact AK ah hb S (v:=.ref a) (show aT (h a) bq=some u by rw[e];exact hu) hv y k
def V1(ah:cb P)(hb:gx.hb.StaysIn J)(S:St J L m W h s)(e:h a=.live (.inst c fs))(hv:VR W (.ref a) pv)(D:bh bq fs=none)(z:P.meths c bq=some f)
 {Q:k34}(k:Q (.ref (eG f),[pv]) s):wpAny gM A (getMethod pv (nm bq) pl) Q E s:=by
 induction S.inst e hv with|mk x d es n G N R h1 h2 O u y h6=>
 obtain⟨y1,y2,aad,B⟩:=ah.gj c bq f z;exact method_inst S.fr (ah.X.keeps hb) (InstAt.of_news N O u) y1 y2 aad (y.QG B D) k
def Yz{y:Addr}{k n:Nat}{u:Tok}{Q:Int×Int×Nat->Shared->Prop}(D:s.heap.IsSliceOf y .none (.int k u) .none)(z:k<=n)(h:Q (0,1,k) s):
 wpAny (model prog w) A (Builtin.Slice.sliceApplied (.ref y) (pure (n:Int))) Q E s:=by
 obtain⟨os,B,P,d⟩:=id D;unfold Builtin.Slice.sliceApplied Builtin.Slice.sliceFields;refine av (av (wpAny_field B d (x:=.none) rfl (av (wpAny_field B d (x:=.int k u) rfl (av (wpAny_field B d (x:=.none) rfl (aJ ?_)))))));refine av (slicePart_none ?_);show wpAny _ _ (if((1:Int)==0)=true then _ else _) _ _ s;rw[ak (by decide)];refine av (slicePart_none (av (slicePart_int (av (aJ ?_)))));show wpAny _ _ (match Builtin.Slice.sliceAdjust none (some (k:Int)) 1 (n:Int)with|(lo,O)=>pure (lo,(1:Int),Builtin.Slice.slicePlaces lo O 1)) _ _ s;obtain G:Builtin.Slice.sliceAdjust none (some (k:Int)) 1 (n:Int)=(0,(k:Int)):=by unfold Builtin.Slice.sliceAdjust;simp only[(by decide:¬((1:Int)<0)),(Int.not_lt.mpr (Int.natCast_nonneg k)),if_false];exact aq _ (Int.min_eq_left (Int.ofNat_le.mpr z))
 rw[G];show wpAny _ _ (pure ((0:Int),(1:Int),Builtin.Slice.slicePlaces 0 (k:Int) 1)) _ _ s;obtain J:Builtin.Slice.slicePlaces 0 (k:Int) 1=k:=by
  unfold Builtin.Slice.slicePlaces;rw[al (by decide),Int.ediv_one,Int.sub_zero,Int.sub_add_cancel];by_cases h:(0:Int)<k
  .rw[al h];rfl
  .rw[ak h];exact(Nat.eq_zero_of_not_pos λe=>h (Int.ofNat_lt.mpr e)).symm
 rw[J];exact aJ h
def Wn(xs:Array Value)(k:Nat):((List.range k).filterMap λ(i:Nat)=>xs[((0:Int)+(i:Int)*1).toNat]?).toArray=(xs.toList.take k).toArray:=by
 obtain e:(λ(i:Nat)=>xs[((0:Int)+(i:Int)*1).toNat]?)=λi=>xs[0+i]? :=by
  funext i;have:((0:Int)+(i:Int)*1).toNat=0+i:=by rw[Int.mul_one,Int.zero_add,Nat.zero_add];rfl
  rw[this]
 rw[e];have:=pick_run xs 0 k;rw[List.filterMap_map]at this;obtain d:((λx=>xs[x]?)∘λx=>0+x)=λi=>xs[0+i]? :=rfl;rw[d]at this;rw[this,List.drop_zero]
def QC{t D:Addr}{y:Array Value}{k:Nat}{u:Tok}{Q:k01}(z:IsTup s.heap t y)(hs:s.heap.IsSliceOf D .none (.int k u) .none)(ha:k<y.size)
 (h:Q (.ref s.heap.objs.size) {s with heap:=s.heap.push {cls:=.type "tuple",data:=.seq (y.toList.take k).toArray}})
 (rD:y.size<=sizeLine):wpAny (model prog w) A (getItem (.ref t) (.ref D)) Q E s:=by
 have d:sizeOk (.seq (y.toList.take k).toArray):=by show(y.toList.take k).toArray.size<=sizeLine;rw[fi,List.length_take,Array.length_toList];exact bk (Nat.min_le_right _ _) rD
 obtain⟨os,G,x,J⟩:=id hs;have e:s.TypeIs (.ref D) "slice":=#[os,G,x];unfold getItem;try with_reducible refine f4 ?_
 first|refine av (aJ ?_)|skip
 refine av (wpAny_sequenceKey z.typeIs (by decide) ?_);refine av (wpAny_callSpecial?_slot (name:=Str.ofString "__getitem__") z.typeIs PyProof.Rows.slot_tuple_getitem
  (wpAny_call_entry PyProof.Rows.slot_tuple_getitem z.typeIs PyProof.Rows.entry_tuple_getitem ?_ (PyProof.Rows.args_tuple_getitem _ _)))
 show wpAny _ _ (Builtin.Tuple.tupleItemsOf (.ref t) >>= _) _ _ s;refine av (tupleItemsOf_ z ?_);refine av (wpAny_typeOf e ?_);rw[al (by decide)];refine av (Yz hs (Nat.le_of_lt ha) ?_);have B:¬(((0:Int)==0&&(1:Int)==1&&k==y.size)=true):=by have:(k==y.size)=false:=beq_eq_false_iff_ne.mpr (Nat.ne_of_lt ha);rw[this];simp
 show wpAny _ _ (if((0:Int)==0&&(1:Int)==1&&k==y.size)=true then _ else _) _ _ s;rw[ak B,Wn y k];first
  |exact av (m:=Builtin.Tuple.tupleExact _) (wpAny_newObj_type (aJ #[_,rfl,aJ h]) d)
  |exact av (m:=Builtin.Tuple.tupleExact _) (wpAny_newObj_type (av (aJ (aJ #[_,rfl,aJ h]))) d)
  |exact av (av (m:=Builtin.Tuple.tupleExact _) (wpAny_newObj_type (aJ (aJ #[_,rfl,aJ h])) d))
  |exact av (av (m:=Builtin.Tuple.tupleExact _) (wpAny_newObj_type (aJ #[_,rfl,aJ h]) d))
def mm(a b:Nat):max 0 (min (a:Int) b)=((min a b:Nat):Int):=by
 rcases Nat.le_total a b with h|h
 .rw[Nat.min_eq_left h,Int.min_eq_left (Int.ofNat_le.mpr h),Int.max_eq_right (Int.natCast_nonneg _)]
 .rw[Nat.min_eq_right h,Int.min_eq_right (Int.ofNat_le.mpr h),Int.max_eq_right (Int.natCast_nonneg _)]
def St.IV(S:St J L m W h s){o o':Obj}(hd:o.isFreed=false)(u:o'.isFreed=false):∃W',W.Le W'/\W'.aI (s.heap.objs.size+1)=some o'/\St J L m W' h {s with heap:=(s.heap.push o).push o'}:=by obtain⟨d,N,R⟩:=S.nw;have e:=S.fr.push o;have x:=N.push S.fr o hd;obtain B:=e.push o';obtain G:=x.push e o' u;obtain y:s.heap.objs.size∉d.map (·.1):=gh λp hp=>Heap.lt_size (N p hp).1;obtain⟨O,k1⟩:=R.hide (o:=o) y;obtain z:(s.heap.push o).objs.size∉((s.heap.objs.size,o)::d).map (·.1):=gh λp hp=>Heap.lt_size (x p hp).1;obtain⟨P,k2⟩:=O.eo (o:=o') z;refine#[_,k1.trans k2,?_,S.put (t:=s.toks) B G P];rw[Heap.size_push];exact al rfl
def V8(hb:gx.hb.StaysIn J)(S:St J L m W h s){v vk:V}{xs:k00}{n:Int}{pv pk:Value}(y:v.rf some=some xs)(D:vk.eK some=some n)(hv:VR W v pv)(hk:VR W vk pk)(Q:0<=n)(hl:xs.length<=1000)
 {u lo:Expr}{p:Pos}{K:k01}(k:∀W' pv s',W.Le W'->St J L m W' h s'->VR W' (.fz (xs.drop n.toNat)) pv->K pv s'):
 wpAny gM A (subscriptTail u (.Slice (some lo) none none p) pv (.ref s.heap.objs.size)) K E {s with heap:=s.heap.push {cls:=.type "slice",data:=.fields #[pk,.none,.none,]}}:=by
 revert hv hk;refine Qp y λys y=>gJ D λn' D hv hk=> ?_;cases y;cases D;obtain⟨t,rfl⟩:=hk;induction S.fz hb hv with|mk x vs O B=>
 have hn:=B.length;obtain⟨n,rfl⟩:=Int.eq_ofNat_of_zero_le Q;have d:(s.heap.push {cls:=.type "slice",data:=.fields #[.int (n:Int) t,.none,.none,]}).IsList x (List.toArray vs):=O.push _;refine tail_any (s:={s with heap:=s.heap.push {cls:=.type "slice",data:=.fields #[.int (n:Int) t,.none,.none,]}}) d.typeIs list_getitem_lookup
  (wpAny_getItem_list_slice (lo:=some (n:Int)) (hi:=none) d (Heap.IsSliceOf.new ..) (.int (n:Int) t) .none .none (by simp) ?_ (by simp only[fi,fk];lia)) rfl
 have e:slicePick (List.toArray vs) (some (n:Int)) none none=List.toArray (vs.drop n):=by
  have e:sliceBounds (some (n:Int)) none none (List.toArray vs).size=(((min n vs.length:Nat):Int),((vs.length:Nat):Int),1):=by simp only[sliceBounds,Option.getD_none,show(1:Int)>0 by decide,if_true,ak (Int.not_lt.mpr Q),fi];exact aq (·,_) (mm n vs.length)
  rw[kmk_pick_nat _ e];congr 1;show List.take (vs.length-min n vs.length) (List.drop (min n vs.length) vs)=_;rw[kmk_drop_min,List.take_of_length_le];rw[List.length_drop];exact Nat.sub_le_sub_left (Nat.min_le_left ..) _
 rw[e];obtain⟨W',le,P,G⟩:=S.IV (o:={cls:=.type "slice",data:=.fields #[.int (n:Int) t,.none,.none,]}) (o':=listOf (List.toArray (vs.drop n)) 0) rfl rfl;rw[Heap.size_push];refine k W' _ _ le G ?_;exactλU z=>z _ _ 0 rfl (.inl P) ((B.drop _).mono le)
def Wa(hb:gx.hb.StaysIn J)(S:St J L m W h s){v:V}{xs:k00}(u:v.mw some=some xs)(hv:VR W v pv)(D:j<xs.length)(Q:xs.length<=1000)
 {K:k01}(k:∀W' pv s',W.Le W'->St J L m W' h s'->VR W' (.tup (xs.take j)) pv->K pv s'):
 wpAny gM A (subscriptTail y (.Slice none (some up) none p) pv (.ref s.heap.objs.size)) K E {s with heap:=s.heap.push {cls:=.type "slice",data:=.fields #[.none,.int j t,.none,]}}:=by
 revert hv;refine Bv u λys u hv=> ?_;cases u;obtain⟨x,vs,rfl,O,B⟩:=S.tup hb hv;have hn:=B.length;have d:IsTup (s.heap.push {cls:=.type "slice",data:=.fields #[.none,.int j t,.none,]}) x (List.toArray vs):=O.keeps λU U e=>f2 _ e;refine tail_any (s:={s with heap:=s.heap.push {cls:=.type "slice",data:=.fields #[.none,.int j t,.none,]}}) d.typeIs PyProof.Rows.slot_tuple_getitem.lookup
  (QC (k:=j) d (Heap.IsSliceOf.new ..) (by simp only[fi];lia) ?_ (by simp only[fi,fk];lia)) rfl
 obtain⟨W',le,P,G⟩:=S.IV (o:={cls:=.type "slice",data:=.fields #[.none,.int j t,.none,]}) (o':={cls:=.type "tuple",data:=.seq (List.toArray (vs.take j))}) rfl rfl;rw[Heap.size_push];refine k W' _ _ le G ?_;exactλU z=>z _ _ _ 0 rfl (.inl P) rfl rfl ((B.take _).mono le)
def It{af:Type}{o:Option af}{k:af->Prop}:ay o k↔∃a,o=some a/\k a:=by
 cases o with
 |none=>exact#[λh=>h.elim,λ#[_,e,_]=>by cases e]
 |some a=>exact#[λh=>#[a,rfl,h],λ#[_,e,h]=>by cases e;exact h]
def EV(P:Y)(O:Fn)(A:Around)(J:Heap)(L:Addr)(m:k03)(RX:ag)(env:Env)(G:Ka)(e:Internal.E)(pe:Expr):Prop:=
 ∀W h s l Q X,Lo L m env G W l->St J L m W h s->au P O G e false l h Q X->wpAny gM A (eval pe env) (dB J L m W Q) (bz RX W X) s
def ET(P:Y)(O:Fn)(A:Around)(J:Heap)(L:Addr)(m:k03)(RX:ag)(env:Env)(G:Ka)(e:Internal.E)(pe:Expr):Prop:=
 ∀W h s l Q X,Lo L m env G W l->St J L m W h s->au P O G e true l h Q X->wpAny gM A (isTrue pe env (eval pe env)) (ku J L m W Q) (bz RX W X) s
def i5(P:Y)(O:Fn)(A:Around)(J:Heap)(L:Addr)(m:k03)(RX:ag)(env:Env)(G:Ka)(es:Es)(u:k18):Prop:=
 ∀d W h s l Q X,Lo L m env G W l->St J L m W h s->cM P O G es l h Q X->wpAny gM A (spliced (backTo d (starEach u env))) (td J L m W Q) (bz RX W X) s
structure EG(P:Y)(O:Fn)(A:Around)(J:Heap)(L:Addr)(m:k03)(RX:ag)(env:Env)(G:Ka)(e:Internal.E)(pe:Expr):Prop where
 v:EV P O A J L m RX env G e pe
 t:ET P O A J L m RX env G e pe
def EV.step(v:EV P O A J L m RX env G e pe)(aa:Lo L m env G W l)(S:St J L m W h s){R X:QV}(hw:au P O G e false l h R X){K:k01}
 (k:∀W' h' s' u y,W.Le W'->St J L m W' h' s'->VR W' u y->R u h'->K y s'):wpAny gM A (eval pe env) K (bz RX W X) s:=
 bj (v _ _ _ _ _ _ aa S hw) (λpv s' z=>z _ λU U U d x B D=>k _ _ _ _ _ d x B D) λU U q=>q
def ET.step(v:ET P O A J L m RX env G e pe)(aa:Lo L m env G W l)(S:St J L m W h s){R X:QV}(hw:au P O G e true l h R X){K:k29}
 (k:∀W' h' s' b,W.Le W'->St J L m W' h' s'->R (.bool b) h'->K b s'):wpAny gM A (isTrue pe env (eval pe env)) K (bz RX W X) s:=
 bj (v _ _ _ _ _ _ aa S hw) (λb s' z=>z _ λU U d x B=>k _ _ _ _ d x B) λU U q=>q
def i5.step(v:i5 P O A J L m RX env G es y)(aa:Lo L m env G W l)(S:St J L m W h s){R:k21}(hw:cM P O G es l h R X){K:List Value->Shared->Prop}
 (k:∀W' h' s' us u,W.Le W'->St J L m W' h' s'->aA W' us u->R us h'->K u s'):wpAny gM A (spliced (backTo pos (starEach y env))) K (bz RX W X) s:=
 bj (v _ _ _ _ _ _ _ aa S hw) (λpv s' z=>z _ λU U U d e x B=>k _ _ _ _ _ d e x B) λU U q=>q
def EG.di(F:Fx P O A J L m RX){pe:Expr}(v:EV P O A J L m RX env G e pe)(hw:∀l h Q X,au P O G e true l h Q X->au P O G e false l h (tq true Q) X)
 (hp:isTrue pe env (eval pe env)=(do let v←eval pe env;standAt pe.pos;holding [v] (PySem.truthy v))):EG P O A J L m RX env G e pe:=
 #[v,λW h s l Q X aa S q=>isTrue_plain (v.step aa S (hw _ _ _ _ q) λW' h' s' u y le d B r=>by
  exact bo r λb e q=>vj F.hb d e B λD x=>λU z=>z W' h' le x q) hp]
def EV.done(k:∀W h s l Q,Lo L m env G W l->St J L m W h s->∀X,au P O G e false l h Q X->∀E,wpAny gM A (eval pe env) (dB J L m W Q) E s):EV P O A J L m RX env G e pe:=
 λW h s l Q X aa S q=>k W h s l Q aa S X q _
def dB.now(S:St J L m W h s)(hv:VR W v pv)(q:tq false Q v h):dB J L m W Q pv s:=λU z=>z W h v (.refl W) S hv q
def dB.at(le:W.Le W')(S:St J L m W' h' s)(hv:VR W' v pv)(q:tq false Q v h'):dB J L m W Q pv s:=λU z=>z W' h' v le S hv q
def OQ(F:Fx P O A J L m RX):EG P O A J L m RX env G .none (.Constant .none k p):=
 .di F (.done λW h s l Q aa S X q E=>by
  exact Constant_none (.now S .n q)) (λl h Q X q=>q) rfl
def Eo(F:Fx P O A J L m RX):EG P O A J L m RX env G (if b then .tt else .ff) (.Constant (.bool b) k p):=by
 cases b with
 |true=>exact .di F (.done λW h s l Q aa S X q E=>by
  exact Constant_bool (.now S .b q)) (λl h Q X q=>q) rfl
 |false=>exact .di F (.done λW h s l Q aa S X q E=>by
  exact Constant_bool (.now S .b q)) (λl h Q X q=>q) rfl
def OH(F:Fx P O A J L m RX):EG P O A J L m RX env G (.int i) (.Constant (.int i) k p):=
 .di F (.done λW h s l Q aa S X q E=>by
  exact wpAny_Constant_int (.now (S.toks _) .i q)) (λl h Q X q=>q) rfl
def OP(F:Fx P O A J L m RX):EG P O A J L m RX env G (.int (-j)) (.UnaryOp .USub (.Constant (.int j) k p) p'):=
 .di F (.done λW h s l Q aa S X q E=>by
  exact UnaryOp_ (wpAny_Constant_int (PyProof.Rows.neg_int (.now ((S.toks _).toks _) .i q)))) (λl h Q X q=>q) rfl
def OY(F:Fx P O A J L m RX)(u:n<aW):EG P O A J L m RX env G (.str n) (.Constant (.str (nm n)) k p):=
 .di F (.done λW h s l Q aa S X q E=>by
  exact wpAny_Constant_str (.now (S.toks _) (.sv u) q)) (λl h Q X q=>q) rfl
def OL(F:Fx P O A J L m RX)(e:bR env.scope x n cz=true):EG P O A J L m RX env G (.loc x) (.Name n p):=
 .di F (.done λW h s l Q aa S X q E=>by
  exact bo q λv hv q=>Ow S aa e hv λpv d=>.now S d q) (λl h Q X q=>q) rfl
def OC(F:Fx P O A J L m RX)(e:bR env.scope x n pG=true):EG P O A J L m RX env G (.cf x) (.Name n p):=
 .di F (.done λW h s l Q aa S X q E=>by
  exact bo q λa u q=>bo q λv hv q=>gY hv λo d B=>Ou S aa e u ((C8 d).trans (aq (λo=>Slot.live (.cell o)) B)) λpv y=>.now S y q) (λl h Q X q=>q) rfl
def OG(F:Fx P O A J L m RX)(e:bR env.scope x n uJ=true):EG P O A J L m RX env G (.ba x) (.Name n p):=
 .di F (.done λW h s l Q aa S X q E=>by
  exact bo q λv hv q=>Ov F.ah F.hb S aa e hv λpv d=>.now S d q) (λl h Q X q=>q) rfl
def CI{o:Expr}{n:Str}{w:Sem Value}(e:og o=true):attributeBase o n env w=w:=by cases o<;>first|rfl|cases e
def Oz(F:Fx P O A J L m RX){p:Pos}{e:Internal.E}{v:Expr}{f:Nat}(hf:gA f=true)(hc:og v=true)(ae:EG P O A J L m RX env G e v):EG P O A J L m RX env G (.attr e f) (.Attribute v (nm f) p):=by
 refine .di F (λW h s l Q X aa S q=> ?_) (λl h Q X q=>q) rfl;refine Attribute_any_ (ae.v.step aa S q λW' h' s' u D le d y r=> ?_) (by
  show(do
   let o←attributeBase v (nm f) env (eval v env)
   standAt p.atName
   let r←holding [o] (getAttr o (nm f) true)
   letTemporaryGo v o r
   pure r)=_
  rw[CI hc])
 exact bo r λx z r=>AK F.ah F.hb d z y hf λpx kc B hp=>.at le B hp r
def OJ(F:Fx P O A J L m RX)(hk:pT k=true)(ae:EG P O A J L m RX env G e v)(aH:EG P O A J L m RX env G i k):EG P O A J L m RX env G (.item e i) (.Subscript v k p):=by refine .di F (λW h s l Q X aa S q=> ?_) (λl h Q X q=>q) rfl;refine Subscript_ (ae.v.step aa S q λW' h' s' u pu le B hu r=>eB le (aH.v.step (aa.mono le) B r λW2 h2 s2 u2 ka d z eJ r2=> ?_));refine bo r2 λx hx r=> ?_;refine(Iy F.ah F.hb F.units z (A:=A) (E:=bz RX W X) hx (hu.mono d) eJ (Q:=dB J L m W Q) λpx kc y hp=>.at (le.trans d) y hp r) _ λT id D hl hg=> ?_;exact Y5 D hl hg (YT hk)
def OV(F:Fx P O A J L m RX){p p':Pos}{e i:Internal.E}{v k:Expr}(ae:EG P O A J L m RX env G e v)(aH:EG P O A J L m RX env G i k):EG P O A J L m RX env G (.oq e i) (.Subscript v (.Slice (some k) none none p') p):=by refine .di F (λW h s l Q X aa S q=> ?_) (λl h Q X q=>q) rfl;refine Subscript_ (ae.v.step aa S q λW' h' s' u pu le B hu r=>wpAny_Slice ?_);rw[evalPart_some,evalPart_none];refine eB le (aH.v.step (aa.mono le) B r λW2 h2 s2 u2 ka x y eJ d=>aJ (aJ ?_));exact bo d λxs D d=>bo d λn e2 d=>V8 F.hb y D e2 (hu.mono x) eJ d.1.1 d.1.2 λW3 pv s3 c9 z hv=>.at ((le.trans x).trans c9) z hv d.2
def OX(F:Fx P O A J L m RX)(ae:EG P O A J L m RX env G e v):EG P O A J L m RX env G (.qk e k) (.Subscript v (.Slice none (some (.Constant (.int k) kd pc)) none p') p):=by refine .di F (λW h s l Q X aa S q=> ?_) (λl h Q X q=>q) rfl;refine Subscript_ (ae.v.step aa S q λW' h' s' u pu le d y r=>wpAny_Slice ?_);rw[evalPart_some,evalPart_none];refine aJ (wpAny_Constant_int (aJ ?_));exact bo r λxs B r=>Wa F.hb (d.toks _) B y r.1.2.1 r.1.2.2 λD pv s3 z x hv=>.at (le.trans z) x hv r.2
def Jr{a b:CmpOp}(e:Jq a b=true):a=b:=aP e
def XT{a b:Operator}(e:sz a b=true):a=b:=aP e
def OD(F:Fx P O A J L m RX){p:Pos}{a b:Internal.E}{x y:Expr}{op:mD}(hm:behindInMarks (o0 op) y=false)(ae:EG P O A J L m RX env G a x)(aH:EG P O A J L m RX env G b y):
 EG P O A J L m RX env G (.cmp op a b) (.Compare x [o0 op] [y] p):=by
 refine#[λW h s l Q X aa S q=> ?_,λW h s l Q X aa S q=> ?_]
 .refine wpAny_Compare1 (ae.v.step aa S q λW' h' s' u pu le e hu r=>eB le (aH.v.step (aa.mono le) e r λW2 h2 s2 u2 ka d B eJ r2=> ?_)) hm;exact bo r2 λc hc r=>Iw F.ah F.hb F.units B hc (hu.mono d) eJ λs3 D=>.at (le.trans d) D .b r
 .refine wpAny_isTrue_Compare1 (ae.v.step aa S q λW' h' s' u pu le e hu r=>eB le (aH.v.step (aa.mono le) e r λW2 h2 s2 u2 ka d B eJ r2=> ?_)) hm;exact bo r2 λc hc r=>Iw F.ah F.hb F.units B hc (hu.mono d) eJ λs3 D=>wpAny_truthy_bool (λU z=>z W2 h2 (le.trans d) D r)
def En(F:Fx P O A J L m RX){p:Pos}{a b:Internal.E}{x y:Expr}{r:k18}(ae:EG P O A J L m RX env G a x)(aH:EV P O A J L m RX env G b (.BoolOp .And (y::r) p))
 (D:∀W h s l Q X,Lo L m env G W l->St J L m W h s->au P O G b true l h Q X->wpAny gM A (allTrue .And (y::r) env) (ku J L m W Q) (bz RX W X) s):
 EG P O A J L m RX env G (.mT a b) (.BoolOp .And (x::y::r) p):=by
 refine#[λW h s l Q X aa S q=> ?_,λW h s l Q X aa S q=> ?_]
 .refine BoolOp_and (ae.v.step aa S q λW' h' s' u pu le d B w=> ?_);refine bo w λc hc w=>vj F.hb d hc B λkc e=> ?_;induction c using Bool.casesOn with
  |true=>exact eB le (aH.step (aa.mono le) e w λW2 h2 s2 u2 ka bK S2 eJ r2=>λU z=>z W2 h2 u2 (le.trans bK) S2 eJ r2)
  |false=>exactλU z=>z W' h' u le e B w
 .refine wpAny_isTrue_BoolOp (wpAny_allTrue_And_cons (ae.t.step aa S q λW' h' s' c le d w=> ?_));induction c using Bool.casesOn with
  |true=>exact eB le (bj (D _ _ _ _ _ _ (aa.mono le) d w) (λU U z=>z.le le) λU U z=>z)
  |false=>exactλU z=>z W' h' le d w
def Ep(F:Fx P O A J L m RX){p:Pos}{a b:Internal.E}{x y:Expr}{r:k18}(ae:EG P O A J L m RX env G a x)(aH:EV P O A J L m RX env G b (.BoolOp .Or (y::r) p))
 (D:∀W h s l Q X,Lo L m env G W l->St J L m W h s->au P O G b true l h Q X->wpAny gM A (allTrue .Or (y::r) env) (ku J L m W Q) (bz RX W X) s):
 EG P O A J L m RX env G (.eP a b) (.BoolOp .Or (x::y::r) p):=by
 refine#[λW h s l Q X aa S q=> ?_,λW h s l Q X aa S q=> ?_]
 .refine BoolOp_or (ae.v.step aa S q λW' h' s' u pu le d B w=> ?_);refine bo w λc hc w=>vj F.hb d hc B λkc e=> ?_;induction c using Bool.casesOn with
  |false=>exact eB le (aH.step (aa.mono le) e w λW2 h2 s2 u2 ka bK S2 eJ r2=>λU z=>z W2 h2 u2 (le.trans bK) S2 eJ r2)
  |true=>exactλU z=>z W' h' u le e B w
 .refine wpAny_isTrue_BoolOp (wpAny_allTrue_Or_cons (ae.t.step aa S q λW' h' s' c le d w=> ?_));induction c using Bool.casesOn with
  |false=>exact eB le (bj (D _ _ _ _ _ _ (aa.mono le) d w) (λU U z=>z.le le) λU U z=>z)
  |true=>exactλU z=>z W' h' le d w
def No(aH:EG P O A J L m RX env G b y):∀W h s l Q X,Lo L m env G W l->St J L m W h s->au P O G b true l h Q X->wpAny gM A (allTrue .And [y] env) (ku J L m W Q) (bz RX W X) s:=
 λW h s l Q X aa S q=>wpAny_allTrue_And_cons (aH.t.step aa S q λW' h' s' c le d w=>by
  induction c using Bool.casesOn with
  |true=>exact wpAny_allTrue_And_nil (λU z=>z W' h' le d w)
  |false=>exactλU z=>z W' h' le d w)
def Np(aH:EG P O A J L m RX env G b y):∀W h s l Q X,Lo L m env G W l->St J L m W h s->au P O G b true l h Q X->wpAny gM A (allTrue .Or [y] env) (ku J L m W Q) (bz RX W X) s:=
 λW h s l Q X aa S q=>wpAny_allTrue_Or_cons (aH.t.step aa S q λW' h' s' c le d w=>by
  induction c using Bool.casesOn with
  |true=>exactλU z=>z W' h' le d w
  |false=>exact wpAny_allTrue_Or_nil (λU z=>z W' h' le d w))
def Iu(aH:EG P O A J L m RX env G b y):EV P O A J L m RX env G b (.BoolOp op [y] p):=λW h s l Q X aa S q=>BoolOp_one (aH.v W h s l Q X aa S q)
def C5(aH:EG P O A J L m RX env G b (.BoolOp u y p)):∀W h s l Q X,Lo L m env G W l->St J L m W h s->au P O G b true l h Q X->wpAny gM A (allTrue u y env) (ku J L m W Q) (bz RX W X) s:=
 λW h s l Q X aa S q=>aH.t W h s l Q X aa S q
def OS(F:Fx P O A J L m RX){p:Pos}{a:Internal.E}{x:Expr}(ae:EG P O A J L m RX env G a x):EG P O A J L m RX env G (.not a) (.UnaryOp .Not x p):=by
 have low:∀{l h Q X},au P O G a true l h Q X->au P O G a true l h Q X:=λq=>q;refine#[λW h s l Q X aa S q=> ?_,λW h s l Q X aa S q=> ?_]
 .refine UnaryOp_ (ae.v.step aa S q λW' h' s' u D le d y w=> ?_);exact bo w λc B w=>not_of (vj F.hb d B y λkc e=>.at le e .b w)
 .refine isTrue_not (ae.t.step aa S q λW' h' s' c le d w=> ?_);exactλU z=>z W' h' le d w
def OA(F:Fx P O A J L m RX){p:Pos}{a b:Internal.E}{x y:Expr}{z:eS}(ae:EG P O A J L m RX env G a x)(aH:EG P O A J L m RX env G b y):
 EG P O A J L m RX env G (.bin z a b) (.BinOp x (kE z) y p):=by
 refine .di F (λW h s l Q X aa S q=> ?_) (λl h Q X q=>q) rfl;refine wpAny_BinOp (ae.v.step aa S q λW' h' s' u pu le e hu r=>eB le (aH.v.step (aa.mono le) e r λW2 h2 s2 u2 ka d B eJ r2=> ?_));exact bo r2 λc hc r=>(AJ hc B (hu.mono d) eJ λpx s3 D hp=>.at (le.trans d) D hp r).1
def OI(F:Fx P O A J L m RX){p:Pos}{c a b:Internal.E}{z x y:Expr}(C:EG P O A J L m RX env G c z)(ae:EG P O A J L m RX env G a x)(aH:EG P O A J L m RX env G b y):
 EG P O A J L m RX env G (.ite c a b) (.IfExp z x y p):=by
 let _:=F;refine#[λW h s l Q X aa S q=> ?_,λW h s l Q X aa S q=> ?_]
 .refine IfExp_ (C.t.step aa S q λW' h' s' c le S' w=> ?_);induction c using Bool.casesOn with
  |true=>exact eB le (ae.v.step (aa.mono le) S' w λe B s2 u2 ka u d eJ D=>λU z=>z e B u2 (le.trans u) d eJ D)
  |false=>exact eB le (aH.v.step (aa.mono le) S' w λe B s2 u2 ka u d eJ D=>λU z=>z e B u2 (le.trans u) d eJ D)
 .refine isTrue_IfExp (C.t.step aa S q λW' h' s' c le S' w=> ?_);induction c using Bool.casesOn with
  |true=>exact eB le (ae.t.step (aa.mono le) S' w λe B s2 b u d D=>λU z=>z e B (le.trans u) d D)
  |false=>exact eB le (aH.t.step (aa.mono le) S' w λe B s2 b u d D=>λU z=>z e B (le.trans u) d D)
def OM(F:Fx P O A J L m RX){p:Pos}{z:Bool}{xs:Es}{es:k18}(ae:i5 P O A J L m RX env G xs es):EG P O A J L m RX env G (.lst z xs) (.List es p):=by refine .di F (λW h s l Q X aa S q=> ?_) (λl h Q X q=>q) rfl;refine List_ (ae.step aa S q λW' h' s' u x le d e r=> ?_);exact IA d e r λpv B w=>w.le le
def OZ(F:Fx P O A J L m RX){p:Pos}{u:Nat}{xs:Es}{es:k18}(ae:i5 P O A J L m RX env G xs es):EG P O A J L m RX env G (.tup xs) (.Tuple es u p):=by refine .di F (λW h s l Q X aa S q=> ?_) (λl h Q X q=>q) rfl;refine Tuple_ (ae.step aa S q λW' h' s' us z le d x r=> ?_);exact II d x r.1 λy pv D B e hv=>.at (le.trans B) e hv r.2
def fT(h:cT e=true):starEach (e::r) env=(false,eval e env)::starEach r env:=by cases e<;>first|rfl|cases h
def Aq(e:Expr):Bool:=e.ctorIdx != 7
def fH(pe:Expr):Prop:=cT pe=true/\Aq pe=true
def gN{pe:Expr}{n:Nat}{a:pe.ctorIdx=n->Bool}(h:(if c:pe.ctorIdx=n then a c else false)=true)(u:(n != 22)=true/\(n != 7)=true):fH pe:=(dt h).elim λc U=>#[(aq (· != 22) c).trans u.1,(aq (· != 7) c).trans u.2]
variable{pe:Expr}
def IQ{k}(h:xC k pe=true):fH pe:=gN h #[rfl,rfl]
def WA{k}(h:xN k pe=true):fH pe:=gN h #[rfl,rfl]
def Ws{k}(h:xA k pe=true):fH pe:=gN h #[rfl,rfl]
def WE{k}(h:xS k pe=true):fH pe:=gN h #[rfl,rfl]
def WC{k}(h:xP k pe=true):fH pe:=gN h #[rfl,rfl]
def WB{k}(h:xO k pe=true):fH pe:=gN h #[rfl,rfl]
def IS{k}(h:xU k pe=true):fH pe:=gN h #[rfl,rfl]
def Wt{k}(h:xB k pe=true):fH pe:=gN h #[rfl,rfl]
def Ww{k}(h:xI k pe=true):fH pe:=gN h #[rfl,rfl]
def Wy{k}(h:xL k pe=true):fH pe:=gN h #[rfl,rfl]
def Wz{k}(h:xM k pe=true):fH pe:=gN h #[rfl,rfl]
def Wu{k}(h:xD k pe=true):fH pe:=gN h #[rfl,rfl]
def Wv{k}(h:xG k pe=true):fH pe:=gN h #[rfl,rfl]
def Wx{k}(h:xK k pe=true):fH pe:=gN h #[rfl,rfl]
def Ih(h:aM sc e pe=true):fH pe:=by
 revert h;cases e with
 |none|tt|ff|str=>exact IQ
 |int=>exactλh=>((Bool.or_eq_true _ _).mp h).elim IQ IS
 |loc|cf|ba=>exact WA
 |attr=>exact Ws
 |item|oq|qk=>exact WE
 |cmp=>exact WC
 |mT|eP=>exact WB
 |not=>exact IS
 |bin|rep=>exact Wt
 |ite=>exact Ww
 |lst=>exact Wy
 |tup=>exact Wz
 |kI|dp=>exact Wu
 |comp=>exact Wv
 |call|gj|len|max|sorted=>exact Wx
def j9(h:aM sc e pe=true):cT pe=true:=(Ih h).1
def Pk:i5 P O A J L m RX env G .nil []:=λd W h s l Q X aa S q=>by exact Calls.spliced_nil (λU z=>z W h [] (.refl W) S aA.z q)
def Pj(hs:cT pe=true)(ae:EG P O A J L m RX env G e pe)(aH:i5 P O A J L m RX env G r t):i5 P O A J L m RX env G (.cons e r) (pe::t):=λd W h s l Q X aa S q=>by rw[fT hs];show wpAny _ _ (spliced ((false,eval pe env)::backTo d (starEach t env))) _ _ _;refine Calls.spliced_cons (ae.v.step aa S q λW' h' s' u pu le B hu r=>eB le (aH.step (aa.mono le) B r λD h2 s2 us ie x y gg r2=> ?_));exactλU z=>z D h2 _ (le.trans x) y (.c (hu.mono x) gg) r2
def oU(es:k18):Prop:=∀e∈es,cT e=true
def Bj:∀{es:k18},oU es->(backTo pos (starEach es env)).any (·.1)=false
 |[],_=>rfl
 |e::r,h=>by rw[fT (h e (.head _))];show(false||(backTo pos (starEach r env)).any (·.1))=false;rw[Bj λe d=>h e (.tail _ d)];rfl
def Ay:∀{es:Es} {u:k18},ic sc es u=true->oU u
 |.nil,u,h=>by cases iJ h;exactλU h=>nomatch h
 |.cons _ _,[],h=>aQ h
 |.cons e r,x::t,h=>λy d=>by
  rcases b8.mp d with rfl|d
  .exact j9 (an h).1
  .exact Ay (an h).2 y d
def Ii(h:ic sc as es=true):es=[]->as=.nil:=by
 rintro rfl;cases as with
 |nil=>rfl
 |cons=>exact aQ h
def El(hp:oU es)(y:es=[]->as=.nil)(ae:i5 P O A J L m RX env G as es)(aa:Lo L m env G W l)(S:St J L m W h s){R:k21}(hw:cM P O G as l h R X){K:k01}
 (k:∀W' h' s' us u,W.Le W'->St J L m W' h' s'->aA W' us u->R us h'->fF gM f s'.heap/\wpAny gM A (PySem.call f (first++u) []) K (bz RX W X) s'):
 wpAny gM A (callWith pos f first (backTo D (starEach es env)) []) K (bz RX W X) s:=by
 refine callWith_of (P:=fF gM f) (by rw[Bj hp];rfl) (λU x=>x) ?_;cases es with
 |nil=>refine evalArgs_nil3 ?_;obtain rfl:=y rfl;exact k W h s [] [] (.refl W) S .z hw
 |cons e r=>obtain d:=fT (env:=env) (r:=r) (hp e (.head _));have z:=ae.step (pos:=D) aa S hw k;rw[d]at z⊢;exact Calls.evalArgs_plain z
def Call_{Q:k01}(e:pS u=true)
 (h:wpAny M A (eval u env) (λf cj=>wpAny M A (callWith pos f [] (backTo pos (starEach args env)) []) Q E cj) E s):wpAny M A (eval (.Call u args [] pos) env) Q E s:=by
 obtain d:eval (.Call u args [] pos) env=(do callWith pos (←eval u env) [] (backTo pos (starEach args env)) (backToKw pos (keywordEach [] env))):=by cases u<;>first|rfl|cases e
 rw[d];exact av h
def OB(F:Fx P O A J L m RX)(hf:pS y=true)(hp:oU es)(D:es=[]->as=.nil)(ae:EG P O A J L m RX env G f y)(aH:i5 P O A J L m RX env G as es):
 EG P O A J L m RX env G (.call f as) (.Call y es [] p):=by
 refine .di F (λW h s l Q X aa S q=> ?_) (λl h Q X q=>q) rfl;refine Call_ hf (ae.v.step aa S q λW' h' s' u pu le e B r=>eB le (El hp D aH (aa.mono le) e r λW2 h2 s2 us ie d x gg r2=> ?_));obtain⟨k1,k2⟩:=F.call _ _ _ _ _ _ _ _ _ x (B.mono d) gg r2;exact#[k1,bj k2 (λpv s3 z=>z.le (le.trans d)) λU U z=>z.le d]
def pK{M:Model}{id:String}{hp:Heap}:fF M (.builtin id) hp:=#[.machine,.inr (.inl rfl),Looks.of_pure rfl]
def xr(F:Fx P O A J L m RX){n:String}{p:Pos}{z x:Expr}{a:Internal.E}(hf:pS z=true)(D:cT x=true)(hb:ib env.scope n z=true)(hn:nsIn gx.K mainGlobals (Str.ofString n)=some none)
 {v:Value}(hv:bootBuiltins (Str.ofString n)=some v)(Q:Str.ofString n≠"__name__")(h2:(Str.ofString n==("__debug__":Str))=false)(hk:∀hp,fF gM v hp)
 (ae:EG P O A J L m RX env G a x)(aa:Lo L m env G W l)(S:St J L m W h s){R X:QV}(hw:au P O G a false l h R X){K:k01}
 (k:∀W' h' s' u y,W.Le W'->St J L m W' h' s'->VR W' u y->R u h'->wpAny gM A (PySem.call v [y] []) K (bz RX W X) s'):
 wpAny gM A (eval (.Call z [x] [] p) env) K (bz RX W X) s:=by
 refine Call_ hf (Ek F.ah F.hb S aa hb hn hv Q h2 ?_);refine callWith_of (P:=fF gM v) (by rw[fT D];rfl) (λU x=>x) ?_;rw[fT D];exact Calls.evalArgs_plain (Calls.spliced_cons (ae.v.step aa S hw λW' h' s' u y le d e r=>Calls.spliced_nil #[hk _,k W' h' s' u y le d e r]))
def Ot(F:Fx P O A J L m RX){n:String}{p:Pos}{D x y:Expr}{a b:Internal.E}(hf:pS D=true)(hs:cT x=true)(jZ:cT y=true)(hb:ib env.scope n D=true)(hn:nsIn gx.K mainGlobals (Str.ofString n)=some none)
 {v:Value}(hv:bootBuiltins (Str.ofString n)=some v)(h1:Str.ofString n≠"__name__")(Q:(Str.ofString n==("__debug__":Str))=false)(hk:∀hp,fF gM v hp)
 (ae:EG P O A J L m RX env G a x)(aH:EG P O A J L m RX env G b y)(aa:Lo L m env G W l)(S:St J L m W h s){R:V->V->H->Prop}{X:QV}(hw:au P O G a false l h (λu h=>au P O G b false l h (λv h=>R u v h) X) X){K:k01}
 (k:∀W' h' s' u z v' pv,W.Le W'->St J L m W' h' s'->VR W' u z->VR W' v' pv->R u v' h'->wpAny gM A (PySem.call v [z,pv] []) K (bz RX W X) s'):
 wpAny gM A (eval (.Call D [x,y] [] p) env) K (bz RX W X) s:=by
 refine Call_ hf (Ek F.ah F.hb S aa hb hn hv h1 Q ?_);refine callWith_of (P:=fF gM v) (by rw[fT hs,fT jZ];rfl) (λU x=>x) ?_;rw[fT hs,fT jZ];exact Calls.evalArgs_plain (Calls.spliced_cons (ae.v.step aa S hw λW' h' s' u z le e hu r=>Calls.spliced_cons (eB le (aH.v.step (aa.mono le) e r λW2 Q s2 u2 ka d B eJ r2=>Calls.spliced_nil #[hk _,k W2 Q s2 u z u2 ka (le.trans d) B (hu.mono d) eJ r2]))))
structure fW:Prop where
 len:nsIn gx.K mainGlobals (Str.ofString "len")=some none
 max:nsIn gx.K mainGlobals (Str.ofString "max")=some none
 sorted:nsIn gx.K mainGlobals (Str.ofString "sorted")=some none
 range:nsIn gx.K mainGlobals (Str.ofString "range")=some none
def vh(h:ib sc n f=true):pS f=true:=by cases f<;>first|rfl|exact aQ h
def OK(F:Fx P O A J L m RX)(B:fW)(D:cT x=true)(hb:ib env.scope "len" z=true)(ae:EG P O A J L m RX env G e x):
 EG P O A J L m RX env G (.len e) (.Call z [x] [] p):=by
 refine .di F (λW h s l Q X aa S q=> ?_) (λl h Q X q=>q) rfl;refine xr F (vh hb) D hb B.len (v:=.builtin "len") (by rfl) (by decide) (by decide) (λU=>pK) ae aa S q λW' h' s' u pu le d hu r=> ?_;exact bo r λxs hx r=>V3 F.hb d hx r.1 hu λt s3 y=>.at le y .i r.2
def ON(F:Fx P O A J L m RX)(B:fW){p:Pos}{a b:Internal.E}{z x y:Expr}(hs:cT x=true)(jZ:cT y=true)(hb:ib env.scope "max" z=true)(ae:EG P O A J L m RX env G a x)(aH:EG P O A J L m RX env G b y):
 EG P O A J L m RX env G (.max a b) (.Call z [x,y] [] p):=by
 refine .di F (λW h s l Q X aa S q=> ?_) (λl h Q X q=>q) rfl;refine Ot F (vh hb) hs jZ hb B.max (v:=.builtin "max") (by rfl) (by decide) (by decide) (λU=>pK) ae aH aa S q λW' h' s' u pu v' pv le d hu hv r=> ?_;exact bo r λi D r=>V4 F.handled d D hu hv λt s3 e=>.at le e .i r
def OW(F:Fx P O A J L m RX)(B:fW)(D:cT x=true)(hb:ib env.scope "sorted" z=true)(ae:EG P O A J L m RX env G e x):
 EG P O A J L m RX env G (.sorted e) (.Call z [x] [] p):=by
 refine .di F (λW h s l Q X aa S q=> ?_) (λl h Q X q=>q) rfl;refine xr F (vh hb) D hb B.sorted (v:=.builtin "sorted") (by rfl) (by decide) (by decide) (λU=>pK) ae aa S q λW' h' s' u pu le d hu r=> ?_;exact bo r λxs hx r=>V9 F.ah F.handled F.hb d hx hu λW3 pv s3 c9 y hv=>.at (le.trans c9) y hv r
def OT(F:Fx P O A J L m RX)(hs:cT ex=true)(ae:EG P O A J L m RX env G x ex)(aH:EG P O A J L m RX env G n k):
 EG P O A J L m RX env G (.rep z x n) (.BinOp (.List [ex] p') .Mult k p):=by
 refine .di F (λW h s l Q X aa S q=> ?_) (λl h Q X q=>q) rfl;refine wpAny_BinOp (List_ ?_);rw[fT hs];refine Calls.spliced_cons (ae.v.step aa S q λW' h' s' u pu le S' hu r=>Calls.spliced_nil ?_);refine IA S' (z:=true) (xs:=[u]) (vs:=[pu]) (Q:=λv QT=>v=.fz [u]/\QT=h') (.c hu .z) #[fj 1 999,rfl,rfl] λpv s2 w=> ?_;refine w _ λW2 h2 v2 D S2 Tl nI=> ?_;obtain⟨rfl,rfl⟩:=nI;refine eB (le.trans D) (aH.v.step (aa.mono (le.trans D)) S2 r λW3 h3 s3 u3 pu3 c9 S3 y B=> ?_);revert y;refine bo B λi e B=>gJ e λi' e y=> ?_;cases e;induction S3.fz F.hb (Tl.mono c9)with|mk d vs hl nM=>
 refine nM _ ?_;rintro IU t rfl nJ ht;cases(ht:t=[]);exact V7 S3 hl nJ y B.1 B.2.1 B.2.2 λpv s4 w=>w.le ((le.trans D).trans c9)
def OF(F:Fx P O A J L m RX):EG P O A J L m RX env G (.kI z) (.Dict [] [] p):=by
 refine .di F (λW h s l Q X aa S q=> ?_) (λl h Q X q=>q) rfl;obtain⟨a,ha,q⟩:=q;obtain⟨news,N,R⟩:=S.nw;refine wpAny_Dict_empty ?_;obtain y:=S.fr.push (o:={cls:=.type "dict",data:=.dict #[]});obtain D:=N.push S.fr {cls:=.type "dict",data:=.dict #[]};obtain hx:=gh (news:=news) (x:=s.heap.objs.size) λp hp=>Heap.lt_size (N p hp).1;have u:Obj.ExactDict {cls:=.type "dict",data:=.dict #[]}:=#[rfl,rfl,rfl];have lo:(s.heap.objs.size==sysModules)=false:=by obtain⟨b,ob,iD,hX⟩:=F.ah.low;obtain h1:=Heap.lt_size (F.hb _ _ hX);obtain h2:=S.fr.above;have d:=S.fr.ns.lt;refine beq_eq_false_iff_ne.mpr λe=> ?_;rw[e]at d;exact absurd (Nat.lt_trans (Nat.lt_trans iD h1) (el h2 d)) (fK _)
 obtain⟨R',le⟩:=R.name (a:=a) ha (x:=s.heap.objs.size) (new:=[(s.heap.objs.size,{cls:=.type "dict",data:=.dict #[]})]) (xs:=[]) (o:=if z then .aU []else .fc []) rfl (by simp) (by simpa using hx)
  (λW' B le=>by
    cases z with
    |true=>exact#[s.heap.objs.size,_,#[],0,[],by rw[B];exact al rfl,.head _,#[u,lo],rfl,rfl,List.nodup_nil,rfl]
    |false=>exact#[s.heap.objs.size,_,[],by rw[B];exact al rfl,.head _,#[#[#[],0,u,rfl,λU he=>by simp at he,.nil,List.nodup_nil],lo],rfl])
 exact .at le (S.put (t:=s.toks) y D R') (.r (al rfl)) q
def CB{af:Type}{p:af->Bool}:∀{l:List af},l.any p=false->l.all (λx=> !p x)=true
 |[],_=>rfl
 |x::r,h=>by rw[List.any_cons,Bool.or_eq_false_iff]at h;rw[List.all_cons,h.1,CB h.2];rfl
def B5{M:Model}{o:Expr}{name:Str}{u pos:Pos}{args:k18}{Q:k01}(hc:og o=true)(hl:(u.endLine==pos.line)=true)(hp:oU args)(hn:args.length<15)
 (h:∀pl:Sem Bool,wpAny M A (eval o env) (λy cj=>wpAny M A (getMethod y name pl) (λz D=>wpAny M A (callWith pos z.1 z.2 (backTo pos (starEach args env)) []) Q E D) E cj) E s):
 wpAny M A (eval (.Call (.Attribute o name u) args [] pos) env) Q E s:=by
 obtain d:eval (.Call (.Attribute o name u) args [] pos) env=(do
  let y←attributeBase o name env (eval o env)
  standAt u.atName
  methodCall o name u pos env y (args.length+([]:List Keyword).length) (backTo pos (starEach args env)) (backToKw pos (keywordEach [] env))):=rfl
 rw[d,CI hc];refine av (bj (h (do return (←importBound o env).getD true)) (λy cj G=>av (wpAny_standAt ?_)) λU U x=>x);obtain e:methodCallForm (args.length+([]:List Keyword).length) (backTo pos (starEach args env)) (backToKw pos (keywordEach [] env))=true:=by unfold methodCallForm;rw[CB (Bj hp),show backToKw pos (keywordEach [] env)=[]from rfl];simp;lia
 unfold methodCall;rw[e];refine av (f4 ?_);show wpAny M A (getMethod y name (do return (←importBound o env).getD true)) _ _ _;refine bj G (λz D J=> ?_) λU U x=>x;obtain B:methodCallPos true o env u pos=pure pos:=by unfold methodCallPos;rw[hl];rfl
 show wpAny M A (methodCallPos true o env u pos >>= _) _ _ _;rw[B];exact av (aJ J)
def Xc{M:V->qH->Prop}(e:A0 h bq v=some r)(k1:∀a c fs,h a=.live (.inst c fs)->M (.ref a) (.obj a c (bh bq fs)))(k2:∀a xs,h a=.live (.list xs)->M (.ref a) (.lst a))(k3:∀a fs,h a=.live (.aU fs)->M (.ref a) (.xl a))(u:∀xs,M (.fz xs) (.fz xs)):M v r:=by
 induction v using V.casesOn with
 |fz xs=>exact aL e▸u xs
 |ref a=>
  obtain z:∀s,h a=s->AZ a bq s=some r->M (.ref a) r:=λs=>by
   induction s using Slot.casesOn with
   |live o=>
    induction o using aa.casesOn with
    |inst c fs=>exactλd e=>aL e▸k1 a c fs d
    |list xs=>exactλd e=>aL e▸k2 a xs d
    |aU fs=>exactλd e=>aL e▸k3 a fs d
    |_=>exactλU=>no
   |_=>exactλU=>no
  exact z _ rfl e
 |_=>exact no e
def OO(F:Fx P O A J L m RX){p ap:Pos}{es:k18}(hm:(bq<6||(bq==ta||gA bq))=true)(hc:og v=true)(hl:(ap.endLine==p.line)=true)(hp:oU es)(hn:es=[]->as=.nil)(yf:es.length<15)
 (ae:EG P O A J L m RX env G o v)(aH:i5 P O A J L m RX env G as es):EG P O A J L m RX env G (.gj o bq as) (.Call (.Attribute v (nm bq) ap) es [] p):=by
 refine .di F (λW h s l Q X aa S q=> ?_) (λl h Q X q=>q) rfl;refine B5 hc hl hp yf λpl=>ae.v.step aa S q λW' h' s' u pu le S' B r=> ?_;have args:∀{R:k21} {s2:Shared} {f:Value} {first:k04} {K:k01},St J L m W' h' s2->cM P O G as l h' R X->(∀W3 D s3 us ie,W'.Le W3->St J L m W3 D s3->aA W3 us ie->R us D->fF gM f s3.heap/\wpAny gM A (PySem.call f (first++ie) []) K (bz RX W' X) s3)->
  wpAny gM A (callWith p f first (backTo p (starEach es env)) []) K (bz RX W X) s2:=λS2 w k=>eB le (El hp hn aH (aa.mono le) S2 w k)
 have own:∀{W3 D s3 f us pf ie},W'.Le W3->St J L m W3 D s3->VR W3 f pf->aA W3 us ie->O f us D (λv h=>tq false Q v h) X->fF gM pf s3.heap/\wpAny gM A (PySem.call pf ie []) (dB J L m W Q) (bz RX W' X) s3:=λe S3 hf gg r=>
  have k:=F.call _ _ _ _ _ _ _ _ _ S3 hf gg r
  #[k.1,bj k.2 (λpv s3 z=>z.le (le.trans e)) λU U z=>z.le e]
 revert B;refine bo r λrc hr r B=> ?_;revert B r;clear r;refine Xc (M:=λu rc=>Ai P O bq X (λv h=>tq false Q v h) (λR=>cM P O G as l h' R X) rc->VR W' u pu->wpAny gM A (getMethod pu (nm bq) pl) (λfx il=>wpAny gM A (callWith p fx.1 fx.2 (backTo p (starEach es env)) []) (dB J L m W Q) (bz RX W X) il) (bz RX W X) s') hr (λa c fs hx r B=> ?_) (λa xs hx r B=> ?_) (λa fs hx r B=> ?_) λxs r B=> ?_
 .cases hg:bh bq fs with
  |some aec=>
   rw[hg]at r;have ha:gA bq=true:=by
    have r1:=r.2.1;rw[F.ah.mN]at r1;rcases(Bool.or_eq_true _ _).mp hm with z|z
    .exact absurd (aP z) (Nat.not_lt.mpr r.1)
    .rcases(Bool.or_eq_true _ _).mp z with z|z
     .exact absurd (eq_of_beq z) r1
     .exact z
   exact V2 F.ah F.hb S' hx B hg ha λaeS s2 S2 SQ=>args S2 r.2.2 λW3 D s3 us ie e S3 gg y=>own e S3 (SQ.mono e) gg y
  |none=>rw[hg]at r;exact bo r λf hf r=>V1 F.ah F.hb S' hx B hg hf (args S' r λW3 D s3 us ie e S3 gg y=>own e S3 (f:=.fn f) rfl (.c (B.mono e) gg) y)
 .induction S'.list hx B with|mk d vs n news N R h1 D h5=>
  exact E5 (N _ D).1 (bU r.1 (by decide)) (args S' r.2 λW3 D s3 us ie e S3 gg y=>#[pK,bo y λx rH y=>V6 S3 rH (B.mono e) gg λpr s4 S4 hv=>.at (le.trans e) S4 hv y])
 .induction S'.aU F.ah F.hb (.inl hx) B with|mk x o tN ep xs news N R u1 u2 u3 u4 u5 u6 u7 u8 u9=>
  exact QE (N _ u2).1 u3 r.1 (args S' r.2 λW3 D s3 us ie e S3 gg y=>#[pK,bo y λx rH y=>V5 F.ah F.hb F.units S3 rH (B.mono e) gg λpr s4 S4 hv=>.at (le.trans e) S4 hv y])
 .obtain⟨⟨D,bl⟩,r9⟩:=r;clear own;subst D;obtain⟨d,vs,n,rfl,h1,h2⟩:=S'.x3 F.hb B;refine E5 h1 (by decide) (args S' r9 λW3 D s3 us ie e S3 gg y=>#[pK,?_]);obtain⟨rfl,y⟩:=y;refine gg _ ?_;rintro pw t rfl hw ht;cases(ht:t=[]);exact V0 F.hb S3 (B.mono e) hw bl λs4 S4=>.at (le.trans e) S4 .n y
def Wd.Lv.adopt(u:W.aN a=none):W.Lv ((W.aw x o).name a x []):=
 #[λb y e=>(ak λq=>by rw[q,u]at e;cases e).trans e,λU U e=>e]
def kq(P:Y)(O:Fn)(A:Around)(J:Heap)(L:Addr)(m:k03)(RX:ag)(env:Env)(G:Ka):Es->List Expr->Prop
 |.nil=>λl=>l=[]
 |.cons e r=>λl=>match l with|[]=>False|x::t=>cT x=true/\EG P O A J L m RX env G e x/\kq P O A J L m RX env G r t
def kq.o7:∀{as:Es} {es:k18},kq P O A J L m RX env G as es->i5 P O A J L m RX env G as es
 |.nil,l,h=>by cases(h:l=[]);exact Pk
 |.cons _ _,[],h=>False.elim h
 |.cons _ _,_::_,h=>Pj h.1 h.2.1 h.2.2.o7
def LK(W:Wd)(p:Value×Value)(q:Nat×V):Prop:=q.1<aW/\(∃t,p.1=.str (nm q.1) t)/\VR W q.2 p.2
def v4(W:Wd):List (Value×Value)->List (Nat×V)->Prop:=ci (LK W)
def qr(env:Env)(pos:Pos):List (Option Expr)->List Expr->List (Sem Value×Sem Value)
 |some k::d,v::vs=>(eval k env,do let x←eval v env;standAt pos;pure x)::qr env pos d vs
 |_,_=>[]
def Km{z:k06}{u:List (Option Expr)}(h:vi z u=true):∀{es:k18},u.length=es.length->((evalEachOpt u env).zip ((evalEach es env).map λv=>do let x←v;standAt pos;pure x)=(qr env pos u es).map λp=>(some p.1,p.2))/\(qr env pos u es).length=z.length:=by
 refine qR (M:=λz u=>∀{es:k18},u.length=es.length->((evalEachOpt u env).zip ((evalEach es env).map λv=>do let x←v;standAt pos;pure x)=(qr env pos u es).map λp=>(some p.1,p.2))/\(qr env pos u es).length=z.length) ?_ ?_ h
 .intro es d;cases es with|nil=>exact#[rfl,rfl]|cons=>cases d
 .intro x r e es B _ G l d;cases l with
  |nil=>cases d
  |cons y t=>obtain⟨c,rfl,_⟩:=vD B;have q:=G (Nat.succ.inj d);exact#[aq (_::·) q.1,aq (· +1) q.2]
def BU(P:Y)(O:Fn)(A:Around)(J:Heap)(L:Addr)(m:k03)(RX:ag)(env:Env)(G:Ka)(pos:Pos)(u:k06)(y:List (Option Expr)):Prop:=∀(e:Es) (es:k18),y.length=es.length->kq P O A J L m RX env G e es->
 ∀W h s l (R:k21) (X:QV),Lo L m env G W l->St J L m W h s->cM P O G e l h R X->∀(K:List (Value×Value)->Shared->Prop),
 (∀W' h' s' x d,W.Le W'->St J L m W' h' s'->v4 W' d (u.zip x)->d.length=u.length->R x h'->K d s')->wpAny gM A (evalPairs (qr env pos y es)) K (bz RX W X) s
def Ox(hk:vi ks kx=true):BU P O A J L m RX env G pos ks kx:=by
 refine qR (M:=BU P O A J L m RX env G pos) (λz es D aH W h s l R X aa S q K k=> ?_) (λk ks e kx B U Q z es D aH W h s l R X aa S q K kk=> ?_) hk
 .rcases es with _|⟨y,t⟩
  .rcases z with _|⟨a,z⟩
   .exact evalPairs_nil (k W h s [] [] (.refl W) S rfl rfl q)
   .exact False.elim aH
  .cases D
 .rcases es with _|⟨y,t⟩
  .cases D
  rcases z with _|⟨a,z⟩
  .cases aH
  obtain⟨c,rfl,B⟩:=vD B;clear hk;revert Q;refine jD B λd kd p B Q=> ?_;obtain⟨x,rfl,B⟩:=CV B;cases eq_of_beq (an B).1;refine evalPairs_cons (wpAny_Constant_str ?_);refine av (aH.2.1.v.step aa (S.toks _) q λW' h' s' u pu le S' hu r=>av (wpAny_standAt (aJ ?_)));exact eB le (Q z t (Nat.succ.inj D) aH.2.2 _ _ _ _ _ _ (aa.mono le) S' r _ λW2 h2 s2 us ps bK S2 js hn r2=>kk W2 h2 s2 (u::us) (_::ps) (le.trans bK) S2 #[#[aP (an B).2,#[_,rfl],hu.mono bK],js] (aq (· +1) hn) r2)
def B3(W:Wd)(ps:List (Value×Value))(qs:k16):Prop:=∀d:Prop,(∀(kvs:List (Str×Value)) (e:Carries (PySem.strKind gx.prog gx.w) ps kvs) (h:AR uU W kvs qs) (x:kvs.map (·.1)=qs.map λq=>nm q.1) (B:∀q∈qs,q.1<aW),d)->d
def v4.kvs(h:v4 W ps qs):B3 W ps qs:=
 ci.ind (M:=B3 W) (λU z=>z [] trivial rfl rfl (λU h=>nomatch h)) (λx r y t h U ae=>by
  obtain⟨u,D⟩:=x;refine ae _ λkvs B G J O=> ?_;obtain⟨c,⟨t,d⟩,e⟩:=h;cases(d:u=_);exactλU z=>z ((nm y.1,D)::kvs) #[Bl y.1 t,rfl,B] #[#[#[c,rfl],e],G] (aq (nm y.1::·) J) (λq P=>(b8.mp P).elim (λe=>e▸c) (O q))) h
def U4:∀{acc:List (Str×Value)},((acc++kvs).map (·.1)).Nodup->merged acc kvs=acc++kvs:=by
 induction kvs with
 |nil=>exactλU=>(List.append_nil _).symm
 |cons d r P=>intro acc h;have B:=h;rw[List.map_append,List.nodup_append]at h;obtain G:acc.any (λx=>decide (x.1=d.1))=false:=List.any_eq_false.mpr λx O e=>h.2.2 x.1 (bv.mpr #[_,O,rfl]) d.1 (.head _) (aP e);obtain J:stored acc d.1 d.2=acc++[d]:=ak (f0.mp G);show merged (stored acc d.1 d.2) r=_;rw[List.append_cons]at B⊢;rw[J,P B]
def OU(F:Fx P O A J L m RX){u:k06}{kx:List (Option Expr)}{es:k18}(hk:vi u kx=true)(yf:u.length<=15)(h0:0<u.length)(hl:kx.length=es.length)(nH:u.Nodup)
 (ae:kq P O A J L m RX env G vs es):EG P O A J L m RX env G (.dp u vs) (.Dict kx es p):=by
 refine .di F (λW h s l Q X aa S q=> ?_) (λl h Q X q=>q) rfl;have bl:=(Km (env:=env) (pos:=p) hk hl).2;refine wpAny_Dict_pairs (knd:=PySem.strKind gx.prog gx.w) (Km hk hl).1 (λe=>by rw[e]at bl;simp at bl;lia) (by rw[bl];exact yf) ?_;obtain⟨news,N,R⟩:=S.nw;have d:=gh (news:=news) (x:=s.heap.objs.size) λp hp=>Heap.lt_size (N p hp).1;obtain⟨R1,dQ⟩:=R.hide (o:={cls:=.type "dict",data:=.dict #[]}) d;obtain S1:St J L m (W.aw s.heap.objs.size (some {cls:=.type "dict",data:=.dict #[]})) h {s with heap:=s.heap.push {cls:=.type "dict",data:=.dict #[]}}:=
  S.put (t:=s.toks) (S.fr.push _) (N.push S.fr {cls:=.type "dict",data:=.dict #[]}) R1
 obtain Tr:W.ar s.heap.objs.size=none:=by
  cases c:W.ar s.heap.objs.size with
  |none=>rfl
  |some o=>exact absurd (fS (R.ar _ _ c).1) d
 refine eB dQ (Ox hk _ _ hl ae _ _ _ _ _ _ (aa.mono dQ) S1 q _ λW2 h2 s2 us ps bK S2 js gH r2=> ?_);obtain⟨r0,a,ha,r2⟩:=r2;obtain⟨pR,B,D⟩:=S2.nw;have hp:W2.ar s.heap.objs.size=some {cls:=.type "dict",data:=.dict #[]}:=bK.ar _ _ (al rfl);obtain⟨hm,ho,hf⟩:=D.ar _ _ hp;have nO:=D.fresh a ha;refine js.kvs _ λkvs a1 a2 a3 a5=> ?_;obtain hc:Obj.ExactDict {cls:=.type "dict",data:=.dict #[]}:=#[rfl,rfl,rfl];refine#[kvs,a1,#[_,#[],0,B.get hm,hc,rfl,λU he=>(by simp at he),.nil,List.nodup_nil],λe8 D' hs=> ?_];obtain hz:(u.zip us).map Prod.fst=u:=List.map_fst_zip (Nat.le_of_eq r0);obtain Sy:(kvs.map (·.1)).Nodup:=by rw[a3];have h1:((u.zip us).map Prod.fst).Nodup:=hz.symm▸nH;unfold List.Nodup at h1⊢;rw[List.pairwise_map]at h1⊢;exact h1.imp_of_mem λ{x y} d hy bN e=>bN (iK (a5 x d) (a5 y hy) e)
 rw[U4 (acc:=[]) Sy]at D';obtain⟨o',jp,gc⟩:=Heap.dictOf_iff.mp D';have Z:=B _ hm;obtain R3:=D.adopt (a:=a) ha hp (o':=o') (ob:=.dp (u.zip us)) λW' yn hr=>#[s.heap.objs.size,o',_,hr,iH hm,gc,yn▸AR.up (.adopt nO) a2];exactλU z=>z _ _ _ ((dQ.trans bK).adopt Tr ho nO) (S2.put (S2.fr.change hs Z.2.1 Z.2.2) (B.replace hs jp) R3) (.r (al rfl)) r2
def lM{af:Type}{x:Option af}(h:∀y,x=some y->False):x=none:=by
 rcases x with _|y
 .rfl
 .exact(h y rfl).elim
def xZ{hp u:Heap}(F:Fr J L hp m)(hk:∀b o,b≠d->hp.get? b=some o->u.get? b=some o)(hL:d≠L)(y:J.get? d=none):Fr J L u m:=
 #[Heap.Ns.at' F.ns λo e=>hk _ _ hL.symm e,λb o e=>hk b o (λq=>by rw[q,y]at e;cases e) (F.keep b o e),F.above]
def pO{news:k05}(h:(y,o)∈news)(n:y≠x):(y,o)∈news.filter λp=>decide (p.1≠x):=fZ.mpr #[h,dX n]
def bg.drop{W:Wd}{news:k05}(R:bg W h news)(hx:W.ar x=some o):bg (W.aw x none) h (news.filter λp=>decide (p.1≠x)):=by
 obtain⟨Q,G,z⟩:=R.ar x o hx;refine#[?_,λy d e=>#[pO (R.aI y d e).1 λq=> ?_,(R.aI y d e).2],λy d e=> ?_,λy d e=>#[pO (R.pin y d e).1 λq=> ?_,(R.pin y d e).2],λy a e=> ?_,R.bp,R.fresh,
  λa d e=>OR.up (W:=W) (W':=W.aw x none) (.of rfl rfl) (λU U e=>e) R.bp (λy U B m=>pO m λq=>by rw[q,G]at B;cases B) (R.live a d e),
  λa es e=>OR.up (W:=W) (W':=W.aw x none) (.of rfl rfl) (λU U e=>e) R.bp (λy U B m=>pO m λq=>by rw[q,G]at B;cases B) (R.pins a es e),λN u=> ?_]
 .exact(List.Sublist.map _ List.filter_sublist).nodup R.nd
 .change W.aI y=some d at e;rw[q,z]at e;cases e
 .change (if y=x then none else W.ar y)=_ at e;by_cases q:y=x
  .rw[al q]at e;cases e
  .rw[ak q]at e;exact#[pO (R.ar y d e).1 q,(R.ar y d e).2]
 .obtain⟨_,b,es,D,_⟩:=R.pin y d e;have O:=R.bp b y D;rw[q,G]at O;cases O
 .obtain⟨p,hp,hk⟩:=bv.mp (R.own y a e);refine bv.mpr #[p,fZ.mpr #[hp,dX λq=> ?_],hk];change W.own y=_ at e;rw[←hk,q,G]at e;cases e
 .have T:=R.tabs N u;have J:N.P≠x:=λq=>by have:=T.ar;rw[q,hx]at this;cases this
  exact T.mono T.own T.aI ((ak J).trans T.ar) (.of rfl rfl) λU m=>pO m J
def St.iU(S:St J L m W h s){hp:Heap}(hx:W.ar x=some o)(u:Heap.SameBut x s.heap hp)(ho:hp.get? x=some o'):St J L m (W.aw x (some o')) h {s with heap:=hp,toks:=t}:=by obtain⟨e,N,R⟩:=S.nw;have d:=N _ (R.ar x o hx).1;exact S.put (S.fr.change u d.2.1 d.2.2) (N.replace u ho) (R.iU hx)
def St.o6(S:St J L m W h s)(hx:W.ar x=some o)(u:Heap.ExtBut x s.heap hp):St J L m (W.aw x none) h {s with heap:=hp,toks:=t}:=by obtain⟨G,N,R⟩:=S.nw;have B:=N _ (R.ar x o hx).1;refine S.put (xZ S.fr (λb o hb e=>u b o hb e) B.2.1 B.2.2) (λp hp=> ?_) (R.drop hx);obtain⟨d,O⟩:=fZ.mp hp;exact#[u _ _ (aP O) (N p d).1,(N p d).2]
def St.hide(S:St J L m W h s){o:Obj}(hd:o.isFreed=false):St J L m (W.aw s.heap.objs.size (some o)) h {s with heap:=s.heap.push o,toks:=t}/\W.Le (W.aw s.heap.objs.size (some o))/\W.ar s.heap.objs.size=none:=by obtain⟨news,N,R⟩:=S.nw;have d:=gh (news:=news) (x:=s.heap.objs.size) λp hp=>Heap.lt_size (N p hp).1;obtain⟨e,B⟩:=R.hide (o:=o) d;refine#[S.put (S.fr.push o) (N.push S.fr o hd) e,B,?_];exact lM λU c=>absurd (fS (R.ar _ _ c).1) d
def St.ar(S:St J L m W h s)(hx:W.ar x=some o):s.heap.get? x=some o:=by obtain⟨d,N,R⟩:=S.nw;exact(N _ (R.ar x o hx).1).1
structure i8(A:Around)(J:Heap)(L:Addr)(m:k03)(W:Wd)(ae:Addr)(c:H->Prop)(xs:k00)(Ob:Nat->Obj->Prop):Prop where
 next:∀W' h s i o (E:k01) (Q:Option Value->Shared->Prop),W.Le (W'.aw ae none)->St J L m W' h s->W'.ar ae=some o->Ob i o->c h->
  (∀pu s' o' x,xs[i]? =some x->Ob (i+1) o'->St J L m (W'.aw ae (some o')) h s'->VR W' x pu->Q (some pu) s')->
  (xs[i]? =none->∀s',St J L m (W'.aw ae none) h s'->Q none s')->wpAny gM A (pyNext (.ref ae)) Q E s
 go:∀i o (s:Shared) target v (E:k01) (Q:k09),s.heap.get? ae=some o->Ob i o->Q () s->wpAny gM A (letOwnedTupleGo target (.ref ae) v) Q E s
 self:∀i o (s:Shared) (E:k01) (Q:k01),s.heap.get? ae=some o->Ob i o->Q (.ref ae) s->wpAny gM A (pyIter (.ref ae)) Q E s
def uY{E:k01}{o:Obj}{Q:k09}{s:Shared}(ho:s.heap.get? ae=some o)(hc:o.cls=.type n)(hd:o.data=.fields vs)
 (y:["enumerate","zip","dict_itemiterator","dict_reverseitemiterator","odict_iterator","itertools.zip_longest","itertools.pairwise"].contains n=false)(h:Q () s):
 wpAny M A (letOwnedTupleGo u (.ref ae) v) Q E s:=by
 unfold letOwnedTupleGo;cases u<;>first
  |exact aJ h
  |(cases v<;>first
     |exact aJ h
     |(refine av (wpAny_load ho ?_)
       rw[hc,hd];dsimp only;rw[y,Bool.false_and];exact aJ h))
def aA.none{xs:k00}{vs:k04}(R:aA W xs vs){i:Nat}(e:vs[i]? =Option.none):xs[i]? =Option.none:=by rw[List.getElem?_eq_none_iff]at e⊢;rw[←R.length];exact e
def aA.at{xs:k00}{vs:k04}(R:aA W xs vs){i:Nat}{v:Value}(e:vs[i]? =some v):∃x,xs[i]? =some x/\VR W x v:=by
 have d:i<xs.length:=by rw[←R.length];exact(eU.mp e).1
 obtain⟨G,h,B⟩:=R.get (fm d);rw[e]at h;cases h;exact#[_,fm d,B]
def VR.over{W':Wd}(le:W.Le (W'.aw ae o))(h:VR W x v):VR W' x v:=VR.up (W:=W'.aw ae o) (W':=W') (.of rfl rfl) x v (h.mono le)
def aA.over{W':Wd}(le:W.Le (W'.aw ae o))(h:aA W x v):aA W' x v:=aA.up (W:=W'.aw ae o) (W':=W') (.of rfl rfl) (h.mono le)
def kr.ref(T:kr W s xs (.ref x)):∃vs,s.heap.IsList x (List.toArray vs)/\aA W xs vs:=by generalize e:Value.ref x=v at T;induction T with|mk y vs h r=>exact#[vs,Value.ref.inj e▸h,r]
def Zq(hb:gx.hb.StaysIn J)(hh:A.handled=none){v:V}{xs:k00}{x ae:Addr}(hv:VR W v (.ref x))(hk:∀h',eL h' v=some xs->fR h' v=some xs):
 i8 A J L m W ae (cE false v xs) xs (λi o=>o.cls=.type "list_iterator"/\o.data=.fields #[.ref x,.int i 0,]):=by
 refine#[λW' h s i o E Q le S hp D c k1 k2=> ?_,λi o s B v E Q G c q=>uY G c.1 c.2 (by decide) q,λi o s E Q G c q=>wpAny_pyIter_listiter #[o,G,c] q];obtain e:=hk h (c.elim (λe=>by cases e) id);obtain⟨vs,u,R⟩:=(S.jw hb e (hv.over le)).ref;have P:s.heap.IsListIter ae x i:=#[o,S.ar hp,D];cases d:vs[i]? with
 |some pu=>obtain⟨y,hy,hr⟩:=R.at d;refine wpAny_pyNext_list_item P u (by simpa using d) λe8 z O=>z.elim λo' q=>k1 pu _ o' y hy q.2 (S.iU (t:=s.toks) hp O q.1) hr
 |none=>exact wpAny_pyNext_list_end hh P u (by simpa using d) λe8 O=>k2 (R.none d) _ (S.o6 (t:=s.toks) hp O)
def St.Zn(S:St J L m W h s)(hb:gx.hb.StaysIn J)(hv:VR W (.tup xs) (.ref x)):∃vs,IsTup s.heap x (List.toArray vs)/\aA W xs vs:=by obtain⟨y,vs,e,t,r⟩:=S.tup hb hv;exact#[vs,Value.ref.inj e▸t,r]
def Zs(hb:gx.hb.StaysIn J)(hh:A.handled=none){xs:k00}{x ae:Addr}(hv:VR W (.tup xs) (.ref x)):
 i8 A J L m W ae (cE false (.tup xs) xs) xs (λi o=>o.cls=.type "tuple_iterator"/\o.data=.fields #[.ref x,.int i 0,]):=by
 refine#[λW' h s i o E Q le S hp D U k1 k2=> ?_,λi o s e v E Q B c q=>uY B c.1 c.2 (by decide) q,λi o s E Q B #[z,hd] q=> ?_]
 .obtain⟨vs,P,R⟩:=S.Zn hb (hv.over le);have O:IsTupIter s.heap ae x i:=#[o,S.ar hp,D];cases d:vs[i]? with
  |some pu=>obtain⟨y,hy,hr⟩:=R.at d;refine next_tuple_item O P (by simpa using d) λe8 u G=>u.elim λo' q=>k1 pu _ o' y hy q.2 (S.iU (t:=s.toks) hp G q.1) hr
  |none=>exact next_tuple_end hh O P (by simpa using d) λe8 G=>k2 (R.none d) _ (S.o6 (t:=s.toks) hp G)
 .exact wpAny_pyIter_tupleiter (it:=ae) (t:=x) (i:=i) #[o,B,z,hd] q
def Jc{k:Int}:(aX k)[i]? =if i<k.toNat then some (.int i)else none:=by
 unfold aX;rw[eW];by_cases q:i<k.toNat
 .rw[al q,iw q];rfl
 .rw[ak q,List.getElem?_eq_none (by simpa using q)];rfl
def Zr(y:A.handled=none){k:Int}:
 i8 A J L m W ae (cE true v (aX k)) (aX k) (λi o=>i<=k.toNat/\o={cls:=.type "range_iterator",dict:=none,data:=.fields #[rawInt (i:Nat),rawInt ((k.toNat:Int)-i),rawInt 1,],slots:=#[]}):=by
 refine#[λW' h s i o E Q le S hp #[D,d] _ k1 k2=> ?_,λi o s x v E Q d #[_,e] q=>by subst e;exact uY d rfl rfl (by decide) q,λi o s E Q d #[_,e] q=>by subst e;exact wpAny_pyIter_rangeiter d q];subst d;have G:IsRangeIter s.heap ae (i:Nat) ((k.toNat:Int)-i) 1:=S.ar hp;by_cases q:i<k.toNat
 .refine wpAny_pyNext_range_item G (by lia) λz O B=> ?_;obtain P:(((i:Nat):Int)+1)=((i+1:Nat):Int):=rfl;obtain u:((k.toNat:Int)-(i:Nat)-1)=((k.toNat:Int)-((i+1:Nat):Int)):=Int.sub_sub _ _ _;rw[P,u]at O;exact k1 _ _ _ (.int i) (by rw[Jc,al q]) #[q,rfl] (S.iU (t:=s.toks+1) hp B O) .i
 .refine wpAny_pyNext_range_end y G (by lia) λz B=>k2 (by rw[Jc,ak q]) _ (S.o6 (t:=s.toks) hp B)
def T6{o:Obj}{es:Array DictEntry}{Q:k01}(hd:(d==sysModules)=false)(ho:s.heap.get? d=some o)(hc:o.ExactDict)(u:o.data=.dict es ep)
 (y:Q (.ref s.heap.objs.size) {s with heap:=s.heap.push {cls:=.type "dict_keyiterator",data:=.fields #[.ref d,.int 0 0,.int es.size 0,.int ep 0,]}}):
 wpAny (model prog w) A (pyIter (.ref d)) Q E s:=by
 have h:s.TypeIs (.ref d) "dict":=#[o,ho,hc.1];refine wpAny_pyIter_slot h PySem.F.slot_dict_iter (wpAny_call_entry PySem.F.slot_dict_iter h PySem.F.entry_dict_iter ?_ (PySem.F.args_dict_iter_1 _));unfold Builtin.«dict.__iter__»;refine av ?_;unfold Builtin.Dict.dictSlotNone;refine av (wpAny_notOrdered_dict h ?_);show wpAny _ _ (pure (Value.ref d)) _ _ s;refine aJ ?_;show wpAny _ _ (Builtin.Dict.showsAll d >>= _) _ _ s;unfold Builtin.Dict.showsAll;rw[ak (by rw[hd];exact jM)];refine av (aJ ?_);refine av (wpAny_dictEntries ho u ?_);refine av (wpAny_dictEpoch ho u ?_);refine av (wpAny_newObj_type (aJ #[_,rfl,"dict_keyiterator",_,#[_,Heap.get?_push_size _ rfl,rfl],PySem.F.slot_dict_keyiterator_next.lookup,?_]));simpa[rawInt]using y
def Vn{od:Obj}{es:Array DictEntry}{e:DictEntry}{Q:Option Value->Shared->Prop}(u:s.heap.IsKeyIter it d i es.size ep)
 (z:s.heap.get? d=some od)(y:od.data=.dict es ep)(hx:es[i]? =some e)
 (D:∀h',h'.IsKeyIter it d (i+1) es.size ep->Heap.SameBut it s.heap h'->Q (some e.key) {s with heap:=h'}):
 wpAny (model prog w) A (pyNext (.ref it)) Q E s:=by
 obtain⟨o,h,B,hd⟩:=id u;unfold pyNext;refine av (wpAny_attempt (wpAny_callSpecial?_slot (name:=Str.ofString "__next__") u.typeIs PySem.F.slot_dict_keyiterator_next
  (wpAny_call_entry PySem.F.slot_dict_keyiterator_next u.typeIs PySem.F.entry_dict_keyiterator_next ?_ (PySem.F.args_dict_keyiterator_next_1 _))))
 refine av (aJ ?_);refine av ?_;refine av ?_;first|refine av (wpAny_typeNameOfWhole_keyiter u.typeIs (aJ ?_))|refine av (wpAny_typeNameOf_keyiter u.typeIs (aJ ?_))
 refine av (wpAny_fieldsOf h hd ?_);obtain G:Builtin.Dict_items.ownsTuple "dict_keyiterator"=false:=by decide
 rw[G];show wpAny _ _ (if(Value.ref d==Value.none)=true then _ else _) _ _ s;rw[ak (show¬((Value.ref d==Value.none)=true)from jM)];refine av (aJ ?_);refine av (wpAny_dictEntries z y ?_);rw[ak (by simp)];refine av (aJ ?_);refine av (wpAny_dictEpoch z y ?_);rw[ak (by simp)];refine aJ ?_;dsimp only;rw[show(if(i:Int)<0 then none else es[(i:Int).toNat]?)=some e from(ak (Int.not_lt.mpr (Int.natCast_nonneg i))).trans hx];refine av ?_;first|refine av (wpAny_typeNameOfWhole_keyiter u.typeIs (aJ ?_))|refine av (wpAny_typeNameOf_keyiter u.typeIs (aJ ?_))
 refine av (wpAny_isOneOf_keyiter u.typeIs ?_);show wpAny _ _ (setField (.ref it) 1 (rawInt ((i:Int)+1)) >>= _) _ _ s;refine av (wpAny_setField h hd (by simp) ?_);have x:(s.heap.update it (Obj.mapFields (·.setIfInBounds 1 (rawInt ((i:Int)+1))))).IsKeyIter it d (i+1) es.size ep:=
  #[_,Heap.get?_update_self _ h (Obj.isFreed_of_fields (Obj.data_mapFields hd _)),(Obj.cls_mapFields ..).trans B,by rw[Obj.data_mapFields hd];simp[rawInt]]
 refine av (f4 ?_);refine av (wpAny_isOneOf_keyiter (s:={s with heap:=s.heap.update it (Obj.mapFields (·.setIfInBounds 1 (rawInt ((i:Int)+1))))}) x.typeIs ?_);show wpAny _ _ (pure e.key) _ _ _;exact aJ (aJ #[_,rfl,aJ (D _ x (Heap.SameBut.update ..))])
def Vm{od:Obj}{es:Array DictEntry}{Q:Option Value->Shared->Prop}(hh:A.handled=none)(u:s.heap.IsKeyIter it d i es.size ep)
 (z:s.heap.get? d=some od)(y:od.data=.dict es ep)(hx:es[i]? =none)
 (D:∀h',Heap.ExtBut it s.heap h'->Q none {s with heap:=h'}):wpAny (model prog w) A (pyNext (.ref it)) Q E s:=by
 obtain⟨o,h,x,hd⟩:=id u;unfold pyNext;refine av (wpAny_attempt (wpAny_callSpecial?_slot (name:=Str.ofString "__next__") u.typeIs PySem.F.slot_dict_keyiterator_next
  (wpAny_call_entry PySem.F.slot_dict_keyiterator_next u.typeIs PySem.F.entry_dict_keyiterator_next ?_ (PySem.F.args_dict_keyiterator_next_1 _))))
 refine av (aJ ?_);refine av ?_;refine av ?_;first|refine av (wpAny_typeNameOfWhole_keyiter u.typeIs (aJ ?_))|refine av (wpAny_typeNameOf_keyiter u.typeIs (aJ ?_))
 refine av (wpAny_fieldsOf h hd ?_);obtain e:Builtin.Dict_items.ownsTuple "dict_keyiterator"=false:=by decide
 rw[e];show wpAny _ _ (if(Value.ref d==Value.none)=true then _ else _) _ _ s;rw[ak (show¬((Value.ref d==Value.none)=true)from jM)];refine av (aJ ?_);refine av (wpAny_dictEntries z y ?_);rw[ak (by simp)];refine av (aJ ?_);refine av (wpAny_dictEpoch z y ?_);rw[ak (by simp)];refine aJ ?_;dsimp only;rw[show(if(i:Int)<0 then none else es[(i:Int).toNat]?)=none from(ak (Int.not_lt.mpr (Int.natCast_nonneg i))).trans hx];refine av ?_;first|refine av (wpAny_typeNameOfWhole_keyiter u.typeIs (aJ ?_))|refine av (wpAny_typeNameOf_keyiter u.typeIs (aJ ?_))
 show wpAny _ _ (setField (.ref it) 0 .none >>= _) _ _ s;refine av (wpAny_setField h hd (by simp) ?_);show wpAny _ _ (newExc (.type "StopIteration") [] >>= _) _ _ _;refine av ?_;unfold newExc newTuple;refine av (wpAny_newObj_type ?_ (by size_fits));refine av (m:=firstArgMember _ _) (wpAny_of_eq (a:=Value.none) rfl ?_);refine wpAny_newObj_type ?_ (by size_fits);refine wpAny_raiseNew_none hh ?_;refine av (wpAny_isInstance (T:="StopIteration") (b:=true) #[_,Heap.get?_push_size _ rfl,rfl] isSubtype_stop ?_);exact aJ (D _ (((Heap.SameBut.update ..).extBut.push _).push _))
def Wd.pinned(W:Wd)(x:Addr)(o:Option Obj):Wd:={W with pin:=λy=>if y=x then o else W.pin y}
def VR.pinned(h:VR W v pv):VR (W.pinned x o) v pv:=VR.up (W:=W) (W':=W.pinned x o) (.of rfl rfl) v pv h
def ky.of{W:Wd}(T:ky W news N):ky (W.pinned x o) news N:=T.mono T.own T.aI T.ar (.of rfl rfl) λU m=>m
def bg.Wo(R:bg W h news)(e:h a=.live (.aU es))(u:W.aN a=some x)(Q:(x,o)∈news):
 bg (W.pinned x (some o)) (h.set a (.pin es)) news/\W.Le (W.pinned x (some o)):=by
 have hp:W.pin x=none:=by
  cases q:W.pin x with
  |none=>rfl
  |some o'=>obtain⟨_,b,G,J,B⟩:=R.pin x o' q;have:=R.bp a x u;rw[R.bp b x J]at this;cases this;rw[e]at B;cases B
 have O:∀b d,OR W news b d->OR (W.pinned x (some o)) news b d:=λb d=>OR.up (W:=W) (W':=W.pinned x (some o)) (.of rfl rfl) (λU U e=>e) R.bp (λU U U m=>m);refine#[#[R.nd,R.aI,R.ar,λy d q=> ?_,R.own,R.bp,λb q=> ?_,λb d q=> ?_,λb G q=> ?_,λN D=>(R.tabs N D).of],#[λU U e=>e,λU U e=>e,λU U e=>e,λU U e=>e,λy d q=> ?_]]
 .change (if y=x then some o else W.pin y)=_ at q;by_cases c:y=x
  .rw[al c]at q;cases q;subst c;exact#[Q,a,es,u,H.fy ..]
  .rw[ak c]at q;obtain⟨P,b,G,J,B⟩:=R.pin y d q;exact#[P,b,G,J,by rw[H.dT _ _ (λz=>by rw[z,e]at B;cases B)];exact B]
 .by_cases c:b=a
  .subst c;rw[H.fy]at q;cases q
  .rw[H.dT _ _ c]at q;exact R.fresh b q
 .by_cases c:b=a
  .subst c;rw[H.fy]at q;cases q
  .rw[H.dT _ _ c]at q;exact O _ _ (R.live b d q)
 .by_cases c:b=a
  .subst c;rw[H.fy]at q;cases q;exact O _ _ (R.live b _ e)
  .rw[H.dT _ _ c]at q;exact O _ _ (R.pins b G q)
 .show(if y=x then some o else W.pin y)=_;rw[ak λc=>by rw[c,hp]at q;cases q];exact q
def bg.Bx(R:bg W h news)(e:h a=.pin es)(D:W.aN a=some x):bg (W.pinned x none) (h.set a (.live (.aU es))) news:=by
 have J:∀b d,OR W news b d->OR (W.pinned x none) news b d:=λb d=>OR.up (W:=W) (W':=W.pinned x none) (.of rfl rfl) (λU U e=>e) R.bp (λU U U m=>m);refine#[R.nd,R.aI,R.ar,λy d q=> ?_,R.own,R.bp,λb q=> ?_,λb d q=> ?_,λb B q=> ?_,λN u=>(R.tabs N u).of]
 .change (if y=x then none else W.pin y)=_ at q;by_cases c:y=x
  .rw[al c]at q;cases q
  .rw[ak c]at q;obtain⟨O,b,B,G,P⟩:=R.pin y d q;refine#[O,b,B,G,?_];rw[H.dT _ _ (λz=> ?_)]at⊢
   .exact P
   .subst z;rw[D]at G;exact c (aL G).symm
 .by_cases c:b=a
  .subst c;rw[H.fy]at q;cases q
  .rw[H.dT _ _ c]at q;exact R.fresh b q
 .by_cases c:b=a
  .subst c;rw[H.fy]at q;cases q;exact J _ _ (R.pins b _ e)
  .rw[H.dT _ _ c]at q;exact J _ _ (R.live b d q)
 .by_cases c:b=a
  .subst c;rw[H.fy]at q;cases q
  .rw[H.dT _ _ c]at q;exact J _ _ (R.pins b B q)
def Ul{xs:k24}{fs:k16}(R:AR (eM) W (xs.map eQ) fs):∀(i:Nat) (e:DictEntry),(xs.map (entryOfKey (gE gx.prog gx.w)))[i]? =some e->∃n,(fs.map λp=>V.gk p.1)[i]? =some (V.gk n)/\VR W (V.gk n) e.key:=
 qd (M:=λxs fs=>∀(i:Nat) (e:DictEntry),(xs.map (entryOfKey (gE gx.prog gx.w)))[i]? =some e->∃n,(fs.map λp=>V.gk p.1)[i]? =some (V.gk n)/\VR W (V.gk n) e.key)
  (λi e q=>by cases i<;>exact no q) (λy r p t k U d i e q=>by
    induction i using Nat.casesOn with
    |zero=>exact#[p.1,rfl,aL q▸#[k.1.2.1,k.1.1,aq Value.ref (aq Prod.snd k.1.2.2)]]
    |succ i=>exact d i e q) R
def Um{xs:k24}{fs:k16}(R:AR (eM) W (xs.map eQ) fs){i:Nat}(e:(xs.map (entryOfKey (gE gx.prog gx.w)))[i]? =none):(fs.map λp=>V.gk p.1)[i]? =none:=by rw[List.getElem?_eq_none_iff,be]at e⊢;rw[←AR.length R,be];exact e
def Zp(hh:A.handled=none){fs:k16}{o:Obj}{es:Array DictEntry}{xs:k24}(hp:W.pin x=some o)(hd:o.data=.dict es ep)(he:es.toList=xs.map (entryOfKey (gE gx.prog gx.w)))(R:AR (eM) W (xs.map eQ) fs):
 i8 A J L m W ae (λh=>pins (h a) fs) (fs.map λp=>V.gk p.1) (λi o=>o.cls=.type "dict_keyiterator"/\o.data=.fields #[.ref x,.int i 0,.int es.size 0,.int ep 0,]):=by
 refine#[λW' h s i oI E Q le S O ny c k1 k2=> ?_,λi o s G v E Q P c q=>uY P c.1 c.2 (by decide) q,λi o s E Q P c q=>wpAny_pyIter_keyiter (d:=x) (i:=i) (n:=es.size) (ep:=ep) #[o,P,c] q];obtain⟨news,N,R'⟩:=S.nw;have D:s.heap.get? x=some o:=(N _ (R'.pin x o (le.pin _ _ hp)).1).1;have z:s.heap.IsKeyIter ae x i es.size ep:=#[oI,S.ar O,ny];have y:es[i]? =(xs.map (entryOfKey (gE gx.prog gx.w)))[i]? :=by rw[←he,Array.getElem?_toList]
 cases B:es[i]? with
 |some e=>obtain⟨n,y1,y2⟩:=Ul R i e (y.symm.trans B);exact Vn z D hd B λe8 c' u=>c'.elim λo' q=>k1 _ _ o' _ y1 q.2 (S.iU (t:=s.toks) O u q.1) (y2.over le)
 |none=>exact Vm hh z D hd B λe8 u=>k2 (Um R (y.symm.trans B)) _ (S.o6 (t:=s.toks) O u)
def GO:eL h v=some xs->v=.tup xs\/∀h',eL h' v=some xs->fR h' v=some xs:=
 V.casesOn (motive_1:=λv=>eL h v=some xs->v=.tup xs\/∀h',eL h' v=some xs->fR h' v=some xs) v no (λU=>no) (λU=>no) (λU=>no) (λU e=>.inl (aq V.tup (aL e))) (λU U=>.inr λU e=>e) (λU U=>.inr λU e=>e) (λU=>no) (λU=>no) (λU=>no) (λU U=>no)
def GP(hb:gx.hb.StaysIn J)(y:A.handled=none)(S:St J L m W h s)(hv:VR W v pv)(e:eL h v=some xs){K:k01}
 (k:∀ae o u s',(∀z,i8 A J L z W ae (cE false v xs) xs u)->u 0 o->St J L m (W.aw ae (some o)) h s'->W.ar ae=none->W.Le (W.aw ae (some o))->K (.ref ae) s'):wpAny gM A (pyIter pv) K E s:=by
 rcases GO e with rfl|hk
 .obtain⟨x,vs,rfl,B,G⟩:=S.tup hb hv;refine iter_tuple B ?_;obtain⟨d,le,hp⟩:=S.hide (o:={cls:=.type "tuple_iterator",data:=.fields #[.ref x,.int 0 0,]}) rfl (t:=s.toks);exact k _ _ _ _ (λU=>Zs hb y hv) #[rfl,rfl] d hp le
 .obtain⟨x,rfl⟩:∃x,pv=.ref x:=by induction S.jw hb (hk h e) hv with|mk x _ _ _=>exact#[x,rfl]
  obtain⟨vs,B,G⟩:=(S.jw hb (hk h e) hv).ref;refine wpAny_pyIter_list B ?_;obtain⟨d,le,hp⟩:=S.hide (o:={cls:=.type "list_iterator",data:=.fields #[.ref x,.int 0 0,]}) rfl (t:=s.toks);exact k _ _ _ _ (λU=>Zq hb y hv hk) #[rfl,rfl] d hp le
def Xa(n:Int):Builtin.Range.rangeSize 0 n 1=n.toNat:=by
 unfold Builtin.Range.rangeSize;rw[al (by decide),Int.ediv_one,Int.sub_zero,Int.sub_add_cancel];by_cases h:0<n
 .rw[al h,Int.toNat_of_nonneg (Int.le_of_lt h)]
 .rw[ak h,Int.toNat_of_nonpos (Int.not_lt.mp h)];rfl
def tT(h: -1000<=i)(k:i<=1000):Builtin.Range.rangeFitsLong i=true:=iy.mpr #[dX (Int.le_trans (by decide) h),dX (Int.lt_of_le_of_lt k (by decide))]
def Xb(z:A.handled=none)(S:St J L m W h s)(hv:VR W (.int n) pv)(y: -1000<=n)(D:(aX n).length<=1000){K:k01}
 (k:∀W' ae o u s',W.Le W'->(∀m',i8 A J L m' W' ae (cE true v (aX n)) (aX n) u)->u 0 o->St J L m (W'.aw ae (some o)) h s'->W'.ar ae=none->W'.Le (W'.aw ae (some o))->K (.ref ae) s'):
 wpAny gM A (call (.type "range") [pv]) (λr s'=>wpAny gM A (pyIter r) K E s') E s:=by
 obtain⟨t,rfl⟩:=hv;have P:(aX n).length=n.toNat:=by unfold aX;simp
 refine call_range_1 ?_;obtain⟨d,le,hp⟩:=S.hide (o:={cls:=.type "range",data:=.fields #[.int 0 s.toks,.int n t,.int 1 (s.toks+1),]}) rfl (t:=s.toks+1+1);obtain hr:=d.ar (x:=s.heap.objs.size) (o:={cls:=.type "range",data:=.fields #[.int 0 s.toks,.int n t,.int 1 (s.toks+1),]}) (al rfl);have B:Builtin.Range.rangeSize 0 n 1=n.toNat:=Xa n;refine wpAny_pyIter_range hr ?_ ?_
 .unfold Builtin.Range.small;rw[B];have e:(n.toNat:Int)<=1000:=Int.ofNat_le.mpr (P▸D);have O:n<=1000:=Int.le_trans (Int.self_le_toNat n) e;have t:∀{a b:Bool},a=true->b=true->(a&&b)=true:=λh k=>iy.mpr #[h,k];have f:=tT y O;exact t (t (t (t (tT (by decide) (by decide)) f) (tT (by decide) (by decide))) (tT (Int.le_trans (by decide) (Int.natCast_nonneg _)) e)) (Bool.or_eq_true_iff.mpr (.inr ((al (by decide)).trans ((aq _ (Int.add_zero n)).trans f))))
 .obtain⟨G,bK,Q⟩:=d.hide (o:={cls:=.type "range_iterator",data:=.fields #[rawInt 0,rawInt (n.toNat:Int),rawInt 1,]}) rfl (t:=s.toks+1+1);rw[B];exact k _ _ _ _ _ le (λU=>Zr z) #[cD _,by simp] G Q bK
def wR(env:Env)(x:Str×NameKind)(cs:k17):Sem (ForInStep (List (Str×Addr))):=if(x.2==NameKind.free)=true then do let a←cellOf env x.1;pure (ForInStep.yield ((x.1,a)::cs))else pure (ForInStep.yield cs)
def K6(env:Env)(u:List (Str×NameKind))(acc:k17):Prop:=∀d:Prop,(∀(cl:k17) (e:forIn u acc (wR env)=pure cl) (h:∀p∈cl,env.cells.lookup p.1=some p.2) (x:cl.map (·.1)=frees u++acc.map (·.1)),d)->d
def Ql(h:(u==NameKind.free)=true):u=.free:=by cases u<;>first|rfl|cases h
def NA:∀{acc:k17},(∀p∈acc,env.cells.lookup p.1=some p.2)->(∀n,(n,NameKind.free)∈names->∃c,env.cells.lookup n=some c)->K6 env names acc:=by
 induction names with
 |nil=>exactλd U=>λU z=>z _ rfl d rfl
 |cons x r y=>
  intro acc d O;cases hk:x.2==NameKind.free with
  |true=>
   obtain⟨c,u⟩:=O x.1 (b8.mpr (.inl (Prod.ext rfl (Ql hk).symm)));refine(y (acc:=(x.1,c)::acc) (λp hp=>(b8.mp hp).elim (λe=>e▸u) (d p)) λP h=>O P (.tail _ h)) _ λcl B G J=> ?_;refine(λU z=>z cl ?_ G ?_)
   .rw[List.forIn_cons];unfold wR cellOf;rw[al hk,u];exact B
   .unfold frees;rw[List.filter_cons_of_pos (by exact hk),List.map_cons,List.reverse_cons,List.append_assoc];exact J
  |false=>
   refine(y (acc:=acc) d λP h=>O P (.tail _ h)) _ λcl B G J=> ?_;refine(λU z=>z cl ?_ G ?_)
   .rw[List.forIn_cons];unfold wR;rw[ak (f0.mp hk)];exact B
   .unfold frees;rw[List.filter_cons_of_neg (by exact f0.mp hk)];exact J
def Db{scope:Scope}(hf:∀n,(n,NameKind.free)∈scope.names->∃c,env.cells.lookup n=some c):∃cl,closureFor scope env=pure cl/\(∀p∈cl,env.cells.lookup p.1=some p.2)/\cl.map (·.1)=frees scope.names:=by refine(NA (acc:=[]) (λU h=>nomatch h) hf) _ λcl d e x=> ?_;refine#[cl,?_,e,x.trans (List.append_nil _)];unfold closureFor;rw[←bind_pure (pure cl),←d];rfl
def HE{cl:k17}:n∈cl.map (·.1)->∃c,cl.lookup n=some c:=by
 induction cl with
 |nil=>exactλh=>nomatch h
 |cons p r d=>
  intro h;rw[List.lookup_cons];cases q:n==p.1 with
  |true=>exact#[_,rfl]
  |false=>exact d ((b8.mp h).resolve_left λe=>by rw[e,beq_self_eq_true]at q;cases q)
def HM(h:(n,NameKind.free)∈names):n∈frees names:=List.mem_reverse.mpr (bv.mpr #[(n,.free),fZ.mpr #[h,rfl],rfl])
def NG{scope:Scope}(hf:∀n,(n,NameKind.free)∈scope.names->∃c,env.cells.lookup n=some c):∃cl,closureFor scope env=pure cl/\(∀p∈cl,env.cells.lookup p.1=some p.2)/\∀n,(n,NameKind.free)∈scope.names->∃c,cl.lookup n=some c:=
 (Db hf).imp λcl q=>#[q.1,q.2.1,λn h=>HE (cl:=cl) (n:=n) (by rw[q.2.2];exact HM h)]
def St.grow(S:St J L m W h s){hp:Heap}(hk:∀b o,s.heap.get? b=some o->hp.get? b=some o):St J L m W h {s with heap:=hp,toks:=t}:=by obtain⟨d,N,R⟩:=S.nw;exact S.put (S.fr.keptAll hk) (λp hp=>#[hk _ _ (N p hp).1,(N p hp).2]) R
structure oH(A:Around)(env:Env)(W:Wd)(Z:Lc->Shared->Prop):Prop where
 put:∀l s x n v pv (E:k01),Z l s->bR env.scope x n cz=true->VR W v pv->wpAny gM A (storeName env n pv) (λU s'=>Z (upd l x v) s') E s
 tup:∀l s xs pv,Z l s->VR W (.tup xs) pv->∃x vs,pv=.ref x/\IsTup s.heap x (List.toArray vs)/\aA W xs vs
 grow:∀l s h',Z l s->(∀b o,s.heap.get? b=some o->h'.get? b=some o)->Z l {s with heap:=h'}
def oH.order{Z:Lc->Shared->Prop}(T:oH A env W Z)(h:Ig env.scope ts es=true):∀{xs:k00} {vs:k04} {l l':Lc} {s:Shared},f6.go ts xs l=some l'->aA W xs vs->Z l s->
 wpAny gM A (assignInOrder ((assignEach es env).map (·.2)) vs) (λU s'=>Z l' s') E s:=by
 refine qR (M:=λts es=>∀{xs:k00} {vs:k04} {l l':Lc} {s:Shared},f6.go ts xs l=some l'->aA W xs vs->Z l s->
  wpAny gM A (assignInOrder ((assignEach es env).map (·.2)) vs) (λU s'=>Z l' s') E s) ?_ ?_ h
 .intro xs vs l l' s e R z;induction xs using List.casesOn with
  |cons=>exact no e
  |nil=>cases(R:vs=[]);exact aL e▸assignInOrder_nil z
 .intro x r e es d _ B xs vs l l' s q R z;induction xs using List.casesOn with
  |nil=>exact no q
  |cons y O=>refine eR d λn p d=> ?_;refine R.f7 λpv G hv R=> ?_;exact assignInOrder_cons (wpAny_assign_Name (bj (T.put _ _ _ _ _ _ _ z d hv) (λU s' J=>B q R J) λU U q=>q))
def CG{af:Type}{f:af->Str->Bool}{ts:List af}(h:all2 (λx=>xN (f x)) ts es=true):(assignEach es env).length=ts.length/\(assignEach es env).findIdx? (·.1)=none:=by refine qR (M:=λ(ts:List af) (es:k18)=>(assignEach es env).length=ts.length/\(assignEach es env).findIdx? (·.1)=none) #[rfl,rfl] ?_ h;intro x r e es d _ B;refine eR d λn p d=> ?_;refine#[aq (· +1) B.1,?_];show((false,assign (.Name n p) env)::assignEach es env).findIdx? (·.1)=none;rw[List.findIdx?_cons,B.2];rfl
def MM:∀{ts:k06} {xs:k00} {l l':Lc},f6.go ts xs l=some l'->xs.length=ts.length:=λ{ts}=>by
 induction ts with
 |nil=>intro xs l l' h;induction xs using List.casesOn with|nil=>rfl|cons=>exact no h
 |cons t ts d=>intro xs l l' h;induction xs using List.casesOn with|nil=>exact no h|cons=>exact aq (· +1) (d h)
def oH.Kc{Z:Lc->Shared->Prop}(T:oH A env W Z)(D:A.handled=none)(u:lh env.scope ts t=true)(e:f6 ts v l=some l')(hv:VR W v pv)(z:Z l s):
 wpAny gM A (assign t env pv) (λU s'=>Z l' s') E s:=by
 induction ts using List.casesOn with
 |nil=>exact no e
 |cons x r=>
 induction r using List.casesOn with
 |nil=>refine eR u λn p u=>aL e▸wpAny_assign_Name (T.put _ _ _ _ _ _ _ z u hv)
 |cons y r=>refine qv u λes G p u=> ?_;revert hv;refine Bv e λxs e hv=> ?_;obtain⟨a,vs,rfl,d,h⟩:=T.tup _ _ _ _ z hv;have n:=CG (env:=env) u;refine assign_Tuple_tuple D d (by rw[n.1,←MM e,←h.length];simp) n.2 λhp B=> ?_;exact T.order u e h (T.grow _ _ _ z λb o q=>B b o (Nat.ne_of_lt (Heap.lt_size q)) q)
def zq(h:cz q=true):q=.local:=by cases q<;>first|rfl|cases h
def YM(hb:gx.hb.StaysIn J)(B:Lb env G W)(h:H):oH A env W (λl s=>∃o,eC W o l/\St J L m (W.aw env.locals (some o)) h s):=by
 refine#[λl s x n v pv E z hx hv=> ?_,λl s xs pv z hv=> ?_,λl s h' z hk=>z.imp λo z=>#[z.1,z.2.grow (t:=s.toks) hk]]
 .obtain⟨o,ai,S⟩:=z;obtain⟨rfl,Q,⟨q,hq,hk⟩,d1,d2⟩:=mh hx;have cG:env.kindOf (nm x)=some .local:=zq hk▸hq;obtain⟨es,ep,h1,h2,h3⟩:=ai;have hp:(W.aw env.locals (some o)).ar env.locals=some o:=al rfl;have cP:s.heap.Ns env.locals (λy=>nsFind es y):=#[o,es,ep,S.ar hp,h1,h2,λU=>rfl];refine wpAny_storeName_local cG cP (λh' nE jZ=> ?_) (by rw[B.fn];rfl);obtain⟨O,kJ,O8,jp,gc,eH,D⟩:=nE;have P:=S.iU (t:=s.toks+1) hp jZ jp;have hW:(W.aw env.locals (some o)).aw env.locals (some O)=W.aw env.locals (some O):=by unfold Wd.aw;congr 1;funext y;by_cases c:y=env.locals<;>simp[c]
  rw[hW]at P;refine#[O,#[kJ,O8,gc,eH,λy u d=> ?_],P];unfold upd at d;by_cases c:y=x
  .rw[al c]at d;cases d;subst c;exact#[Q,pv,by rw[D];exact al rfl,hv]
  .rw[ak c]at d;obtain⟨a,pu,b1,b2⟩:=h3 y u d;exact#[a,pu,by rw[D];show(if nm y=nm x then some pv else nsFind es (nm y))=_;rw[ak λq=>c (iK a Q q)];exact b1,b2]
 .obtain⟨o,_,S⟩:=z;obtain⟨x,vs,e,t,r⟩:=S.tup hb (VR.up (W:=W) (W':=W.aw env.locals (some o)) (.of rfl rfl) _ _ hv);exact#[x,vs,e,t,aA.up (W:=W.aw env.locals (some o)) (W':=W) (.of rfl rfl) r]
variable{R:k22}
def NQ(ae:Nat->Shared->Prop)
 (turn:∀n s,ae n s->wpAny (model prog w) A (pyNext it) (λr cj=>match r with
   |none=>R (.ok .next) cj
   |some v=>wpAny (model prog w) A (letOwnedTupleGo u it v) (λU Q=>wpAny (model prog w) A (assign u env v) (λU il=>
    wpAny (model prog w) A (forIn y true λc r=>if r=true then do let ok←isTrue c env (eval c env);pure (ForInStep.yield ok)else pure (ForInStep.yield r)) (λok z=>
     if ok=true then wpAny (model prog w) A (eval D env) (λx mo=>
      wpAny (model prog w) A (call (.builtin "list.append") [acc,x]) (λU vF=>∃m,m<n/\ae m vF) (λU U=>False) mo) (λU U=>False) z
     else∃m,m<n/\ae m z) (λU U=>False) il) (λU U=>False) Q) (λU U=>False) cj) (λU U=>False) s)
 (n:Nat)(h:ae n s):
 codeAny (model prog w) A (.compLoop (.ListComp D [#[u,iter,y,0]] scope pos) 0 it acc env) R s:=by
 refine codeAny_loop rfl ae (λn s B=> ?_) n h;show wpAny _ A ((compTurn (.ListComp D [#[u,iter,y,0]] scope pos) 0 it acc env).onRaise (λx=>do noteFrame x env;theTreesLotGoes x)) _ _ s;refine wpAny_noted ?_;rw[compTurn_list];refine av (wpAny_standAt (av (bj (turn n s B) (λr cj d=> ?_) λU U h'=>h'.elim)));cases r with
 |none=>exact aJ d
 |some v=>
  refine av (bj d (λU Q G=> ?_) λU U h'=>h'.elim);refine av (bj G (λU il J=>av (bj J (λok z e=> ?_) λU U h'=>h'.elim)) λU U h'=>h'.elim);cases ok with
  |false=>exact aJ #[rfl,e]
  |true=>exact av (av (bj e (λx mo O=>av (bj O (λU vF P=>aJ (aJ #[rfl,P])) λU U h'=>h'.elim)) λU U h'=>h'.elim))
def bg.Zi(R:bg W h news)(hx:W.ar x=some o):bg ((W.aw x none).eo x o) h news:=by
 obtain⟨u,D,O⟩:=R.ar x o hx;have k:W.Le {((W.aw x none).eo x o)with ar:=W.ar}:=#[λU U e=>e,λU U e=>e,λy d e=>by
  show(if y=x then some o else W.aI y)=_;rw[ak λq=>by rw[q,O]at e;cases e];exact e,λU U e=>e,λU U e=>e]
 have G:∀b d,OR W news b d->OR ((W.aw x none).eo x o) news b d:=λb d z=>OR.up (W:={((W.aw x none).eo x o)with ar:=W.ar}) (W':=(W.aw x none).eo x o) (.of rfl rfl) (λU U e=>e) R.bp (λU U U m=>m) (z.mono k R.bp λU U U m=>m)
 refine#[R.nd,λy d e=> ?_,λy d e=> ?_,R.pin,R.own,R.bp,R.fresh,λa d e=>G _ _ (R.live a d e),λa es e=>G _ _ (R.pins a es e),λN J=> ?_]
 .change (if y=x then some o else W.aI y)=_ at e;by_cases q:y=x
  .rw[al q]at e;cases e;subst q;exact#[u,D]
  .rw[ak q]at e;exact R.aI y d e
 .change (if y=x then none else W.ar y)=_ at e;by_cases q:y=x
  .rw[al q]at e;cases e
  .rw[ak q]at e;have z:=R.ar y d e;refine#[z.1,z.2.1,?_];show(if y=x then some o else W.aI y)=_;rw[ak q];exact z.2.2
 .have T:=R.tabs N J;have B:N.P≠x:=λq=>by have:=T.ar;rw[q,hx]at this;cases this
  exact T.mono T.own ((ak B).trans T.aI) ((ak B).trans T.ar) #[λU U e=>e,k.aI] λU m=>m
def St.handOut(S:St J L m W h s)(hp:W.ar ai=some (listOf (List.toArray vs) n))(R:aA W xs vs)(e:jz z xs h Q){W0:Wd}(le:W0.Le W)(u:W0.ar ai=none):
 dB J L m W0 Q (.ref ai) s:=by
 obtain⟨d,N,x⟩:=S.nw;obtain⟨O,ho,G⟩:=x.ar _ _ hp;obtain⟨_,e⟩:=e;induction z using Bool.casesOn with
 |true=>
  obtain UB:W0.Le ((W.aw ai none).eo ai (listOf (List.toArray vs) n)):=#[le.aN,le.own,λy ob q=>by
   show(if y=ai then some _ else W.aI y)=_;have:=le.aI _ _ q;rw[ak λc=>by rw[c,G]at this;cases this];exact this,λy ob q=>by
   show(if y=ai then none else W.ar y)=_;rw[ak λc=>by rw[c,u]at q;cases q];exact le.ar _ _ q,le.pin]
  refine(λU z=>z _ h (.fz xs) UB #[S.fr,#[d,N,x.Zi hp],S.gens,S.os] (λU z=>z ai vs n rfl (.inl (al rfl)) ?_) e);obtain k:W.Le {((W.aw ai none).eo ai (listOf (List.toArray vs) n))with ar:=W.ar}:=#[λU U e=>e,λU U e=>e,λy ob e=>by
   show(if y=ai then some _ else W.aI y)=_;rw[ak λq=>by rw[q,G]at e;cases e];exact e,λU U e=>e,λU U e=>e]
  exact aA.up (W:=W) (W':=(W.aw ai none).eo ai (listOf (List.toArray vs) n)) #[λU U e=>e,k.aI] R
 |false=>obtain⟨a,B,q⟩:=e;have P:=x.fresh a B;obtain D:=x.adopt (a:=a) B hp (o':=listOf (List.toArray vs) n) (ob:=.list xs) λW' yn hr=>#[ai,vs,n,hr,iH O,by subst yn;exact aA.up (.adopt P) R];exactλU z=>z _ _ (.ref a) (le.adopt u ho P) #[S.fr,#[_,N.replace (.refl ..) (N.get O),D],S.gens,S.os] (.r (al rfl)) q
def n8{aK af:Type}[BEq aK][LawfulBEq aK]{n:aK}{k:af}{l:List (aK×af)}:l.lookup n=some k->(n,k)∈l:=by
 induction l with
 |nil=>exact no
 |cons p r d=>
  intro h;rw[List.lookup_cons]at h;cases q:n==p.1 with
  |true=>rw[q]at h;exact b8.mpr (.inl (Prod.ext (eq_of_beq q) (aL h).symm))
  |false=>rw[q]at h;exact .tail _ (d h)
structure Cb(sc scope:Scope):Prop where
 fn:scope.kind=.function
 own:∀p∈scope.names,scope.names.lookup p.1=some p.2
 kd:∀p∈scope.names,p.2=.local\/p.2=.globalImplicit\/(p.2=.free/\sc.names.lookup p.1=some .cell)
def Il(h:pX sc scope=true):Cb sc scope:=by have d:=an (an h).1;have e:=an (an (an d.1).1).1;refine#[eq_of_beq e.1,λp hp=>eq_of_beq (gy.mp d.2 p hp),λp hp=> ?_];have:=gy.mp (an h).2 p hp;obtain⟨n,k⟩:=p;cases k<;>first|exact .inl rfl|exact .inr (.inl rfl)|exact .inr (.inr #[rfl,eq_of_beq this])|exact aQ this
def Ji{sc scope:Scope}(a:Cb sc scope)(hk:pG k=true)(u:(relabel scope env).names.lookup n=some k):(n,NameKind.free)∈scope.names:=by
 obtain⟨p,hp,h⟩:=bv.mp (n8 u);obtain q:=a.kd p hp;obtain⟨b,kd⟩:=p;rcases q with e|e|e
 .cases(e:kd=_);cases(show(b,NameKind.local)=(n,k)from h);cases hk
 .cases(e:kd=_);cases(show(b,NameKind.globalImplicit)=(n,k)from h);cases hk
 .cases(e.1:kd=_);have:n=b:=by obtain z:n=_:=(aq Prod.fst h).symm;rw[z];dsimp only;split<;>rfl
  exact this▸hp
def NT(aa:Lb env G W)(Q:pX env.scope scope=true):∃cl,closureFor scope env=pure cl/\∀C,Lb (compEnvC scope cl C env) G W:=by
 have a:=Il Q;have J:∀n,(n,NameKind.free)∈scope.names->env.scope.names.lookup n=some .cell:=λn h=>by
  rcases a.kd _ h with e|e|e
  .cases e
  .cases e
  .exact e.2
 obtain⟨cl,y,z,d⟩:=NG (env:=env) (scope:=scope) λn h=>aa.own n (J n h);refine#[cl,y,λC=>#[a.fn,aa.nh,aa.blt,λx b e q=> ?_,λn h=>d _ (Ji (k:=.cell) a rfl h)]];obtain⟨k,q1,q2⟩:=q;have u:=Ji a q2 q1;obtain⟨c,O⟩:=d _ u;obtain⟨c',B,D⟩:=aa.cf x b e #[.cell,J _ u,rfl];have P:=z _ (n8 O);dsimp only at P;rw[P]at B;exact#[c,O,aL B▸D]
def Wd.dS(W:Wd)(x:Addr)(o:Option Obj):(W.aw x o).ar x=o:=al rfl
def Wd.dm(W:Wd)(o:Option Obj)(n:y≠x):(W.aw x o).ar y=W.ar y:=ak n
def Wd.ext'{z:Nm->Option Addr}{own:Addr->Option Nm}{u ar y pin:Addr->Option Obj}(h:ar=y):Wd.mk z own u ar pin=Wd.mk z own u y pin:=h▸rfl
def Wd.WN(W:Wd){x:Addr}{o:Obj}(h:W.ar x=some o):W.aw x (some o)=W:=
 Wd.ext' (funext λy=>by
  by_cases c:y=x
  .exact(al c).trans (c▸h.symm)
  .exact ak c)
def eC.none(ai:eC W o l):eC W o (λU=>none):=ai.imp λes ai=>ai.imp λd ai=>#[ai.1,ai.2.1,λU U e=>no e]
def eC.up(k:W.Lv W')(ai:eC W o l):eC W' o l:=ai.imp λes ai=>ai.imp λd ai=>#[ai.1,ai.2.1,λx v e=>#[(ai.2.2 x v e).1,(ai.2.2 x v e).2.imp λpv q=>#[q.1,q.2.up k]]]
def eC.aw{W':Wd}(u:W'.aN=W.aN)(y:W'.aI=W.aI)(ai:eC W o l):eC W' o l:=ai.up (.of u y)
def wV(P:Y)(O:Fn)(G:Ka)(e:Internal.E)(ts:k06)(cs:Es)(x:V)(h:H)(K:Option V->H->Prop):Prop:=
 ay (f6 ts x λU=>none) λd=>my P O G cs d h (λb h=>if b then au P O G e false d h (λu h=>K (some u) h) (λU U=>False)else K none h) (λU U=>False)
def qN(P:Y)(O:Fn)(A:Around)(J:Heap)(L:Addr)(m:k03)(RX:ag)(env:Env)(G:Ka)(cs:Es)(u:k18):Prop:=
 (cs=.nil/\u=[])\/∃c r d,cs=.cons c r/\u=[d]/\EG P O A J L m RX env G c d
def H6(e:Value)(s:Shared)(p:bz RX W (λU U=>False) e s):False:=by exact p _ λU U U U U q=>q
def Oy(T:qN P O A J L m RX env G cs u)(aa:Lo L m env G W l)(S:St J L m W h s){Q:Bool->H->Prop}(q:my P O G cs l h Q (λU U=>False)){K:k29}
 (k:∀W' h' s' b,W.Le W'->St J L m W' h' s'->Q b h'->K b s'):
 wpAny gM A (forIn u true λc r=>if r=true then do let ok←isTrue c env (eval c env);pure (ForInStep.yield ok)else pure (ForInStep.yield r)) K (λU U=>False) s:=by
 rcases T with⟨rfl,rfl⟩|⟨c,r,e,rfl,rfl,ae⟩
 .exact wpAny_tests_nil (k W h s true (.refl W) S q)
 .exact wpAny_tests_one (bj (ae.t.step aa S q λW' h' s' b le d r=>k W' h' s' b le d r) (λU U q=>q) H6)
def Wd.Lv.aw{W:Wd}:W.Lv (W.aw x o):=#[λU U e=>e,λU U e=>e]
def NP{c:H->Prop}{B:V->H->(Option V->H->Prop)->Prop}{Q:k21}(w:gZ c B xs acc h Q):c h:=by
 induction xs using List.casesOn with
 |nil=>exact w.1
 |cons x r=>exact w.1
def xp{af:Type}{xs:List af}{x:af}(e:xs[i]? =some x):xs.drop i=x::xs.drop (i+1):=by obtain⟨h,e⟩:=eU.mp e;exact e▸List.drop_eq_getElem_cons h
def Eh{af:Type}{xs:List af}(e:xs[i]? =none):xs.drop i=[]:=List.drop_eq_nil_iff.mpr (List.getElem?_eq_none_iff.mp e)
def wu{af:Type}{xs:List af}{x:af}(e:xs[i]? =some x):i<xs.length:=(eU.mp e).1
structure sY(W:Wd)(ae ai C:Addr):Prop where
 zI:W.ar ae=none
 aap:W.ar ai=none
 aao:W.ar C=none
 ID:ae≠ai
 IC:ae≠C
 DC:ai≠C
structure fD(W1:Wd)(ae ai C:Addr)(W:Wd)(oI:Obj)(acc:k04)(n:Nat)(ac:k00)(oC:Obj)(l:Lc):Prop where
 le:W1.Le W
 hI:W.ar ae=some oI
 hD:W.ar ai=some (listOf (List.toArray acc) n)
 ha:aA W ac acc
 hC:W.ar C=some oC
 hd:eC W oC l
variable{W1:Wd}{ae ai C:Addr}{oI oC:Obj}{acc:k04}{n:Nat}{ac:k00}
def fD.turn(Z:sY W1 ae ai C)(w:fD W1 ae ai C W oI acc n ac oC l):fD W1 ae ai C (W.aw ae (some o)) o acc n ac oC l:=
 #[w.le.bare Z.zI _,W.dS _ _,(W.dm _ Z.ID.symm).trans w.hD,w.ha.up .aw,(W.dm _ Z.IC.symm).trans w.hC,w.hd.up .aw]
def fD.bound(Z:sY W1 ae ai C)(w:fD W1 ae ai C W oI acc n ac oC l)(d:eC W o l'):fD W1 ae ai C (W.aw C (some o)) oI acc n ac o l':=
 #[w.le.bare Z.aao _,(W.dm _ Z.IC).trans w.hI,(W.dm _ Z.DC).trans w.hD,w.ha.up .aw,W.dS _ _,d.up .aw]
def fD.up(w:fD W1 ae ai C W oI acc n ac oC l)(k:W.Le W'):fD W1 ae ai C W' oI acc n ac oC l:=
 #[w.le.trans k,k.ar _ _ w.hI,k.ar _ _ w.hD,w.ha.mono k,k.ar _ _ w.hC,w.hd.mono k]
def fD.none(w:fD W1 ae ai C W oI acc n ac oC l):fD W1 ae ai C W oI acc n ac oC (λU=>none):=#[w.le,w.hI,w.hD,w.ha,w.hC,w.hd.none]
def fD.more(Z:sY W1 ae ai C)(w:fD W1 ae ai C W oI acc n ac oC l)(z:VR W u y):fD W1 ae ai C (W.aw ai (some (listOf (List.toArray (acc++[y])) D))) oI (acc++[y]) D (ac++[u]) oC l:=
 #[w.le.bare Z.aap _,(W.dm _ Z.ID).trans w.hI,W.dS _ _,(w.ha.snoc z).up .aw,(W.dm _ Z.DC.symm).trans w.hC,w.hd.up .aw]
def BP(J:Heap)(L:Addr)(m:k03)(W1:Wd)(ae ai C:Addr)(u:Nat->Obj->Prop)(N:Nat)(y:Nat->List V->H->Prop)(k:Nat)(s:Shared):Prop:=∀d:Prop,(∀(i:Nat) (W:Wd) (h:H) (acc:k04) (ac:k00) (n:Nat) (oI oC:Obj) (hk:k=N-i) (x:i<=N) (S:St J L m W h s) (w:fD W1 ae ai C W oI acc n ac oC λU=>none) (e:u i oI) (B:ac.length<=i) (G:y i ac h),d)->d
def qy(J:Heap)(L:Addr)(m:k03)(W1:Wd)(ai C:Addr)(Q:k21)(s:Shared):Prop:=∀d:Prop,(∀(W:Wd) (h:H) (acc:k04) (ac:k00) (n:Nat) (oC:Obj) (le:W1.Le W) (S:St J L m W h s) (x:W.ar ai=some (listOf (List.toArray acc) n)) (B:aA W ac acc) (e:W.ar C=some oC) (hd:eC W oC λU=>none) (q:Q ac h),d)->d
def Mq(acc:k04)(u:Value):(List.toArray acc).push u=List.toArray (acc++[u]):=by simp
def wW(h:i<N):N-(i+1)<N-i:=Nat.sub_lt_sub_left h (bA i)
def NV(F:Fx P O A J L m RX){c:H->Prop}{xs:k00}{Ob:Nat->Obj->Prop}{R:k22}{Qf:k21}
 (T:i8 A J L m W1 ae c xs Ob)(Bc:Lb env G W1)(Z:sY W1 ae ai env.locals)(bl:xs.length<=1000)
 (ht:lh env.scope ts t=true)(IE:EG P O A J L m RX env G e jS)(IC:qN P O A J L m RX env G cs ifs)
 (fin:∀s',qy J L m W1 ai env.locals Qf s'->R (.ok .next) s')(k:Nat)(s':Shared)(rO:BP J L m W1 ae ai env.locals Ob xs.length (λi ac h'=>gZ c (wV P O G e ts cs) (xs.drop i) ac h' Qf) k s'):
 codeAny gM A (.compLoop (.ListComp jS [#[t,iter,ifs,0]] scope pos) 0 (.ref ae) (.ref ai) env) R s':=by
 refine NQ (BP J L m W1 ae ai env.locals Ob xs.length λi ac h'=>gZ c (wV P O G e ts cs) (xs.drop i) ac h' Qf) (λk s yL=> ?_) k rO;clear rO;refine yL _ λi W' h' acc ac n oI oC hk hi S w hO hl h=> ?_;dsimp only at h;refine T.next W' h' s i oI _ _ (w.le.bare Z.zI none) S w.hI hO (NP h) (λpu s1 B x Q pt D kT=> ?_) λQ s1 D=> ?_
 .
  have bZ:=wu Q;rw[xp Q]at h;refine bo h.2 λl' du h=> ?_;have y:=w.turn Z (o:=B);have ry:VR (W'.aw ae (some B)) x pu:=kT.up .aw _ _;clear Q w S hO kT;generalize W'.aw ae (some B)=W2 at*;refine T.go (i+1) B s1 t pu _ _ (D.ar y.hI) pt ?_;have Z':=YM (m:=m) (J:=J) (L:=L) (A:=A) F.hb (Bc.mono y.le) h';refine bj (Z'.Kc F.handled ht du ry #[oC,y.hd,by rw[Wd.WN _ y.hC];exact D]) (λU s2 z2=> ?_) λU U q=>q;clear Z' du ry D;obtain⟨sh,D2,S2⟩:=z2;have d:=y.bound Z D2;clear y D2;generalize W2.aw env.locals (some sh)=W3 at*;refine Oy IC #[Bc.mono d.le,.inr #[sh,d.hC,d.hd]] S2 h λW4 h4 s4 b nY S4 zf=> ?_;have O3:Lo L m env G W4 l':=#[Bc.mono (d.le.trans nY),.inr #[sh,nY.ar _ _ d.hC,d.hd.mono nY]];have w4:=d.up nY;clear d nY S2 h;induction b using Bool.casesOn with
  |false=>exact#[_,hk▸wW bZ,λU y9=>y9 (i+1) W4 h4 acc ac n B sh rfl bZ S4 w4.none pt (Nat.le_succ_of_le hl) zf]
  |true=>refine bj (IE.v.step O3 S4 zf λaaF h5 s5 u AS HB S5 Tj Tm=> ?_) (λU U q=>q) H6;have w5:=w4.up HB;have yj:=S5.ar w5.hD;have aee:acc.length<=1000:=w5.ha.length▸bk hl (bk hi bl);clear w4 S4 O3 zf HB;refine call_meets PySem.F.slot_list_append #[_,yj,rfl] PySem.F.entry_list_append (PySem.F.args_list_append_2 _ _) (PySem.list_append ai (List.toArray acc) n AS (by simp only[fi,fk];lia)) #[yj,?_];have z:=PySem.IsL.update yj (λa=>a.push AS);rw[Mq]at z;exact#[_,hk▸wW bZ,λU y9=>y9 (i+1) _ h5 (acc++[AS]) (ac++[u]) _ B sh rfl bZ (S5.iU (t:=s5.toks) w5.hD (Heap.SameBut.update ..) z) ((w5.more Z Tj).none) pt (by rw[eV];exact Nat.succ_le_succ hl) Tm]
 .
  rw[Eh Q]at h;exact fin s1 (λU z=>z (W'.aw ae none) h' acc ac n oC (w.le.bare Z.zI _) D ((W'.dm _ Z.ID.symm).trans w.hD) (w.ha.up .aw) ((W'.dm _ Z.IC.symm).trans w.hC) (w.hd.up .aw) h.2)
def Wd.p9(W:Wd)(x:Addr)(a b:Option Obj):(W.aw x a).aw x b=W.aw x b:=by
 exact Wd.ext' (funext λy=>by
  by_cases c:y=x
  .exact(al c).trans (al c).symm
  .exact(ak c).trans ((ak c).trans (ak c).symm))
def P9(h:Aq e=true):foldedSetIterable e env x=pure x:=by cases e<;>first|rfl|cases h
def mP(P:Y)(O:Fn)(A:Around)(J:Heap)(L:Addr)(m:k03)(RX:ag)(env:Env)(G:Ka)(u:Bool)(y:Internal.E)(it:Expr):Prop:=
 (u=false/\Aq it=true/\EG P O A J L m RX env G y it)\/∃f n p,u=true/\it=.Call f [n] [] p/\ib env.scope "range" f=true/\cT n=true/\EG P O A J L m RX env G y n
def mP.EQ(H:mP P O A J L m RX env G u y it)(x:Value):foldedSetIterable it env x=pure x:=by
 rcases H with⟨_,h,_⟩|⟨f,n,p,_,rfl,_⟩
 .exact P9 h
 .rfl
def Ui{M:Model}{n:String}{hp:Heap}:fF M (.type n) hp:=#[.machine,.inr (.inl rfl),Looks.of_pure rfl]
def Em(F:Fx P O A J L m RX)(B:fW)(H:mP P O A J L m RX env G D dq it)(aa:Lo L m env G W l)(S:St J L m W h s){Q X:QV}(hw:au P O G dq false l h Q X){K:k01}
 (F9:∀v h,Q v h->pinned D v h=none->∃xs,eA D v h=some xs/\xs.length<=1000)
 (kp:∀v h' a es,Q v h'->pinned D v h'=some (a,es)->∀W' s' pv,W.Le W'->St J L m W' h' s'->VR W' v pv->wpAny gM A (pyIter pv) K (bz RX W X) s')
 (k:∀W' v xs ae o y h' s',W.Le W'->Q v h'->pinned D v h'=none->eA D v h'=some xs->(∀m',i8 A J L m' W' ae (cE D v xs) xs y)->y 0 o->St J L m (W'.aw ae (some o)) h' s'->W'.ar ae=none->W'.Le (W'.aw ae (some o))->K (.ref ae) s'):
 wpAny gM A (eval it env) (λx cj=>wpAny gM A (pyIter x) K (bz RX W X) cj) (bz RX W X) s:=by
 rcases H with⟨rfl,h1,ae⟩|⟨f,n,p,rfl,rfl,hb,hs,ae⟩
 .refine ae.v.step aa S hw λW' h' s' u pu le S' z r=> ?_;rcases hp:pinned false u h' with _|a;case some=>exact kp u h' a.1 a.2 r hp W' s' pu le S' z
  .obtain⟨xs,d,_⟩:=F9 u h' r hp;have lW:eL h' u=some xs:=d;exact GP F.hb F.handled S' z lW λae o y s2 T hO S2 e8 bK=>k W' u xs ae o y h' s2 le r hp d T hO S2 e8 bK
 .refine xr F (vh hb) hs hb B.range (v:=.type "range") (by rfl) (by decide) (by decide) (λU=>Ui) ae aa S hw λW' h' s' u pu le S' z r=> ?_;have hp:pinned true u h'=none:=rfl;obtain⟨xs,d,bl⟩:=F9 u h' r hp;revert r z hp;refine gJ d λi d z r hp=> ?_;exact dw d λh0 e=>by cases aL e;exact Xb F.handled S' z h0 bl λW2 ae o y s2 bK T hO S2 e8 c9=>k W2 _ _ ae o y h' s2 (le.trans bK) r hp d T hO S2 e8 c9
def qy.le{Q:k21}(E:qy J L m W1 ai C Q s)(k:W.Le W1):qy J L m W ai C Q s:=by exact E _ λW h acc ac n oC le S e x d hd q=>λU y=>y W h acc ac n oC (k.trans le) S e x d hd q
def YI(e:eA u v h=some xs)(hp:pinned u v h=some p):False:=by
 induction u using Bool.casesOn with
 |true=>exact no hp
 |false=>revert e;refine lj hp λa hp e=> ?_;refine gi hp λes hp U=> ?_;have e':gL (h a)=some xs:=e;rw[rg hp]at e';exact no e'
def Di(F:Fx P O A J L m RX)(B:fW){Qr:k01}{Qf:k21}
 (H:mP P O A J L m RX env G cU dq it)(pD:pX env.scope scope=true)(ht:lh (lL env.scope scope) ts t=true)(IE:∀cl C,EG P O A J L m RX (compEnvC scope cl C env) G e jS)(IC:∀cl C,qN P O A J L m RX (compEnvC scope cl C env) G cs ifs)
 (aa:Lo L m env G W l)(S:St J L m W h s)
 (hw:au P O G dq false l h (λv h=>ay (eA cU v h) λxs=>xs.length<=1000/\gZ (cE cU v xs) (wV P O G e ts cs) xs [] h Qf) X)
 (fin:∀s' ai C,W.ar ai=none->W.ar C=none->ai≠C->qy J L m W ai C Qf s'->compPost gM A (bz RX W X) use Qr (.ref ai) C (.ok .next) s'):
 wpAny gM A (comprehension (.ListComp jS [#[t,it,ifs,0]] scope pos) scope env p' (newList []) false (eval it env) use) Qr (bz RX W X) s:=by
 have a:=Il pD;obtain⟨cl,lR,hB⟩:=NT aa.toLb pD;have yq:∀y∈scope.names,y.2≠ .cell:=λy hy e=>by exact(a.kd y hy).elim (λq=>nomatch q.symm.trans e) λq=>q.elim (λq=>nomatch q.symm.trans e) λq=>nomatch q.1.symm.trans e
 refine wpAny_comprehension_free (use:=use) rfl (λx=>H.EQ x) lR a.fn (λy hy hl=>(a.own y hy).trans (aq some hl)) ?_;refine Em F B H aa S hw (λv h r hp=> ?_) (λv h' a es r hp=> ?_) λW1 v xs ae o Ob t8 D dQ r hp hx T hO S1 kS uX=> ?_
 .obtain⟨xs,hx,bl,_⟩:=It.mp r;exact#[xs,hx,bl]
 .exact bo r λxs hx U=>(YI hx hp).elim
 .obtain⟨xs',lW,bl,rG⟩:=It.mp r;rw[hx]at lW;cases lW;obtain⟨S2,bK,u⟩:=S1.hide (o:=listOf (List.toArray []) 0) rfl (t:=D.toks);have ym:ae≠D.heap.objs.size:=λq=>by rw[←q,Wd.dS]at u;cases u
  refine wpAny_newObj_type (wpAny_newFunctionEnv yq (by intro y hy;simp at hy) (λe8 cP uy=> ?_) a.fn);dsimp only at cP uy⊢;obtain⟨S3,c9,d⟩:=S2.hide (o:={cls:=.type "dict",data:=.dict #[]}) rfl (t:=D.toks);dsimp only at S3 c9 d;generalize hCe:(D.heap.push (listOf (List.toArray []) 0)).objs.size=C at*;obtain⟨oC,es,ep,ho,hd,hk,hf⟩:=cP;clear hf;have S4:=S3.iU (x:=C) (t:=D.toks) (Wd.dS ..) uy ho;rw[Wd.p9]at S4;generalize hDe:D.heap.objs.size=ai at*;have Q:C≠ai:=λq=>by rw[q,Wd.dS]at d;cases d
  have yi:C≠ae:=λq=>by rw[Wd.dm _ _ Q,q,Wd.dS]at d;cases d
  rw[Wd.dm _ _ Q,Wd.dm _ _ yi]at d;rw[Wd.dm _ _ ym.symm]at u;have low:∀x,W1.ar x=none->W.ar x=none:=λx q=>lM λob c=>no (q.symm.trans (dQ.ar _ _ c));have nY:W1.Le (((W1.aw ae (some o)).aw ai (some (listOf (List.toArray []) 0))).aw C (some oC)):=((Wd.Le.refl W1).bare kS _ |>.bare u _).bare d _;have Fh:(((W1.aw ae (some o)).aw ai (some (listOf (List.toArray []) 0))).aw C (some oC)).ar ae=some o:=by rw[Wd.dm _ _ yi.symm,Wd.dm _ _ ym,Wd.dS]
  have loop:=NV (env:=compEnvC scope cl C env) (iter:=it) (scope:=scope) (pos:=pos) (R:=compPost gM A (bz RX W X) use Qr (.ref ai) C) F (T m) ((hB C).mono dQ) #[kS,u,d,ym,yi.symm,Q.symm] bl ht (IE cl C) (IC cl C)
   (λs' E=>fin s' ai C (low _ u) (low _ d) Q.symm (E.le dQ)) xs.length _
   (λU y9=>y9 0 _ t8 [] [] 0 o oC rfl (cD _) S4 #[nY,Fh,by rw[Wd.dm _ _ Q.symm,Wd.dS],.z,Wd.dS ..,#[es,ep,hd,hk,λU U e=>no e]] hO (bG _) rG)
  exact codeAny_compStart_list loop ((T m).self 0 o _ _ _ (S4.ar Fh) hO loop)
def eC.ns{hp:Heap}(ai:eC W o l)(ho:hp.get? C=some o):∃mm,hp.Ns C mm:=ai.elim λes ai=>ai.elim λe ai=>#[_,o,es,e,ho,ai.1,ai.2.1,λU=>rfl]
def OE(F:Fx P O A J L m RX)(B:fW)
 (H:mP P O A J L m RX env G cU dq it)(pD:pX env.scope scope=true)(ht:lh (lL env.scope scope) ts t=true)(IE:∀cl C,EG P O A J L m RX (compEnvC scope cl C env) G e y)(D:∀cl C,qN P O A J L m RX (compEnvC scope cl C env) G cs u):
 EG P O A J L m RX env G (.comp z e ts cU dq cs) (.ListComp y [#[t,it,u,0]] scope pos):=by
 refine .di F (λW h s l Q X aa S q=> ?_) (λl h Q X q=>q) rfl;show wpAny _ _ (comprehension (.ListComp y [#[t,it,u,0]] scope pos) scope env _ (newList []) false (eval it env) none) _ _ _;refine Di (Qf:=λus h=>jz z us h λv h=>tq false Q v h) F B H pD ht IE D aa S q λs' ai C hD hC yk E=> ?_;refine E _ λW' h' acc ac n oC le d p1 p2 x p4 p5=> ?_;obtain⟨mm,cP⟩:=p4.ns (d.ar x);exact#[mm,cP,λhp hs=>(d.o6 (t:=s'.toks) x hs.extBut).handOut ((W'.dm _ yk).trans p1) (p2.up .aw) p5 (le.bare hC _) hD]
variable{aK:Type}{c:Const}
@[elab_as_elim]def wx{k:Int->Bool}{M:Const->Prop}(h:cI k c=true)(m:∀j,k j=true->M (.int j)):M c:=by obtain⟨j,rfl,q⟩:=MX h;exact m j q
@[elab_as_elim]def CT{k:Bool->Bool}{M:Const->Prop}(h:cB k c=true)(m:∀j,k j=true->M (.bool j)):M c:=by obtain⟨j,rfl,q⟩:=MW h;exact m j q
@[elab_as_elim]def CU{k:Str->Bool}{M:Const->Prop}(h:cS k c=true)(m:∀j,k j=true->M (.str j)):M c:=by obtain⟨j,rfl,q⟩:=CV h;exact m j q
@[elab_as_elim]def lz{k:af->Bool}{M:List af->Prop}{l:List af}(h:x1 k l=true)(m:∀x,k x=true->M [x]):M l:=by obtain⟨j,rfl,q⟩:=vQ h;exact m j q
@[elab_as_elim]def sU{k:af->af->Bool}{M:List af->Prop}{l:List af}(h:x2 k l=true)(m:∀x y,k x y=true->M [x,y]):M l:=by obtain⟨i,j,rfl,q⟩:=KQ h;exact m i j q
@[elab_as_elim]def qh{k:af->Bool}{M:Option af->Prop}{l:Option af}(h:so k l=true)(m:∀x,k x=true->M (some x)):M l:=by obtain⟨j,rfl,q⟩:=vD h;exact m j q
@[elab_as_elim]def bV{M:af->Prop}{a b:af}(h:a=b)(m:M b):M a:=h▸m
@[elab_as_elim]def Qk{M:af->Prop}{a b:af}(h:a=b)(m:M a):M b:=h▸m
@[elab_as_elim]def q7{M:Option af->Prop}{a:Option af}(h:a.isNone=true)(m:M none):M a:=bV (ix.mp h) m
def kq.tests{u:k18}(ah:kq P O A J L m RX env G cs u)(y:u.length<=1):qN P O A J L m RX env G cs u:=by
 induction cs using Es.casesOn with
 |nil=>exact .inl #[rfl,ah]
 |cons c r=>induction u using List.casesOn with
  |nil=>exact False.elim ah
  |cons x t=>
   induction t using List.casesOn with
   |nil=>exact .inr #[c,r,x,rfl,rfl,ah.2.1]
   |cons=>exact absurd y (by simp)
def qJ(sc:Scope)(u:Bool)(y:Internal.E)(it:Expr):Prop:=(u=false/\aM sc y it=true)\/∃f n p,u=true/\it=.Call f [n] [] p/\ib sc "range" f=true/\aM sc y n=true
def JT(h:AB sc u (aM sc y) it=true):qJ sc u y it:=by
 cases u with
 |false=>exact .inl #[rfl,h]
 |true=>obtain⟨f,es,p,rfl,h⟩:=V' h;obtain⟨n,rfl,d⟩:=vQ (an h).2;exact .inr #[_,_,_,rfl,rfl,(an h).1,d]
def LI(sc:Scope)(u:Bool)(e y:Internal.E)(ts:k06)(cs:Es)(pe:Expr):Prop:=∀x:Prop,(∀(B t G:Expr) (d:k18) (scope:Scope) (h:Pos) (q:pe=.ListComp B [#[t,G,d,0]] scope h) (J:pX sc scope=true) (O:lh (lL sc scope) ts t=true) (P:aM (lL sc scope) e B=true) (z:ic (lL sc scope) cs d=true) (D:d.length<=1) (Q:qJ sc u y G),x)->x
def AE(u:aM sc (.comp z e ts y D cs) pe=true):LI sc y e D ts cs pe:=by refine P' u λB G scope p u=>lz u λq u=> ?_;obtain⟨t,J,h,a⟩:=q;have u:=an u;have b:=an u.2;have c:=an b.2;have d:=an c.2;cases aP (an u.1).1;exactλU x=>x _ _ _ _ _ _ rfl (an u.1).2 (an b.1).1 (an b.1).2 c.1 (aP d.1) (JT d.2)
def vV(P:Y)(O:Fn)(A:Around)(J:Heap)(L:Addr)(m:k03)(RX:ag)(G:Ka)(e:Internal.E):Prop:=∀pe env,aM env.scope e pe=true->EG P O A J L m RX env G e pe
def Lg(P:Y)(O:Fn)(A:Around)(J:Heap)(L:Addr)(m:k03)(RX:ag)(G:Ka)(as:Es):Prop:=∀es env,ic env.scope as es=true->kq P O A J L m RX env G as es
def JU(B:fW)(ae:vV P O A J L m RX G u)(h:qJ env.scope y u it):mP P O A J L m RX env G y u it:=by
 rcases h with⟨a,b⟩|⟨f,n,p,a,b,c,d⟩
 .exact .inl #[a,(Ih b).2,ae _ _ b]
 .exact .inr #[f,n,p,a,b,c,j9 d,ae _ _ d]
def Oq(F:Fx P O A J L m RX)(B:fW)(e:Internal.E):vV P O A J L m RX G e:=by
 refine@Internal.E.rec (vV P O A J L m RX G) (Lg P O A J L m RX G) ?_ ?_ ?_ ?_ ?_ ?_ ?_ ?_ ?_ ?_ ?_ ?_ ?_ ?_ ?_ ?_ ?_ ?_ ?_ ?_ ?_ ?_ ?_ ?_ ?_ ?_ ?_ ?_ ?_ ?_ ?_ e
 .intro pe env D;refine jD D λc U U D=> ?_;exact bV (MY D) (OQ F)
 .intro pe env D;refine jD D λc U U D=> ?_;exact CT D λb D=>bV D (Eo (b:=true) F)
 .intro pe env D;refine jD D λc U U D=> ?_;exact CT D λb D=>bV ((Bool.not_eq_true' b).mp D) (Eo (b:=false) F)
 .intro i pe env D;rcases(Bool.or_eq_true _ _).mp D with D|D
  .exact jD D λc U U D=>wx D λj D=>Qk (aP D) (OH F)
  .refine vR D λo x p q=>bV (T4 (an q).1) ?_;exact jD (an q).2 λc U U r=>wx r λj s=>bV (aP s) (OP F)
 .intro n pe env D;refine jD D λc U U D=> ?_;exact CU D λs D=>bV (eq_of_beq (an D).1) (OY F (aP (an D).2))
 .intro x pe env D;refine eR D λU U D=> ?_;exact OL F D
 .intro x pe env D;refine eR D λU U D=> ?_;exact OC F D
 .intro x pe env D;refine eR D λU U D=> ?_;exact OG F D
 .intro e f ae pe env D;refine mz D λv n p D=> ?_;have D:=an D;have b:=an D.2;have c:=an b.2;exact bV (eq_of_beq D.1) (Oz F b.1 c.1 (ae _ _ c.2))
 .intro e i ae aH pe env D;refine qw D λv k p D=> ?_;have D:=an D;have b:=an D.2;exact OJ F D.1 (ae _ _ b.1) (aH _ _ b.2)
 .intro e i ae aH pe env D;refine qw D λv k p D=> ?_;have D:=an D;refine KS D.2 λa b c p w=> ?_;refine q7 (an (an w).1).1 (q7 (an (an w).1).2 ?_);exact qh (an w).2 λx z=>OV F (ae _ _ D.1) (aH _ _ z)
 .intro e n ae pe env D;refine qw D λv k p D=> ?_;have D:=an D;refine KS D.2 λa b c p w=> ?_;refine q7 (an (an w).1).1 (q7 (an (an w).1).2 ?_);exact qh (an w).2 λx z=>jD z λc U U y=>wx y λj u=>bV (aP (an u).1) (OX F (ae _ _ D.1))
 .intro op a b ae aH pe env D;refine KW D λl o r p D=> ?_;have D:=an D;refine lz D.2 λo w=>lz (an w).2 λr z=> ?_;exact bV (M:=λo=>EG P O A J L m RX env G (.cmp op a b) (.Compare l [o] [r] p)) (Jr (an w).1) (OD F (Jr (an w).1▸(Bool.not_eq_true' _).mp (an z).1) (ae _ _ D.1) (aH _ _ (an z).2))
 .intro a b ae aH pe env D;obtain⟨x,y,p,h1,⟨rfl,Q⟩|⟨z,r,rfl,Q⟩⟩:=vS D
  .exact En F (ae _ _ h1) (Iu (aH _ _ Q)) (No (aH _ _ Q))
  .exact En F (ae _ _ h1) (aH _ _ Q).v (C5 (aH _ _ Q))
 .intro a b ae aH pe env D;obtain⟨x,y,p,h1,⟨rfl,Q⟩|⟨z,r,rfl,Q⟩⟩:=vS D
  .exact Ep F (ae _ _ h1) (Iu (aH _ _ Q)) (Np (aH _ _ Q))
  .exact Ep F (ae _ _ h1) (aH _ _ Q).v (C5 (aH _ _ Q))
 .intro a ae pe env D;refine vR D λo x p q=> ?_;exact bV (TW (an q).1) (OS F (ae _ _ (an q).2))
 .intro op a b ae aH pe env D;refine BH D λl o r p D=> ?_;exact bV (XT (an D).1) (OA F (ae _ _ (an (an D).2).1) (aH _ _ (an (an D).2).2))
 .intro c a b ae aH K pe env D;refine KU D λt x y p D=> ?_;have D:=an D;exact OI F (ae _ _ D.1) (aH _ _ (an D.2).1) (K _ _ (an D.2).2)
 .intro z xs ae pe env D;refine BJ D λes p D=> ?_;exact OM F (ae _ _ D).o7
 .intro xs ae pe env D;refine qv D λes n p D=> ?_;exact OZ F (ae _ _ D).o7
 .intro z pe env D;refine BI D λa b p q=> ?_;exact bV (iJ (an q).1) (bV (iJ (an q).2) (OF F))
 .intro ks vs ae pe env D;refine BI D λa b p D=> ?_;have D:=an D;have h1:=an D.1;have Q:=an D.2;have h3:=an Q.1;have h4:=an Q.2;exact OU F h1.1 (aP h1.2) (aP h3.1) (aP h3.2) (aP h4.1) (ae _ _ h4.2)
 .intro z e ts cU dq cs ae aH K pe env D;refine(AE D) _ λjS t it ifs scope pos q Q h3 h4 h5 h6 h7=> ?_;exact bV q<|OE F B (JU B aH h7) Q h3 (λcl C=>ae _ (compEnvC _ cl C env) h4) λcl C=>(K _ (compEnvC _ cl C env) h5).tests h6
 .intro z x n ae aH pe env D;refine BH D λl o r p D=> ?_;have b:=an (an D).2;exact bV (TV (an D).1) (BJ b.1 λes p w=>lz w λy w=>OT F (j9 w) (ae _ _ w) (aH _ _ b.2))
 .intro f as ae aH pe env D;refine lA D λg es p D=> ?_;have D:=an D;have a:=an D.1;have b:=an D.2;exact OB F a.1 (Ay b.1) (Ii b.1) (ae _ _ a.2) (aH _ _ b.1).o7
 .intro o m as ae aH pe env D;refine lA D λg es p D=> ?_;refine mz D λv n ap D=> ?_;have D:=an D;have a:=an D.1;have b:=an D.2;have c:=an b.1;have d:=an b.2;have e:=an a.2;refine bV (eq_of_beq a.1) ?_;exact OO F (by simpa using e.1) e.2 (by simpa using c.1) (Ay d.1) (Ii d.1) (aP d.2) (ae _ _ c.2) (aH _ _ d.1).o7
 .intro e ae pe env D;refine lA D λf es p D=> ?_;exact lz (an D).2 λx h=>OK F B (j9 h) (an D).1 (ae _ _ h)
 .intro a b ae aH pe env D;refine lA D λf es p D=> ?_;refine sU (an D).2 λx y h=> ?_;have h:=an h;exact ON F B (j9 h.1) (j9 h.2) (an D).1 (ae _ _ h.1) (aH _ _ h.2)
 .intro e ae pe env D;refine lA D λf es p D=> ?_;refine lz (an D).2 λx h=> ?_;exact OW F B (j9 h) (an D).1 (ae _ _ h)
 .intro es env D;exact iJ D
 .intro e r ae aH es env D;induction es using List.casesOn with
  |nil=>exact aQ D
  |cons x t=>exact#[j9 (an D).1,ae _ _ (an D).1,aH _ _ (an D).2]
def q9(F:Fx P O A J L m RX)(B:fW)(e:Internal.E)(pe:Expr)(env:Env)(h:aM env.scope e pe=true):EG P O A J L m RX env G e pe:=Oq F B e pe env h
def Ej(F:Fx P O A J L m RX)(B:fW)(as:Es)(es:k18)(env:Env)(h:ic env.scope as es=true):kq P O A J L m RX env G as es:=by
 induction es generalizing as with
 |nil=>induction as using Es.casesOn with
  |nil=>exact rfl
  |cons e r=>exact aQ h
 |cons x t d=>induction as using Es.casesOn with
  |nil=>exact aQ h
  |cons e r=>exact#[j9 (an h).1,q9 F B e x env (an h).1,d r (an h).2]
structure Lf(L:Addr)(m:k03)(env:Env)(G:Ka)(W:Wd)(l:Lc):Prop extends Lb env G W where
 at':env.locals=L
 tC:env.frame=some L
 loc:∀x v,l x=some v->x<aW/\∃pv,m (nm x)=some pv/\VR W v pv
def Lf.lo(aa:Lf L m env G W l):Lo L m env G W l:=#[aa.toLb,.inl #[aa.at',aa.loc]]
def Lf.mono(aa:Lf L m env G W l)(k:W.Le W'):Lf L m env G W' l:=#[aa.toLb.mono k,aa.at',aa.tC,λx v z=>#[(aa.loc x v z).1,(aa.loc x v z).2.imp λU q=>#[q.1,q.2.mono k]]]
abbrev ao:=(Str->Option Value)->ag
def s6(W:Wd)(f:Fl)(u:Flow):Prop:=match f with
 |.next=>u=.next
 |.cont=>u=.cont
 |.ret v=>∃pv,u=.ret pv/\VR W v pv
@[elab_as_elim]def s6.e{M:Fl->Flow->Prop}(h:s6 W f u)(a:M .next .next)(b:M .cont .cont)(c:∀v pv,VR W v pv->M (.ret v) (.ret pv)):M f u:=by
 induction f using Fl.casesOn with
 |next=>cases(h:u=.next);exact a
 |cont=>cases(h:u=.cont);exact b
 |ret v=>obtain⟨pv,rfl,h⟩:=h;exact c v pv h
def i7(J:Heap)(L:Addr)(env:Env)(G:Ka)(W:Wd)(Q:k02)(u:Flow)(s':Shared):Prop:=∀d:Prop,(∀(h:k03) (W':Wd) (h':H) (e:Lc) (f:Fl) (U:W.Le W') (U:St J L h W' h' s') (U:Lf L h env G W' e) (U:s6 W' f u) (U:Q f e h'),d)->d
def dW(J:Heap)(L:Addr)(XR:ao)(env:Env)(G:Ka)(W:Wd)(X:k08)(e:Value)(s':Shared):Prop:=∀d:Prop,(∀(x:k03) (W':Wd) (h':H) (h:Lc) (v:V) (U:W.Le W') (U:XR x W' h' v e s') (U:Lf L x env G W' h) (U:X v h h'),d)->d
variable{XR:ao}
def i7.le{Q:k02}(k:W.Le W')(p:i7 J L env G W' Q u s):i7 J L env G W Q u s:=by exact p _ λa b c d e f x y z w=>λU h=>h a b c d e (k.trans f) x y z w
def dW.le{X:k08}(k:W.Le W')(p:dW J L XR env G W' X e s):dW J L XR env G W X e s:=by exact p _ λa b c d e f x y z=>λU h=>h a b c d e (k.trans f) x y z
def ly{af:Type}{t:Sem af}{Q:af->Shared->Prop}{X:k08}(k:W.Le W')(h:wpAny gM A t Q (dW J L XR env G W' X) s):wpAny gM A t Q (dW J L XR env G W X) s:=
 bj h (λU U q=>q) λU U q=>q.le k
structure Fm(P:Y)(O:Fn)(A:Around)(J:Heap)(L:Addr)(XR:ao):Prop where
 fx:∀m,Fx P O A J L m (XR m)
 bi:fW
def bz.toF(aa:Lf L m env G W l){X:k08}(p:bz (XR m) W (λv h=>X v l h) e s):dW J L XR env G W X e s:=by exact p _ λW' h' v le x q=>λU y=>y m W' h' l v le x (aa.mono le) q
def f8(F:Fm P O A J L XR)(z:aM env.scope e pe=true)(aa:Lf L m env G W l)(S:St J L m W h s){R:QV}{X:k08}(hw:au P O G e false l h R (λv h=>X v l h)){K:k01}
 (k:∀W' h' s' u y,W.Le W'->St J L m W' h' s'->VR W' u y->R u h'->K y s'):wpAny gM A (eval pe env) K (dW J L XR env G W X) s:=
 bj ((q9 (F.fx m) F.bi e pe env z).v.step aa.lo S hw k) (λU U q=>q) λU U q=>q.toF aa
def J9(F:Fm P O A J L XR)(u:aM env.scope e pe=true)(aa:Lf L m env G W l)(S:St J L m W h s){R:QV}{X:k08}(hw:au P O G e true l h R (λv h=>X v l h)){K:k29}
 (k:∀W' h' s' b,W.Le W'->St J L m W' h' s'->R (.bool b) h'->K b s'):wpAny gM A (isTrue pe env (eval pe env)) K (dW J L XR env G W X) s:=
 bj ((q9 (F.fx m) F.bi e pe env u).t.step aa.lo S hw k) (λU U q=>q) λU U q=>q.toF aa
def dC(P:Y)(O:Fn)(A:Around)(J:Heap)(L:Addr)(XR:ao)(env:Env)(G:Ka)(st:S)(ps:Stmt):Prop:=
 ∀m W h s l Q X,Lf L m env G W l->St J L m W h s->wpS P O G st l h Q X->wpAny gM A (exec ps env) (i7 J L env G W Q) (dW J L XR env G W X) s
def gs(P:Y)(O:Fn)(A:Around)(J:Heap)(L:Addr)(XR:ao)(env:Env)(G:Ka)(st:Ss)(ps:k07):Prop:=
 ∀m W h s l Q X,Lf L m env G W l->St J L m W h s->bc P O G st l h Q X->wpAny gM A (execs ps env) (i7 J L env G W Q) (dW J L XR env G W X) s
def A8:gs P O A J L XR env G .nil []:=λm W h s l Q X aa S q=>by exact wpAny_execs_nil (λU y=>y m W h l .next (.refl W) S aa rfl q)
def A7{st:Internal.S}{r:Ss}{ps:Stmt}{t:k07}(ae:dC P O A J L XR env G st ps)(aH:gs P O A J L XR env G r t):gs P O A J L XR env G (.cons st r) (ps::t):=λm W h s l Q X aa S q=>by refine wpAny_execs_cons (bj (ae m W h s l _ X aa S q) (λfl s' z=> ?_) λU U q=>q);clear q S aa;refine z _ λy W' h' u f le B x hf d=> ?_;revert d;refine hf.e (λd=> ?_) (λd=>λU D=>D y W' h' u .cont le B x rfl d) λv pv hv d=>λU D=>D y W' h' u (.ret v) le B x #[pv,rfl,hv] d;exact ly le (bj (aH y W' h' s' u Q X x B d) (λU U z=>z.le le) λU U z=>z)
def JF(F:Fm P O A J L XR)(y:aM env.scope e pe=true):dC P O A J L XR env G (.ret e) (.Return (some pe) p):=λm W h s l Q X aa S q=>by exact wpAny_Return_some (f8 F y aa S q λW' h' s' u B le d x r=>λU z=>z m W' h' l (.ret u) le d (aa.mono le) #[B,rfl,x] r)
def Yn:dC P O A J L XR env G .gP (.Return none p):=λm W h s l Q X aa S q=>by exact wpAny_Return_none (h:=λU y=>y m W h l (.ret .none) (.refl W) S aa #[_,rfl,.n] q)
def Yi:dC P O A J L XR env G .cont (.Continue p):=λm W h s l Q X aa S q=>by exact wpAny_Continue (h:=λU y=>y m W h l .cont (.refl W) S aa rfl q)
def Yl(F:Fm P O A J L XR){c:Internal.E}{D:Expr}{a b:Ss}{u y:k07}{p:Pos}(ok:aM env.scope c D=true)(ae:gs P O A J L XR env G a u)(aH:gs P O A J L XR env G b y):dC P O A J L XR env G (.ite c a b) (.If D u y p):=λm W h s l Q X aa S q=>by
 refine wpAny_If (J9 F ok aa S q λW' h' s' c le d w=> ?_);clear S q;induction c using Bool.casesOn with
 |true=>exact ly le (bj (ae m W' h' s' l Q X (aa.mono le) d w) (λU U z=>z.le le) λU U z=>z)
 |false=>exact ly le (bj (aH m W' h' s' l Q X (aa.mono le) d w) (λU U z=>z.le le) λU U z=>z)
def YW{v o:Expr}{n:Str}{p:Pos}{k:Nat}:swapsWith v (some (.Attribute o n p)) k env=pure false:=by cases v<;>rfl
def YY:swapsWith v (some (.Subscript o i p)) k env=pure false:=by cases v<;>rfl
def YZ(h:zo v=true):swapsWith v none k env=pure false:=by cases v<;>first|rfl|cases h
def Yk(F:Fm P O A J L XR)(hc:zo pe=true)(y:aM env.scope e pe=true):dC P O A J L XR env G (.ex e) (.Expr pe p):=λm W h s l Q X aa S q=>by exact wpAny_Expr_any (f8 F y aa S q λW' h' s' u z le d B r=>λU x=>x m W' h' l .next le d (aa.mono le) rfl r) (by unfold interactive;rw[aa.fn];rfl) (YZ hc)
def Yo(F:Fm P O A J L XR){o e:Internal.E}{y pe:Expr}{f:Nat}{p p':Pos}(hf:gA f=true)(ok:aM env.scope o y=true)(oh:aM env.scope e pe=true):dC P O A J L XR env G (.fg o f e) (.Assign [.Attribute y (nm f) p'] pe p):=λm W h s l Q X aa S q=>by refine plainObj_wpAny_Assign_Attribute (f8 F oh aa S q λW1 h1 s1 u pu d B hu r1=>ly d (f8 F ok (aa.mono d) B r1 λW2 h2 s2 a pa x z ha r2=> ?_)) YW;refine bo r2 λh3 e3 r3=> ?_;exact IF (F.fx m).ah (F.fx m).hb z e3 ha (hu.mono x) hf λs3 D=>λU y9=>y9 m W2 h3 l .next (d.trans x) D (aa.mono (d.trans x)) rfl r3
def Yp(F:Fm P O A J L XR)(ok:aM env.scope o po=true)(AG:aM env.scope i pi=true)(oh:aM env.scope e pe=true):dC P O A J L XR env G (.ig o i e) (.Assign [.Subscript po pi p'] pe p):=λm W h s l Q X aa S q=>by refine wpAny_Assign_Subscript (f8 F oh aa S q λW1 h1 s1 u pu d y hu r1=>ly d (f8 F ok (aa.mono d) y r1 λW2 h2 s2 a pa x z ha r2=>ly (d.trans x) (f8 F AG ((aa.mono d).mono x) z r2 λW3 h3 s3 k pk B D hk r3=> ?_))) YY;refine bo r3 λh4 e4 r4=> ?_;exact IG (F.fx m).ah (F.fx m).hb (F.fx m).units D e4 (ha.mono B) hk ((hu.mono x).mono B) λs4 S4=>λU y9=>y9 m W3 h4 l .next ((d.trans x).trans B) S4 (aa.mono ((d.trans x).trans B)) rfl r4
def Yg(F:Fm P O A J L XR)(y4:y=.add\/y=.sub)(hf:gA f=true)(ok:aM env.scope o po=true)(oh:aM env.scope e pe=true):
 dC P O A J L XR env G (.kB o f y e) (.AugAssign (.Attribute po (nm f) p') (kE y) pe p):=λm W h s l Q X aa S q=>by
 refine wpAny_AugAssign_AttributeAny (f8 F ok aa S q λW1 h1 s1 a pa d D z r1=> ?_);refine bo r1 λu hu r1=> ?_;refine AK (F.fx m).ah (F.fx m).hb D hu z hf λpu s1' LM kT=>ly d (f8 F oh (aa.mono d) LM r1 λW2 h2 s2 v pv x S2 hv B=> ?_);refine bo B λr hr B=> ?_;refine bo B λh3 e3 r3=> ?_;exact(AJ hr S2 (kT.mono x) hv λpx s3 S3 hp=>IF (F.fx m).ah (F.fx m).hb S3 e3 (z.mono x) hp hf λs4 S4=>λU y9=>y9 m W2 h3 l .next (d.trans x) S4 (aa.mono (d.trans x)) rfl r3).2 y4
def mH.of{Q E:k01}(r:mH A Q E s pv u):wpAny gM A (getItem pv u) Q E s:=by exact r _ λU U U U q=>q
def MD{i:Expr}{a b c:Value}(h:pT i=true):augStore i a b c=(do holding [c,a,b] (setItem a b c);release [c,a,b] [];pure .next):=by cases i<;>first|rfl|cases h
def Yh(F:Fm P O A J L XR)(y4:y=.add\/y=.sub)(et:pT pi=true)(ok:aM env.scope o po=true)(AG:aM env.scope i pi=true)(oh:aM env.scope e pe=true):
 dC P O A J L XR env G (.mW o i y e) (.AugAssign (.Subscript po pi p') (kE y) pe p):=λm W h s l Q X aa S q=>by
 refine wpAny_AugAssign_SubscriptAny (f8 F ok aa S q λW1 h1 s1 a pa d S1 ha r1=>ly d (f8 F AG (aa.mono d) S1 r1 λW2 h2 s2 k pk x S2 hk D=> ?_)) λU U U=>MD et;refine bo D λu hu D=> ?_;have cont:∀z A1,St J L m W2 h2 A1->VR W2 u z->wpAny gM A (eval pe env) (λv mo=>wpAny gM A (inplaceOp (kE y) z v) (λnew vF=>
  wpAny gM A (setItem pa pk new) (λU=>i7 J L env G W Q .next) (dW J L XR env G W X) vF) (dW J L XR env G W X) mo) (dW J L XR env G W X) A1:=by
  intro z A1 LO kT;refine ly (d.trans x) (f8 F oh (aa.mono (d.trans x)) LO D λW3 h3 s3 v pv B S3 hv r3=> ?_);refine bo r3 λr hr r3=> ?_;refine bo r3 λh4 e4 r4=> ?_;exact(AJ hr S3 (kT.mono B) hv λpx s4 S4 hp=>IG (F.fx m).ah (F.fx m).hb (F.fx m).units S4 e4 ((ha.mono x).mono B) (hk.mono B) hp λs5 S5=>λU y9=>y9 m W3 h4 l .next ((d.trans x).trans B) S5 (aa.mono ((d.trans x).trans B)) rfl r4).2 y4
 exact(Iy (F.fx m).ah (F.fx m).hb (F.fx m).units S2 hu (ha.mono x) hk (E:=dW J L XR env G W X) cont).of
def qm(aa:Lf L m env G W l)(S:St J L m W h s){x:Nat}{n:Str}{v:V}{pv:Value}(hx:bR env.scope x n cz=true)(hv:VR W v pv){Q:k09}
 (k:∀z s',Lf L z env G W (upd l x v)->St J L z W h s'->Q () s'):wpAny gM A (storeName env n pv) Q E s:=by
 obtain⟨rfl,O,⟨q,hq,hk⟩,d1,d2⟩:=mh hx;have cG:env.kindOf (nm x)=some .local:=zq hk▸hq;have cP:s.heap.Ns env.locals m:=aa.at'▸S.fr.ns;refine wpAny_storeName_local cG cP (λh' P B=> ?_) (by rw[aa.fn];rfl);rw[aa.at']at P B;obtain⟨e,N,R⟩:=S.nw;refine k (λy=>if y=nm x then some pv else m y) _ #[aa.toLb,aa.at',aa.tC,λy u d=> ?_] #[S.fr.set P B,#[e,N.set B,R],S.gens,S.os];unfold upd at d;by_cases c:y=x
 .rw[al c]at d;cases d;subst c;exact#[O,pv,al rfl,hv]
 .rw[ak c]at d;obtain⟨a,pu,D,b2⟩:=aa.loc y u d;exact#[a,pu,by show(if nm y=nm x then some pv else m (nm y))=_;rw[ak λq=>c (iK a O q)];exact D,b2]
def TX(h:nR q=true):q=.cell:=by cases q<;>first|rfl|cases h
def YL(aa:Lf L m env G W l)(S:St J L m W h s){x:Nat}{n:Str}{v:V}{a:Nm}{ov:Option V}{pv:Value}(hx:bR env.scope x n nR=true)(z:G x=some a)(hc:h a=.live (.cell ov))(hv:VR W v pv){Q:k09}
 (k:∀s',St J L m W (h.set a (.live (.cell (some v)))) s'->Q () s'):wpAny gM A (storeName env n pv) Q E s:=by
 obtain⟨rfl,bZ,⟨q,D,hk⟩,d1,d2⟩:=mh hx;have B:env.kindOf (nm x)=some .cell:=TX hk▸D;obtain⟨c,P,d⟩:=aa.cf x a z #[.cell,B,rfl];obtain⟨O,N,R⟩:=S.nw;obtain⟨c',o,v',u,e,y,h6⟩:=R.live a _ hc;cases aL (d.symm.trans u);refine wpAny_storeName_cell aa.fn B P #[o,(N _ e).1,y] λh' q jZ=>q.elim λo' q=> ?_;exact k _ (S.turn (t:=s.toks) N R e jZ q.1 (R.bp _ _ d) (n7 hc) #[c,o',some pv,d,iH e,q.2,hv])
def YN(hb:gx.hb.StaysIn J)(h:H):oH A env W (λl s=>∃m,Lf L m env G W l/\St J L m W h s):=
 #[λl s x n v pv E z e hv=>z.elim λm z=>qm z.1 z.2 e hv λB s' O d=>#[B,O,d],λl s xs pv z hv=>z.elim λm z=>z.2.tup hb hv,λl s h' z hk=>z.imp λm z=>#[z.1,z.2.grow (t:=s.toks) hk]]
def JS(F:Fx P O A J L m RX)(B:fW)(h:qJ env.scope y u it):mP P O A J L m RX env G y u it:=JU B (q9 F B u) h
def AT(aa:Lf L m env G W l)(S:St J L m W h s){p:Bool×Nat}{r:k28}{n:Str}{v:V}{us:k00}{pv:Value}(hx:bR env.scope p.2 n (if p.1 then nR else cz)=true)(hv:VR W v pv){Q:Lc->H->Prop}(q:ez G (p::r) (v::us) l h Q)
 {K:k09}(k:∀u l' h' s',Lf L u env G W l'->St J L u W h' s'->ez G r us l' h' Q->K () s'):wpAny gM A (storeName env n pv) K E s:=by
 obtain⟨c,x⟩:=p;induction c using Bool.casesOn with
 |false=>exact qm aa S hx hv λu s' O d=>k u _ h s' O d q
 |true=>exact bo q λa e q=>bo q λP B q=>YL aa S hx e (C8 B) hv λs' d=>k m l _ s' aa d q
def JE(F:Fm P O A J L XR){c:Bool}{x:Nat}{n:Str}{e:Internal.E}{pe:Expr}{p p':Pos}(hx:bR env.scope x n (if c then nR else cz)=true)(ok:aM env.scope e pe=true)(D:swapsWith pe (some (.Name n p')) p.line env=pure false):
 dC P O A J L XR env G (.asg c x e) (.Assign [.Name n p'] pe p):=λm W h s l Q X aa S q=>by
 refine wpAny_Assign_Name (f8 F ok aa S q λW' h' s' u pu le B hu r=> ?_) D;exact AT (p:=(c,x)) (aa.mono le) B hx hu r λm' l' z s2 d y q2=>λU y9=>y9 m' W' z l' .next le y d rfl q2
def WM(W:Wd)(ai:Addr):(W.aw ai none).Le W:=#[λU U e=>e,λU U e=>e,λU U e=>e,λy d e=>by
 change (if y=ai then none else W.ar y)=_ at e;by_cases c:y=ai
 .rw[al c]at e;exact no e
 .rw[ak c]at e;exact e,λU U e=>e]
def Lf.up(aa:Lf L m env G W l)(k:W.Lv W')(aN:∀a x,W.aN a=some x->W'.aN a=some x):Lf L m env G W' l:=
 #[#[aa.fn,aa.nh,aa.blt,λx a e q=>(aa.cf x a e q).imp λc z=>#[z.1,aN _ _ z.2],aa.own],aa.at',aa.tC,λy u h=>#[(aa.loc y u h).1,(aa.loc y u h).2.imp λd q=>#[q.1,q.2.up k]]]
def Yf(F:Fm P O A J L XR){x:Nat}{n:Str}{z cU:Bool}{e dq:Internal.E}{ts:k06}{cs:Es}{pe:Expr}{p p':Pos}(hx:bR env.scope x n cz=true)(ok:aM env.scope (.comp z e ts cU dq cs) pe=true)(u:swapsWith pe (some (.Name n p')) p.line env=pure true):
 dC P O A J L XR env G (.asg false x (.comp z e ts cU dq cs)) (.Assign [.Name n p'] pe p):=λm W h s l Q X aa S q=>by
 refine(AE ok) _ λjS t it y scope D q1 h2 d h4 h5 h6 h7=> ?_;revert u;refine bV q1 λu=> ?_;rw[exec_Assign_Name_used _ _ _ _ u];clear ok q1 u;refine av (wpAny_standAt (av ?_));show wpAny _ A (do let _←comprehension (.ListComp jS [#[t,it,y,0]] scope D) scope env _ (newList []) false (eval it env) (some (assign (.Name n p') env))) _ _ s;refine av (bj (Di (use:=some (assign (.Name n p') env)) (Qr:=λU s'=>i7 J L env G W Q .next s') (Qf:=λus h=>jz z us h λv h=>tq false (λv h=>ez G [(false,x)] [v] l h (Q .next)) v h) (F.fx m) F.bi (JS (F.fx m) F.bi h7) h2 d
  (λcl C=>q9 (F.fx m) F.bi _ _ (compEnvC scope cl C env) h4) (λcl C=>(Ej (F.fx m) F.bi _ _ (compEnvC scope cl C env) h5).tests h6) aa.lo S q λs' ai C hD hC yk E=> ?_) (λU s' hq=>aJ (aJ hq)) λU U q=>q.toF aa)
 clear h2 d h4 h5 h6 h7 S q;refine E _ λW' h' acc ac n' oC le S' p1 p2 p3 p4 p5=> ?_;refine(S'.handOut p1 p2 p5 (WM W' ai) (Wd.dS ..)) _ λB jU v bK S2 hv q2=> ?_;have pL:W.Le B:=(le.bare hD none).trans bK;show wpAny _ A (assign (.Name n p') env (.ref ai)) _ _ _;refine wpAny_assign_Name (AT (p:=(false,x)) (aa.mono pL) S2 hx hv q2 λm' l' d s3 O3 S3 q3=> ?_);have Gg:B.ar C=some oC:=bK.ar _ _ ((W'.dm _ yk.symm).trans p3);obtain⟨mm,cP⟩:=p4.ns (S3.ar Gg);exact#[mm,cP,λhp uy=>λU y9=>y9 m' (B.aw C none) d l' .next (pL.bare hC none) (S3.o6 (t:=s3.toks) Gg uy.extBut) (O3.up .aw (λU U e=>e)) rfl q3]
def Y0{pe:Expr}{n:Str}{p:Pos}{k:Nat}(h:zp pe=false):swapsWith pe (some (.Name n p)) k env=pure false:=by cases pe<;>first|rfl|exact nomatch h
def YX{e:Expr}{u:List Comprehension}{sc:Scope}{q:Pos}{n:Str}{p:Pos}{k:Nat}:∃b,swapsWith (.ListComp e u sc q) (some (.Name n p)) k env=pure b/\(b=true->env.kindOf n=some .local):=by refine#[_,rfl,λe=> ?_];simp only[ja,tv]at e;exact e.1.1.2
inductive B2:Internal.E->Prop
 |mk (z:Bool) (e:Internal.E) (ts:k06) (cU:Bool) (dq:Internal.E) (cs:Es):B2 (.comp z e ts cU dq cs)
def NU(u:aM sc e pe=true):zp pe=true->B2 e:=by
 induction e using Internal.E.casesOn with
 |comp z e' ts G J B=>exactλU=>.mk ..
 |int i=>
  rcases(Bool.or_eq_true _ _).mp u with u|u
  .exact jD u λU U U U=>aQ
  .exact vR u λU U U U=>aQ
 |mT a b=>
  obtain⟨x,y,p,d,⟨rfl,h⟩|⟨z,r,rfl,h⟩⟩:=vS u
  .exact aQ
  .exact aQ
 |eP a b=>
  obtain⟨x,y,p,d,⟨rfl,h⟩|⟨z,r,rfl,h⟩⟩:=vS u
  .exact aQ
  .exact aQ
 |_=>
  first
  |exact jD u λU U U U=>aQ
  |exact eR u λU U U=>aQ
  |exact mz u λU U U U=>aQ
  |exact qw u λU U U U=>aQ
  |exact KW u λU U U U U=>aQ
  |exact vR u λU U U U=>aQ
  |exact BH u λU U U U U=>aQ
  |exact KU u λU U U U U=>aQ
  |exact BJ u λU U U=>aQ
  |exact qv u λU U U U=>aQ
  |exact BI u λU U U U=>aQ
  |exact lA u λU U U U=>aQ
  |exact aQ u
def Ye(F:Fm P O A J L XR){c:Bool}{x:Nat}{n:Str}{e:Internal.E}{pe:Expr}{p p':Pos}(hx:bR env.scope x n (if c then nR else cz)=true)(u:aM env.scope e pe=true):
 dC P O A J L XR env G (.asg c x e) (.Assign [.Name n p'] pe p):=by
 cases h:zp pe with
 |false=>exact JE F hx u (Y0 h)
 |true=>
  induction NU u h with|mk z e' ts cU dq cs=> ?_
  obtain⟨b,hb,d⟩:∃b,swapsWith pe (some (.Name n p')) p.line env=pure b/\(b=true->env.kindOf n=some .local):=by exact(AE u) _ λjS t it y scope D Q U U U U U U=>Q▸YX
  induction b using Bool.casesOn with
  |false=>exact JE F hx u hb
  |true=>
   induction c using Bool.casesOn with
   |false=>exact Yf F hx u hb
   |true=>obtain⟨_,_,⟨q,B,hk⟩,_⟩:=mh hx;cases aL (B.symm.trans (d rfl));cases hk
def WK{ae:Addr}(hI:W.ar ae=none):W.aw ae none=W:=Wd.ext' (funext λy=>by
 by_cases q:y=ae
 .exact(al q).trans (q▸hI.symm)
 .exact ak q)
def AQ(hI:W.ar ae=none):(W.aw ae o).aw ae none=W:=(W.p9 ae o none).trans (WK hI)
def Oi{c:H->Prop}{xs:k00}{u:Nat->Obj->Prop}(T:i8 A J L m W ae c xs u)(hc:c h)(hI:W.ar ae=none)(n:Nat):∀(i:Nat) (o:Obj) (s:Shared) (Q:List Value->Shared->Prop),i+n=xs.length->u i o->St J L m (W.aw ae (some o)) h s->
 (∀vs o' s',aA W (xs.drop i) vs->u xs.length o'->St J L m (W.aw ae (some o')) h s'->Q vs s')->wpAny gM A (draw (.ref ae) n) Q E s:=by
 induction n with
 |zero=>intro i o s Q e d S k;cases(e:i=xs.length);exact aJ (k [] o s (by rw[List.drop_length];exact .z) d S)
 |succ n ih=>intro i o s Q e d S k;have uX:W.Le ((W.aw ae (some o)).aw ae none):=(AQ hI).symm▸ .refl W;refine av (T.next (W.aw ae (some o)) h s i o E _ uX S (Wd.dS ..) d hc (λpu s' o' x hx P B hv=> ?_) λO=>absurd (List.getElem?_eq_none_iff.mp O) (Nat.not_le.mpr (e▸Nat.lt_add_of_pos_right (Nat.succ_pos n))));rw[Wd.p9]at B;refine av (f4 (ih (i+1) o' s' _ ((Nat.succ_add i n).trans e) P B λvs VJ kc D y G=>aJ ?_));exact k _ VJ kc (xp hx▸ .c (hv.up (W:=W.aw ae (some o)) (W':=W) (.of rfl rfl) _ _) D) y G
def Kv(hb:gx.hb.StaysIn J)(z:A.handled=none)(S:St J L m W h s){xs:k00}(hv:VR W v pv)(e:eL h v=some xs){Q:List Value->Shared->Prop}
 (k:∀vs s',aA W xs vs->St J L m W h s'->Q vs s'):wpAny gM A (unpackItems pv xs.length none) Q E s:=by
 obtain Tc:∀K:Bool->Shared->Prop,K false s->wpAny gM A (notIterableAtAll pv) K E s:=by
  intro K q;unfold notIterableAtAll;rcases GO e with rfl|hk
  .obtain⟨x,vs,rfl,d,y⟩:=S.tup hb hv;exact av (wpAny_specialOf d.typeIs PyProof.Rows.slot_tuple_iter.lookup (aJ q))
  .induction S.jw hb (hk h e) hv with|mk x vs d y=> ?_
   exact av (wpAny_specialOf d.typeIs slot_list_iter.lookup (aJ q))
 unfold unpackItems;refine av (Tc _ ?_);refine av (f4 (GP hb z S hv e λae o Ob s1 T D P hp le=> ?_));refine av (f4 (Oi (T m) (.inr e) hp xs.length 0 o s1 _ (by lia) D P λvs G s2 B jp u=> ?_));rw[List.drop_zero]at B;rw[ak (by rw[B.length];lia)];obtain uX:W.Le ((W.aw ae (some G)).aw ae none):=(AQ hp).symm▸ .refl W;refine av (f4 ((T m).next (W.aw ae (some G)) h s2 xs.length G E _ uX u (Wd.dS ..) jp (.inr e) (λpu s' o2 x hx=>absurd (wu hx) (fK _)) λU s3 O=> ?_));rw[AQ hp]at O;exact aJ (k vs s3 B O)
def We(z:AA env.scope ts es=true):∀{xs:k00} {vs:k04} {m:k03} {h:H} {l:Lc} {s:Shared} {Q:Lc->H->Prop} {K:k09},Lf L m env G W l->St J L m W h s->aA W xs vs->ez G ts xs l h Q->
 (∀u l' h' s',Lf L u env G W l'->St J L u W h' s'->Q l' h'->K () s')->wpAny gM A (assignInOrder ((assignEach es env).map (·.2)) vs) K E s:=by
 refine qR (M:=λts es=>∀{xs:k00} {vs:k04} {m:k03} {h:H} {l:Lc} {s:Shared} {Q:Lc->H->Prop} {K:k09},Lf L m env G W l->St J L m W h s->aA W xs vs->ez G ts xs l h Q->
  (∀u l' h' s',Lf L u env G W l'->St J L u W h' s'->Q l' h'->K () s')->wpAny gM A (assignInOrder ((assignEach es env).map (·.2)) vs) K E s) ?_ ?_ z
 .intro xs vs m h l s Q K aa S R q k;induction xs using List.casesOn with
  |nil=>cases(R:vs=[]);exact assignInOrder_nil (k _ _ _ _ aa S q)
  |cons=>exact q.elim
 .intro x r e es d _ P xs vs m h l s Q K aa S R q k;induction xs using List.casesOn with
  |nil=>exact q.elim
  |cons y ys=>refine eR d λn p d=>R.f7 λpv ag1 hv R=> ?_;exact assignInOrder_cons (wpAny_assign_Name (AT (p:=x) aa S d hv q λu l' h' s' O B D=>P O B R D k))
def WQ{ts:k28}:∀{xs:k00} {l:Lc} {h:H} {Q:Lc->H->Prop},ez G ts xs l h Q->xs.length=ts.length:=by
 induction ts with
 |nil=>
  intro xs l h Q q;induction xs using List.casesOn with
  |nil=>rfl
  |cons=>exact q.elim
 |cons p r d=>
  intro xs l h Q q;induction xs using List.casesOn with
  |nil=>exact q.elim
  |cons v xs=>
   obtain⟨c,x⟩:=p;induction c using Bool.casesOn with
   |false=>exact aq (· +1) (d q)
   |true=>exact bo q λa U q=>bo q λU U q=>aq (· +1) (d q)
def J7:swapsWithSole [.Tuple ts k p] v n env=pure false:=by cases v<;>rfl
def YQ(h:zt v=false):swappedStores [.Tuple es k u] v env=pure none:=by cases v<;>first|rfl|(cases h;done)
def X3{v:V}:v.seq?=some xs->eL h v=some xs:=
 V.casesOn (motive_1:=λv=>v.seq?=some xs->eL h v=some xs) v no (λU=>no) (λU=>no) (λU=>no) (λU e=>e) (λU e=>e) (λU=>no) (λU=>no) (λU=>no) (λU=>no) (λU U=>no)
def Yr(F:Fm P O A J L XR){ts:k28}(hp:AA env.scope ts es=true)(hl:2<=ts.length)(ok:aM env.scope e pe=true)(D:zt pe=false):
 dC P O A J L XR env G (.im ts e) (.Assign [.Tuple es k tp] pe p):=λm W h s l Q X aa S q=>by
 refine Assign_Tuple (f8 F ok aa S q λW' h' s' u pu le x hu r=> ?_) J7 (YQ D);refine bo r λxs e r=> ?_;obtain⟨n1,n2⟩:=CG (env:=env) hp;rw[assign_Tuple];refine av (wpAny_standAt ?_);unfold unpack;rw[n2,n1,←WQ r];refine av (f4 (Kv (F.fx m).hb (F.fx m).handled x hu (X3 e) λvs s2 nM B=> ?_));exact We hp (aa.mono le) B nM r λm' l' z s3 d y q3=>λU y9=>y9 m' W' z l' .next le y d rfl q3
def Ap(h:(!b)=true):b=false:=(Bool.not_eq_true' b).mp h
def LJ(sc:Scope)(x y:Nat)(n k a b:Expr):Prop:=∀d:Prop,(∀(s t:Str) (p q:Pos) (e:n=.Name s p) (h:k=.Name t q) (B:bR sc x s cz=true) (G:bR sc y t cz=true) (J:(s==t)=false) (O:p.line=q.line) (P:(foldedForSure 8 a&&foldedForSure 8 b)=false) (u:(constantsAlone 8 a&&constantsAlone 8 b)=false) (z:cT a=true) (D:cT b=true),d)->d
def VV{sc:Scope}{x y:Nat}{n k a b:Expr}(h:AD sc x y n k a b=true):LJ sc x y n k a b:=by refine KV h λs p h=>KV h λt q h=> ?_;have h:=an h;have i:=an h.2;have j:=an i.2;exactλU d=>d _ _ _ _ rfl rfl ((an h.1).1) ((an h.1).2) (Ap (an i.1).1) (eq_of_beq (an i.1).2) (Ap (an j.1).1) (Ap (an j.1).2) ((an j.2).1) ((an j.2).2)
def HF{sc:Scope}{x:Nat}{s:Str}(h:bR sc x s cz=true):sc.names.lookup s=some .local:=by obtain⟨rfl,_,⟨q,d,hk⟩,_⟩:=mh h;exact zq hk▸d
def Mp{f:k25}{a b:Expr}(k:∀e,cT e=true->f e=false)(u:cT a=true)(hb:cT b=true):¬([a,b].any f)=true:=f0.mp (by
 show(_||(_||false))=false;rw[k a u,k b hb];rfl)
def PZ{f:Expr->Option Str}{x y:Expr}{s t:Str}(u:f x=some s)(z:f y=some t):[x,y].filterMap f=[s,t]:=by rw[List.filterMap_cons_some u,List.filterMap_cons_some z,List.filterMap_nil]
def J5(ns:List Str)(vs:k18):Sem (Option (List Str)):=if(ns.length != 2||ns.eraseDups.length != ns.length)=true then pure none else if vs.all (foldedForSure 8)=true then pure none else if vs.all (constantsAlone 8)=true then unsupported "assign.tuple-of-constant-expressions:order-of-the-stores" else pure (some ns)
def YR(aa:Lb env G W){s t:Str}{p q tp vp:Pos}{a b:Expr}{k vk:Nat}(y:env.scope.names.lookup s=some .local)(z:env.scope.names.lookup t=some .local)(u:(s==t)=false)(hl:p.line=q.line)
 (D:(foldedForSure 8 a&&foldedForSure 8 b)=false)(Q:(constantsAlone 8 a&&constantsAlone 8 b)=false)(h7:cT a=true)(h8:cT b=true):
 swappedStores [.Tuple [.Name s p,.Name t q] k tp] (.Tuple [a,b] vk vp) env=pure (some [s,t]):=by
 have d:env.kindOf s=some .local:=y;have x:env.kindOf t=some .local:=z;have rF:(t==s)=false:=(f0.mpr λc=>by rw[eq_of_beq c]at u;exact absurd u (by simp));have J:env.blockKind=.function:=by unfold Env.blockKind;rw[aa.fn];rfl
 have hd:[s,t].eraseDups=[s,t]:=by simp[List.eraseDups_cons,rF]
 have P:([a,b].all (foldedForSure 8))=false:=by show(_&&(_&&true))=false;rw[Bool.and_true];exact D
 have O:([a,b].all (constantsAlone 8))=false:=by show(_&&(_&&true))=false;rw[Bool.and_true];exact Q
 have B:J5 [s,t] [a,b]=pure (some [s,t]):=dM (ak λe=>by rw[hd]at e;exact aQ e) (dM (ak (f0.mp P)) (ak (f0.mp O)));refine dM (ak λe=>by rw[J]at e;exact aQ e) (dM (ak (Mp (λe h=> ?_) h7 h8)) ((aq (J5 · [a,b]) (PZ (al ?_) (al ?_))).trans B))
 .cases e<;>first|rfl|exact aQ h
 .rw[d];exact beq_self_eq_true p.line
 .rw[x];exact tv.mpr hl.symm
def J6(Q:V->V->H->Prop)(vs:k00)(h:H):Prop:=match vs with
 |[]=>False
 |u::r=>match r with
  |[]=>False
  |w::r=>match r with
   |[]=>Q u w h
   |_::_=>False
@[elab_as_elim]def YV{Q:V->V->H->Prop}{M:List V->Prop}(q:J6 Q vs h)(k:∀u w,Q u w h->M [u,w]):M vs:=by
 induction vs using List.casesOn with
 |nil=>exact q.elim
 |cons u r=>induction r using List.casesOn with
  |nil=>exact q.elim
  |cons w r=>induction r using List.casesOn with
   |nil=>exact k u w q
   |cons=>exact q.elim
def Yq(F:Fm P O A J L XR){x y:Nat}{n k:Expr}{a b:Internal.E}{z D:Expr}{kd vk:Nat}{tp vp p:Pos}(hs:AD env.scope x y n k z D=true)(Io:aM env.scope a z=true)(Ip:aM env.scope b D=true):
 dC P O A J L XR env G (.swap x y a b) (.Assign [.Tuple [n,k] kd tp] (.Tuple [z,D] vk vp) p):=λm W h s l Q X aa S q=>by
 refine(VV hs) _ λcj Zw aeT afc e1 e2 h1 h2 h3 h4 h5 h6 h7 h8=> ?_;rw[e1,e2];refine Assign_Tuple_swapped ?_ J7 (YR aa.toLb (HF h1) (HF h2) h3 h4 h5 h6 h7 h8);have Iq:ic env.scope (.cons a (.cons b .nil)) [z,D]=true:=by show(aM _ _ _&&(aM _ _ _&&true))=true;rw[Io,Ip];rfl
 clear hs e1 e2 h3 h4 h5 h6 h7 h8 Io Ip;refine Tuple_ (bj ((Ej (F.fx m) F.bi _ _ env Iq).o7.step aa.lo S (show cM P O G (.cons a (.cons b .nil)) l h (J6 λu w h=>Q .next (upd (upd l y w) x u) h) (λv h=>X v l h)from q) (K:=λvs cj=>wpAny gM A (newTuple vs) _ (dW J L XR env G W X) cj) λW' h' s' us ie le S' B r=> ?_) (λU U q=>q) λU U q=>q.toF aa);clear Iq q S;revert B;refine YV r λu w r B=> ?_;refine II S' B (by show 2<=1000;decide) λW2 pv s2 bK S2 hv=> ?_;refine Kv (F.fx m).hb (F.fx m).handled S2 hv rfl λvs s3 e d=> ?_;refine e.f7 λIU r1 nJ e=>e.f7 λpw r2 rG e=> ?_;cases(e:r2=[]);show wpAny _ A (assignInOrder [λv=>bindName env Zw v,λv=>bindName env cj v] [pw,IU]) _ _ _;refine assignInOrder_cons (wpAny_bindName (qm (aa.mono (le.trans bK)) d h2 rG λm1 s3 O3 d=> ?_));exact assignInOrder_cons (wpAny_bindName (qm O3 d h1 nJ λm2 s4 O4 S4=>assignInOrder_nil (λU y9=>y9 m2 W2 h' _ .next (le.trans bK) S4 O4 rfl r)))
def Qb{R:k22}{u it body env}(ae:Nat->Shared->Prop)
 (turn:∀n s,ae n s->wpAny (model prog w) A (pyNext it) (λr cj=>match r with
   |none=>R (.ok .next) cj
   |some v=>wpAny (model prog w) A (letOwnedTupleGo u it v) (λU z=>wpAny (model prog w) A (assign u env v) (λU D=>wpAny (model prog w) A (execs body env) (λf y=>match f with
    |.next|.cont=>∃m,m<n/\ae m y
    |.brk=>R (.ok .next) y
    |.ret v=>R (.ok (.ret v)) y) (λU U=>False) D) (λU U=>False) z) (λU U=>False) cj) (λU U=>False) s)
 (n:Nat)(h:ae n s):codeAny (model prog w) A (.forLoop u it body [] env) R s:=by
 refine codeAny_loop' rfl ae (λn s B=> ?_) n h;show wpAny _ _ ((forTurn u it body [] env).onRaise (λx=>do noteFrame x env;theTreesLotGoes x)) _ _ s;refine wpAny_noted ?_;unfold forTurn;refine av (wpAny_standAt (av (wpAny_onRaise (bj (turn n s B) (λr cj e=> ?_) λU U h'=>h'.elim))));induction r using Option.casesOn with
 |none=>exact aJ (.inr #[rfl,codeAny_block (wpAny_execs_nil e)])
 |some v=>
  refine av (bj e (λU z G=> ?_) λU U h'=>h'.elim);refine av (bj G (λU D J=>av (bj J (λf y d=> ?_) λU U h'=>h'.elim)) λU U h'=>h'.elim);induction f using Flow.casesOn with
  |next=>exact aJ (.inl #[rfl,d])
  |cont=>exact aJ (.inl #[rfl,d])
  |brk=>exact aJ d
  |ret v=>exact aJ d
def Lf.aw(aa:Lf L m env G W l):Lf L m env G (W.aw ae o) l:=aa.up .aw λU U e=>e
def Lf.Bx(aa:Lf L m env G W l):Lf L m env G (W.pinned ae o) l:=aa.up (.of rfl rfl) λU U e=>e
def tW(P:Y)(O:Fn)(G:Ka)(ts:k06)(b:Ss)(x:V)(l:Lc)(h:H)(K:k02):Prop:=
 ay (f6 ts x l) λl=>bc P O G b l h K (λU U U=>False)
def Qa{c:H->Prop}{B:k36}{Q:k02}(w:cF c B xs l h Q):c h:=by
 induction xs using List.casesOn with
 |nil=>exact w.1
 |cons x r=>exact w.1
def vY(J:Heap)(L:Addr)(env:Env)(G:Ka)(W1:Wd)(ae:Addr)(u:Nat->Obj->Prop)(N:Nat)(y:Nat->Lc->H->Prop)(k:Nat)(s:Shared):Prop:=∀d:Prop,(∀(i:Nat) (m:k03) (W:Wd) (h:H) (l:Lc) (oI:Obj) (hk:k=N-i) (B:i<=N) (le:W1.Le W) (S:St J L m W h s) (aa:Lf L m env G W l) (e:W.ar ae=some oI) (x:u i oI) (O:y i l h),d)->d
def Ll(J:Heap)(L:Addr)(env:Env)(G:Ka)(W1:Wd)(c:H->Prop)(Q:k02)(u:Flow)(s:Shared):Prop:=∀d:Prop,(∀(m:k03) (W:Wd) (h:H) (l:Lc) (f:Fl) (le:W1.Le W) (S:St J L m W h s) (aa:Lf L m env G W l) (x:s6 W f u) (q:Q f l h) (e:f=.next->c h),d)->d
def ER(F:Fm P O A J L XR){W1:Wd}{c:H->Prop}{xs:k00}{Ob:Nat->Obj->Prop}{R:k22}{Q:k02}
 (T:∀m,i8 A J L m W1 ae c xs Ob)(hI:W1.ar ae=none)(ht:lh env.scope ts t=true)(IB:gs P O A J L XR env G b pb)
 (fin:∀fl s',Ll J L env G W1 c Q fl s'->R (.ok fl) s')(k:Nat)(s':Shared)(rO:vY J L env G W1 ae Ob xs.length (λi l h'=>cF c (tW P O G ts b) (xs.drop i) l h' Q) k s'):
 codeAny gM A (.forLoop t (.ref ae) pb [] env) R s':=by
 refine Qb (vY J L env G W1 ae Ob xs.length λi l h'=>cF c (tW P O G ts b) (xs.drop i) l h' Q) (λk s yL=> ?_) k rO;clear rO;refine yL _ λi m W' h' l oI hk hi le S aa kS Ft h=> ?_;dsimp only at h;refine(T m).next W' h' s i oI _ _ (le.bare hI none) S kS Ft (Qa h) (λpu s1 d x y pt u kT=> ?_) λy s1 u=> ?_
 .have bZ:=wu y;rw[xp y]at h;refine bo h.2 λl' du h=> ?_;have dQ:W1.Le (W'.aw ae (some d)):=le.bare hI _;have Gh:(W'.aw ae (some d)).ar ae=some d:=Wd.dS ..;have ry:VR (W'.aw ae (some d)) x pu:=kT.up .aw _ _;have O1:Lf L m env G (W'.aw ae (some d)) l:=aa.aw;clear y S aa kS Ft kT le;generalize W'.aw ae (some d)=W2 at*;refine(T m).go (i+1) d s1 t pu _ _ (u.ar Gh) pt ?_;refine bj ((YN (G:=G) (W:=W2) (F.fx m).hb h').Kc (F.fx m).handled ht du ry #[m,O1,u]) (λU s2 z2=> ?_) λU U q=>q;clear O1 u ry du;obtain⟨m2,O2,S2⟩:=z2;refine bj (IB m2 W2 h' s2 l' _ _ O2 S2 h) (λfl s3 z3=> ?_) λU U z=>by exact z _ λU U U U U U U U q=>q
  clear O2 S2 h;refine z3 _ λm3 W3 h3 l3 f3 c9 S3 O3 r3 B=> ?_;have nx:cF c (tW P O G ts b) (xs.drop (i+1)) l3 h3 Q->∃m,m<k/\vY J L env G W1 ae Ob xs.length (λi l h'=>cF c (tW P O G ts b) (xs.drop i) l h' Q) m s3:=
   λw=>#[xs.length-(i+1),hk▸wW bZ,λU D=>D (i+1) m3 W3 h3 l3 d rfl bZ (dQ.trans c9) S3 O3 (c9.ar _ _ Gh) pt w]
  revert B;exact r3.e (λB=>nx B) (λB=>nx B) λv pv hv B=>fin (.ret pv) s3 (λU D=>D m3 W3 h3 l3 (.ret v) (dQ.trans c9) S3 O3 #[pv,rfl,hv] B (λe=>nomatch e))
 .rw[Eh y]at h;exact fin .next s1 (λU D=>D m (W'.aw ae none) h' l .next (le.bare hI none) u aa.aw rfl h.2 (λU=>h.1))
def Wp{p:Nm×List (Nat×V)}(e:pinned u v h=some p):u=false/\v=.ref p.1/\h p.1=.live (.aU p.2):=by
 induction u using Bool.casesOn with
 |true=>exact no e
 |false=>exact lj (M:=λv=>false=false/\v=.ref p.1/\h p.1=.live (.aU p.2)) e λa e=>gi e λes e q=>q▸#[rfl,rfl,rg e]
def T7(hh:A.handled=none)(ah:cb P)(hb:gx.hb.StaysIn J)(S:St J L m W h s){es:k16}(hv:VR W (.ref a) pv)(e:h a=.live (.aU es)){K:k01}
 (k:∀W' ae x o z s',W.Le W'->W.pin x=none->W'.aN a=some x->W.aN a=some x->St J L m (W'.aw ae (some o)) (h.set a (.pin es)) s'->W'.ar ae=none->z 0 o->W'.Le (W'.aw ae (some o))->(∀m',i8 A J L m' W' ae (λh=>pins (h a) es) (es.map λp=>V.gk p.1) z)->
   (∀u,W'.Le u->W.Le (u.pinned x none))->K (.ref ae) s'):wpAny gM A (pyIter pv) K E s:=by
 obtain⟨x,rfl,d⟩:=hv;obtain⟨G,N,R⟩:=S.nw;obtain⟨x',o,ds,ep,xs,h1,D,Q,h4,h5,h6,h7⟩:=R.live a _ e;cases aL (d.symm.trans h1);obtain⟨R1,O⟩:=R.Wo e d D;have hp:W.pin x=none:=lM λo' q=>by obtain⟨_,b,kJ,jU,rk⟩:=R.pin x o' q;cases aL ((R.bp b x jU).symm.trans (R.bp a x d));exact nomatch e.symm.trans rk
 have bN:=Q.2;refine T6 bN (N _ D).1 Q.1 h4 ?_;have S1:St J L m (W.pinned x (some o)) (h.set a (.pin es)) s:=#[S.fr,#[G,N,R1],S.gens,S.os];obtain⟨S2,bK,jr⟩:=S1.hide (o:={cls:=.type "dict_keyiterator",data:=.fields #[.ref x,.int 0 0,.int ds.size 0,.int ep 0,]}) rfl (t:=s.toks);have Gk:(W.pinned x (some o)).pin x=some o:=al rfl;exact k _ _ x _ _ _ O hp d d S2 jr #[rfl,rfl] bK (λm'=>Zp hh Gk h4 h5 (AR.up O.lv h7)) λu B=>#[λb y q=>B.aN _ _ q,λy b q=>B.own _ _ q,λy b q=>B.aI _ _ q,λy b q=>B.ar _ _ q,λy b q=>by
  show(if y=x then none else u.pin y)=_;rw[ak λc=>by rw[c,hp]at q;cases q];exact B.pin _ _ (O.pin _ _ q)]
def Ym(F:Fm P O A J L XR)(ht:lh env.scope ts t=true)
 (hs:qJ env.scope cU dq it)(IB:gs P O A J L XR env G b pb):
 dC P O A J L XR env G (.loop ts cU dq b) (.For t it pb [] p):=λm W h s l Q X aa S q=>by
 have H:=JS (G:=G) (F.fx m) F.bi hs;clear hs;refine wpAny_For (bj (Em (F.fx m) F.bi H aa.lo S q (K:=λit il=>codeAny gM A (.forLoop t it pb [] env) (λr s'=>match r with|.ok f=>i7 J L env G W Q f s'|.error e=>cameBackBy gM A env (dW J L XR env G W X) e s') il)
  (λv h r hp=> ?_) (λv h' a es r hp W' s' pv le S' hv=> ?_) λW1 v xs ae o Ob h1 s1 dQ r hp hx T hO S1 kS B=> ?_) (λx s1 z=>bj z (λU U q=>q) λU U q=>q.toF aa) λU U q=>q.toF aa) H.EQ
 .rw[hp]at r;exact bo r λxs hx r=>#[xs,hx,r.1]
 .rw[hp]at r;obtain⟨rfl,rfl,e⟩:=Wp hp;refine T7 (F.fx m).handled (F.fx m).ah (F.fx m).hb S' hv e λW2 ae x o Ob s2 bK Gk Tx nO S2 kS hO B T Rj=> ?_;refine ER F T kS ht IB (λfl s3 E=> ?_) _ _ (λU y=>y 0 m _ _ _ _ rfl (cD _) B S2 ((aa.mono (le.trans bK)).mono B) (Wd.dS ..) hO r.2);clear r S2 S' S q;refine E _ λm' W3 h3 l' f c9 d O3 hr D hc=> ?_;obtain⟨rfl,D⟩:=D;obtain⟨u,N,R⟩:=d.nw;exactλU y=>y m' (W3.pinned x none) _ l' .next (le.trans (Rj W3 c9)) #[d.fr,#[u,N,R.Bx (hc rfl) (c9.aN _ _ Tx)],d.gens,d.os] O3.Bx hr D
 .rw[hp]at r;refine bo r λxs' lW r=> ?_;cases aL (hx.symm.trans lW);exact ER F T kS ht IB (λfl s3 E=>by
   exact E _ λm' W3 h3 l' f c9 d O3 hr D hc=>λU y=>y m' W3 h3 l' f (dQ.trans c9) d O3 hr D) _ _ (λU y=>y 0 m _ _ _ _ rfl (cD _) B S1 ((aa.mono dQ).mono B) (Wd.dS ..) hO r.2)
structure XC(A:Around)(env:Env)(XR:ao):Prop where
 VD:∀m W h v e s (E:k01),XR m W h v e s->(∀s',XR m W h v e s'->E e s')->notedBy gM A env (cameBackBy gM A env E) e s
def XC.post(C:XC A env XR){X:k08}(le:W.Le W')(p:dW J L XR env G W' X e s):notedBy gM A env (cameBackBy gM A env (dW J L XR env G W X)) e s:=by refine p _ λh d h' B v O x aa q=> ?_;exact C.VD h d h' v e s _ x λs' P=>λU y=>y h d h' B v (le.trans O) P aa q
def LX(J:Heap)(L:Addr)(env:Env)(G:Ka)(W:Wd)(u:Nat->Lc->H->Prop)(n:Nat)(s:Shared):Prop:=∀d:Prop,(∀(m:k03) (W':Wd) (h:H) (l:Lc) (le:W.Le W') (S:St J L m W' h s) (aa:Lf L m env G W' l) (q:u n l h),d)->d
def Ys(F:Fm P O A J L XR)(C:XC A env XR){c:Internal.E}{b:Ss}{t:Expr}{pb:k07}{p:Pos}(ok:aM env.scope c t=true)(IB:gs P O A J L XR env G b pb):
 dC P O A J L XR env G (.gT c b) (.While t pb [] p):=λm W h s l Q X aa S q=>by
 obtain⟨n,q⟩:=q;refine wpAny_While (codeAny_whileLoop (LX J L env G W λn l h=>dJ (λl h K=>au P O G c true l h (λx h=>ay (x.jO some) λr=>K r h) (λv h=>X v l h)) (λl h K=>bc P O G b l h K X) n l h Q) (λn s hI=> ?_) n (λU y=>y m W h l (.refl W) S aa q));clear q S aa;refine hI _ λm W' h' l' le S aa q=> ?_;induction n using Nat.casesOn with
 |zero=>exact q.elim
 |succ n=>
  refine bj (J9 F ok aa S q (K:=λb il=>if b then wpAny gM A (execs pb env) _ _ il else wpAny gM A (execs [] env) _ _ il) λW2 h2 s2 r bK S2 w=> ?_) (λU U z=>z) λe s' z=>C.post le z;have O2:=aa.mono bK;have B:=le.trans bK;clear aa S q le bK;induction r using Bool.casesOn with
  |false=>exact wpAny_execs_nil (λU y=>y m W2 h2 l' .next B S2 O2 rfl w)
  |true=>refine bj (IB m W2 h2 s2 l' _ X O2 S2 w) (λfl s3 z=> ?_) λe s' z=>C.post B z;refine z _ λm3 W3 h3 l3 f c9 D u hr d=> ?_;revert d;exact hr.e (λd=>#[n,bA n,λU y=>y m3 W3 h3 l3 (B.trans c9) D u d]) (λd=>#[n,bA n,λU y=>y m3 W3 h3 l3 (B.trans c9) D u d]) λv pv hv d=>λU y=>y m3 W3 h3 l3 (.ret v) (B.trans c9) D u #[pv,rfl,hv] d
def bg.tab(R:bg W h news){N:dr}(hN:N∈d8 gx.K)(hu:∀N'∈d8 gx.K,N'.P=N.P->N'=N){oc:Obj}(u:W.aI c'=some oc)(D:oc.data=.fields vs)(Q:vs[1]? =some (.str N.qual t)):
 bg W h (dc news N.P (tabObj #[rawInt N.line,rawInt N.col,.ref c',])):=by
 have T:=R.tabs N hN;have O:∀b G,OR W news b G->OR W (dc news N.P (tabObj #[rawInt N.line,rawInt N.col,.ref c',])) b G:=λb G z=>z.mono (Wd.Le.refl W) R.bp λy o hy B=>dz B λq=>no ((q▸T.own).symm.trans hy);refine#[by rw[km];exact R.nd,λx o e=>#[dz (R.aI x o e).1 λq=>no ((q▸T.aI).symm.trans e),(R.aI x o e).2],λx o e=>#[dz (R.ar x o e).1 λq=>no ((q▸T.ar).symm.trans e),(R.ar x o e).2],λx o e=>#[dz (R.pin x o e).1 λq=> ?_,(R.pin x o e).2],
  λx a e=>by rw[km];exact R.own x a e,R.bp,R.fresh,λa o e=>O a o (R.live a o e),λa es e=>O a _ (R.pins a es e),λN' J=> ?_]
 .obtain⟨_,a,es,q2,_⟩:=R.pin x o e;exact no ((q▸T.own).symm.trans (R.bp a x q2))
 .have d:=R.tabs N' J;by_cases c:N'.P=N.P
  .cases hu N' J c;obtain⟨p,hp,hk⟩:=bv.mp d.key;exact#[d.own,d.aI,d.ar,.yes c' oc vs t (iH (o':=p.2) (by rw[←hk];exact hp)) u D Q]
  .exact d.mono d.own d.aI d.ar #[λU U e=>e,λU U e=>e] λo B=>dz B c
def NE(aa:Lb env G W){fr:k06}:∀{cs:k31} {cl:k17},mZ G fr=some cs->cl.map (·.1)=fr.map nm->(∀p∈cl,env.cells.lookup p.1=some p.2)->(∀x∈fr,x<aW/\∃q,env.scope.names.lookup (nm x)=some q/\pG q=true)->ip W cl cs:=by
 induction fr with
 |nil=>intro cs cl e d _ _;cases List.map_eq_nil_iff.mp d;exact(aL e).symm
 |cons x r D=>
  intro cs cl e d B h;refine gY e λa u e=>gi e λQ y q=> ?_;induction cl using List.casesOn with
  |nil=>exact nomatch d
  |cons p t=>obtain⟨c,O,P⟩:=aa.cf x a u (h x (.head _)).2;have d:p.1=nm x/\t.map (·.1)=r.map nm:=List.cons.inj d;have J:=B p (.head _);rw[d.1,O]at J;exact q▸#[#[#[d.1,(h x (.head _)).1],P.trans J],D y d.2 (λp hp=>B p (.tail _ hp)) λx z=>h x (.tail _ z)]
def dr.st(N:dr)(pos:Pos):Stmt:=.FunctionDef N.name N.params N.body [] none [] N.scope none N.name pos
def iq(P:Y)(J:Heap)(env:Env)(f:Nat)(st:Stmt):Prop:=∀h:Prop,(∀(N:dr) (cn:Str) (G:Scope) (L a:Addr) (cl:k17) (e:Pos) (d:aB) (O:N∈d8 gx.K) (u:∀B∈d8 gx.K,B.P=N.P->B=N) (y:N.f=f) (z:e.line=N.line) (D:e.col=N.col) (Q:st=N.st e) (a7:env=envX cn G L a (.ref N.c) cl) (a8:CodeHd J N.c N.P) (b1:N.params.defaults=[]) (b2:N.params.kw_defaults=[]) (b3:annTrees N.params none env=[]) (b4:qualnameIn env N.name N.name=N.qual) (b5:P.fns f=some d) (b6:frees N.scope.names=d.frees.map nm) (b7:∀x∈d.frees,x<aW/\env.scope.names.lookup (nm x)=some .cell),h)->h
def Mo{pos:Pos}{line col:Nat}{c:Value}(u:pos.line=line)(y:pos.col=col):codeAmong pos [rawInt line,rawInt col,c]=some c:=by subst u;subst y;simp[codeAmong,rawInt]
def Ef(F:Fm P O A J L XR){N:dr}{x:Nat}{u:k17}{y:k31}{Q:k02}{X:k08}{f c':Addr}{oc:Obj}{vs:Array Value}{t:Tok}{z doc pm:Value}(hN:N∈d8 gx.K)(hx:bR env.scope x N.name cz=true)(aa:Lf L m env G W l)(ud:ip W u y)(q:Q .next (upd l x (.clo N.f y)) h)
 (le:W.Le W')(S:St J L m W' h s)(D:W'.aI f=some (fnMade N.name N.qual N.params N.body N.scope u doc pm c' z))(e2:W'.aI c'=some oc)(e3:oc.data=.fields vs)(e4:vs[1]? =some (.str N.qual t)):
 wpAny gM A (storeName env N.name (.ref f)) (λU=>i7 J L env G W Q .next) (dW J L XR env G W X) s:=
 qm (aa.mono le) S hx (v:=.clo N.f y) (λU d=>d f N u doc pm c' z oc vs t rfl hN rfl D (ud.mono le) e2 e3 e4) λm' s' e B=>λU d=>d m' W' h _ .next le B e rfl q
def Yj(F:Fm P O A J L XR){x f:Nat}{st:Stmt}(hx:yD (λn=>bR env.scope x n cz) st=true)(NF:iq P J env f st):dC P O A J L XR env G (.kH x f) st:=λm W h s l Q X aa S q=>by
 refine NF _ λN cn cs L' a cl pos d z hu a3 jY jr a6 a7 C ue ny FH hq FT fq D=> ?_;subst a3 a6 a7;refine bo q λd' gc q=> ?_;cases aL (FT.symm.trans gc);refine bo q λks F5 q=> ?_;obtain hL:L'=L:=aa.at';subst hL;obtain⟨wS,lR,FA,FC⟩:=Db (env:=envX cn cs L' a (.ref N.c) cl) (scope:=N.scope) λn hn=>by obtain⟨x,hx,e⟩:=bv.mp (fq▸HM hn);exact aa.own n (e▸(D x hx).2)
 have ud:ip W wS ks:=NE aa.toLb F5 (FC.trans fq) FA λx hx=>#[(D x hx).1,.cell,(D x hx).2,rfl];clear F5 FA FC fq D FT gc;refine nestDef_K ue ny FH ?_;rw[hq];clear ue ny FH hq;obtain⟨B,Nw,R⟩:=S.nw;have T:=R.tabs N z;have TT:=(F.fx m).ah.T.keeps (F.fx m).hb;induction T.t with
 |no hm=>
  obtain tg:=Zv R.nd hm;refine nest_K S.fr Nw TT C rfl tg (by simp[TriplesOk]) (by rfl) lR λf c' oc vs t tG u h' tk F' y e1 e2 l1 l2=> ?_;have lQ:c'∉B.map (·.1):=gh l1;obtain⟨R1,dQ⟩:=R.eo (o:=oc) lQ;have R2:=R1.tab z hu (c':=c') (oc:=oc) (al rfl) e1 e2;rw[Bw _ _ _ _ (λq:c'=N.P=>lQ (q▸T.key))]at R2;obtain yA:f∉((c',oc)::dc B N.P (tabObj #[rawInt N.line,rawInt N.col,.ref c',])).map (·.1):=λq=>by rw[List.map_cons,km]at q;exact(b8.mp q).elim (λq=>fK _ (q▸l2)) λq=>absurd q (gh λp hp=>Nat.lt_trans (l1 p hp) l2)
  obtain⟨R3,c9⟩:=R2.eo (o:=fnMade N.name N.qual N.params N.body N.scope wS u ((gx.mg "__name__").getD .none) c' tG) yA;rw[jY,jr]at y;exact Ef F z hx aa ud q (dQ.trans c9) (S.put F' y R3) (al rfl) (c9.aI _ _ (al rfl)) e1 e2
 |yes c' oc vs t hm h1 h2 h3=>refine nestHit_K S.fr Nw TT C rfl hm (by simp[TriplesOk,rawInt]) (Mo jY jr) lR λf tG u h' tk F' y l1=> ?_;obtain⟨R1,dQ⟩:=R.eo (o:=fnMade N.name N.qual N.params N.body N.scope wS u ((gx.mg "__name__").getD .none) c' tG) (gh l1);exact Ef F z hx aa ud q dQ (S.put F' y R1) (al rfl) (dQ.aI _ _ h1) h2 h3
def GH(h:zn op=true):op=.add\/op=.sub:=by cases op<;>first|exact .inl rfl|exact .inr rfl|exact aQ h
def Jp(h:sz q o=true):q=o:=aP h
def yc{sc:Scope}{s:Str}(h:yb sc s=true):s=Str.ofString "Deadlock"/\sc.names.lookup s=some .globalImplicit:=by exact#[eq_of_beq (an h).1,eq_of_beq (an h).2]
structure Ax(P:Y)(O:Fn)(A:Around)(J:Heap)(L:Addr)(XR:ao)(env:Env)(G:Ka):Prop where
 F:Fm P O A J L XR
 C:XC A env XR
 RD:∀e v n p q r,aM env.scope e v=true->n=Str.ofString "Deadlock"->env.scope.names.lookup n=some .globalImplicit->dC P O A J L XR env G (.qa e) (.Raise (some (.Call (.Name n p) [v] [] q)) none r)
def v7(P:Y)(O:Fn)(A:Around)(J:Heap)(L:Addr)(XR:ao)(env:Env)(G:Ka)(st:Internal.S):Prop:=∀d,sj env.scope st d=true->An st=true->(∀f x,(f,x)∈defsIn st d->iq P J env f x)->dC P O A J L XR env G st d
def lH(P:Y)(O:Fn)(A:Around)(J:Heap)(L:Addr)(XR:ao)(env:Env)(G:Ka)(st:Ss):Prop:=∀d,dj env.scope st d=true->fv st=true->(∀f x,(f,x)∈bY st d->iq P J env f x)->gs P O A J L XR env G st d
def lH.nil:lH P O A J L XR env G .nil:=λe d U U=>bV (iJ d) A8
def lH.cons{s:Internal.S}{r:Ss}(ae:v7 P O A J L XR env G s)(aH:lH P O A J L XR env G r):lH P O A J L XR env G (.cons s r):=λh d nt e=>by
 induction h using List.casesOn with
 |nil=>exact aQ d
 |cons x t=>exact A7 (ae x (an d).1 (an nt).1 λf z hz=>e f z (List.mem_append_left _ hz)) (aH t (an d).2 (an nt).2 λf z hz=>e f z (jL _ hz))
def Jo(ax:Ax P O A J L XR env G)(st:Internal.S):v7 P O A J L XR env G st:=by
 refine@S.rec (v7 P O A J L XR env G) (lH P O A J L XR env G) ?_ ?_ ?_ ?_ ?_ ?_ ?_ ?_ ?_ ?_ ?_ ?_ ?_ ?_ ?_ ?_ ?_ ?_ lH.nil (λU U=>lH.cons) st
 .intro c x e ps B nt D;refine oz B λt v p B=> ?_;exact eR (an B).1 λn p' a=>Ye ax.F a (an B).2
 .intro ts e ps B nt D;refine oz B λt v p B=> ?_;refine qv (an B).1 λes k p' a=> ?_;have b:=an (an B).2;have c:=an b.1;exact Yr ax.F a (aP c.1) c.2 ((Bool.not_eq_true' _).mp b.2)
 .intro x y a b ps B nt D;refine oz B λt v p B=>qv B λes k p1 B=>sU B λn m B=>qv B λes k p2 B=>sU B λu w B=> ?_;have c:=an (an B).2;exact Yq ax.F (an B).1 c.1 c.2
 .intro o f e ps B nt D;refine oz B λt v p B=> ?_;refine mz B λu n p1 B=> ?_;have a:=an (an B).1;have b:=an (an B).2;refine bV (eq_of_beq a.1) ?_;exact Yo ax.F a.2 b.1 b.2
 .intro o i e ps B nt D;refine oz B λt v p B=> ?_;refine qw B λu w p1 B=> ?_;have b:=an (an B).2;exact Yp ax.F (an B).1 b.1 b.2
 .intro o f op e ps B nt D;refine K2 B λt q v p B=> ?_;refine mz B λu n p1 B=> ?_;have a:=an (an B).1;have b:=an (an B).2;have c:=an a.1;have d:=an a.2;refine bV (eq_of_beq c.1) (bV (Jp d.2) ?_);exact Yg ax.F (GH d.1) c.2 b.1 b.2
 .intro o i op e ps B nt D;refine K2 B λt q v p B=> ?_;refine qw B λu w p1 B=> ?_;have a:=an (an B).1;have b:=an (an B).2;have c:=an a.2;refine bV (Jp c.2) ?_;exact Yh ax.F (GH c.1) a.1 b.1 (an b.2).1 (an b.2).2
 .intro e ps B nt D;refine KZ B λv p B=> ?_;exact Yk ax.F (an B).1 (an B).2
 .intro c a b ae aH ps B nt D;revert D;refine aah B λt x y p B D=> ?_;exact Yl ax.F (an B).1 (ae x (an (an B).2).1 (an nt).1 λf z hz=>D f z (List.mem_append_left _ hz)) (aH y (an (an B).2).2 (an nt).2 λf z hz=>D f z (jL _ hz))
 .intro c b ae ps B nt D;revert D;refine aal B λt x p B D=> ?_;exact Ys ax.F ax.C (an B).1 (ae x (an B).2 nt D)
 .intro ts cU dq b ae ps B nt D;revert D;refine aag B λt it x p B D=> ?_;exact Ym ax.F (an B).1 (JT (an (an B).2).1) (ae x (an (an B).2).2 nt D)
 .intro e ps B nt D;refine BO B λv p B=> ?_;exact qh B λx B=>JF ax.F B
 .intro ps B nt D;refine BO B λv p B=> ?_;exact q7 B Yn
 .intro ps B nt D;exact aae B λp U=>Yi
 .intro x f ps B nt D;exact Yj ax.F B (D _ _ (.head _))
 .intro e ps B nt D;refine aan B λc p B=> ?_;refine lA B λf es p1 B=>eR (an B).1 λn p2 a=>lz (an B).2 λv b=> ?_;exact ax.RD _ _ _ _ _ _ b (yc a).1 (yc a).2
 .intro b x ae ps B nt D;exact aQ nt
 .intro ps B nt D m W h s l Q X aa S q;exact False.elim q
def XH(ax:Ax P O A J L XR env G)(st:Internal.S)(ps:Stmt)(y:sj env.scope st ps=true)(nt:An st=true)(u:∀f x,(f,x)∈defsIn st ps->iq P J env f x):dC P O A J L XR env G st ps:=Jo ax st ps y nt u
def A2(ax:Ax P O A J L XR env G)(st:Ss)(ps:k07):dj env.scope st ps=true->fv st=true->(∀f x,(f,x)∈bY st ps->iq P J env f x)->gs P O A J L XR env G st ps:=by
 induction ps generalizing st with
 |nil=>induction st using Ss.casesOn with
  |nil=>exactλU U U=>A8
  |cons=>exactλh=>aQ h
 |cons x t B=>induction st using Ss.casesOn with
  |nil=>exactλh=>aQ h
  |cons s r=>exactλe nt d=>A7 (Jo ax s x (an e).1 (an nt).1 λf z hz=>d f z (List.mem_append_left _ hz)) (B r (an e).2 (an nt).2 λf z hz=>d f z (jL _ hz))
def aas{ns:List Str}:∀{vs:k04},ns.Nodup->vs.length=ns.length->∀n∈ns,((ns.zip vs).lookup n).isSome=true:=by
 induction ns with
 |nil=>exactλU U U h=>nomatch h
 |cons n ns x=>
  intro vs hd d k hk;induction vs using List.casesOn with
  |nil=>exact nomatch d
  |cons v vs=>
   rw[List.zip_cons_cons,List.lookup_cons];cases c:k==n with
   |true=>rfl
   |false=>exact x (ek.mp hd).2 (Nat.succ.inj d) k ((b8.mp hk).resolve_left λe=>by rw[e,beq_self_eq_true]at c;cases c)
def P0{af aK:Type}{f g:af->Option aK}{l:List af}:(∀x∈l,f x=g x)->l.filterMap f=l.filterMap g:=by
 induction l with
 |nil=>exactλU=>rfl
 |cons x l e=>exactλh=>by rw[List.filterMap_cons,List.filterMap_cons,h x (.head _),e λy d=>h y (.tail _ d)]
def aat{ns:List Str}:∀{vs:k04},ns.Nodup->vs.length=ns.length->ns.filterMap (λn=>((ns.zip vs).lookup n).map (n,·))=ns.zip vs:=by
 induction ns with
 |nil=>exactλU U=>rfl
 |cons n ns x=>
  intro vs hd h;induction vs using List.casesOn with
  |nil=>exact nomatch h
  |cons v vs=>have d:=ek.mp hd;rw[List.zip_cons_cons,List.filterMap_cons,List.lookup_cons,beq_self_eq_true];refine aq (List.cons (n,v)) (dM (P0 λk hk=> ?_) (x d.2 (Nat.succ.inj h)));rw[List.lookup_cons,beq_eq_false_iff_ne.mpr λe:k=n=>d.1 (e▸hk)]
def Qc{af aK u:Type}{A:List af}{i:u}{f:af×aK->u->Sem (ForInStep u)}:forIn (A.zip (([]:List aK).drop k)) i f=pure i:=by rw[List.drop_nil,List.zip_nil_right];rfl
def MP{af aK:Type}{x:Sem af}{a:af}{f:af->Sem aK}{y:Sem aK}(h:x=pure a)(k:f a=y):x >>= f=y:=by rw[h];exact k
def Vu{l:List Str}{f:k03}(h:∀n∈l,(f n).isSome=true):¬((!(l.filter λn=>(f n).isNone).isEmpty)=true):=by rw[List.filter_eq_nil_iff.mpr λn d e=>by have:=h n d;rw[ix.mp e]at this;exact aQ this];exact aQ
def CQ{fd:FuncData}{vs:k04}(z:fd.params.posonlyargs=[])(D:fd.params.vararg=none)(Q:fd.params.kwonlyargs=[])(h4:fd.params.kwarg=none)(u:vs.length=(fd.params.args.map (·.arg)).length)(hd:fd.defaults=.none)
 (y:(fd.params.args.map (·.arg)).Nodup):bindArgs fd #[vs,[]]=pure ((fd.params.args.map (·.arg)).zip vs):=by
 have hz:=aat y u;have h:=aas y u;clear y;obtain⟨name,d,params,body,scope,gl,cl,O,kd,x,pm,an,cd,J,G⟩:=fd;obtain⟨po,args,va,ko,Uh,Up,P⟩:=params;dsimp only at z D Q h4 hd u hz h;subst z D Q h4 hd;refine Eq.trans (if_neg ?_) (Eq.trans (if_neg ?_) (MP Qc ?_))
 .exactλe=>Nat.lt_irrefl _ (Nat.lt_of_lt_of_eq (of_decide_eq_true (Internal.an e).1) u)
 .exact Vu λn B=>h n (List.mem_of_mem_take B)
 .exact Eq.trans (b:=pure (List.filterMap (λn=>(((args.map (·.arg)).zip vs).lookup n).map (n,·)) (([]++args.map (·.arg))++[]))) rfl (aq pure (by rw[List.append_nil];exact hz))
variable{M:Model}
def LU(h u:Heap)(e d:Addr)(C y:Value):Prop:=∀P:Prop,(∀(x:Obj) (vs:Array Value) (T:Addr) (oT:Obj) (ts:Array Value) (B:h.get? e=some x) (G:x.cls=C/\x.dict=some d) (J:x.data=.fields vs) (O:vs[1]? =some (.ref T)) (z:u.get? T=none) (D:T≠e) (Q:h.get? T=some oT) (a8:oT.data=.fields ts) (a9:ts[3]? =some y),P)->P
structure gp(mY:Heap)(l:List Env)(e d:Addr)(C fl:Value)(h:Heap):Prop where
 k:mY.StaysIn h
 n:mY.get? e=none
 f:h.FunFrames mY l
 t:LU h mY e d C fl
def Eu{z:Heap}{env:Env}{y:Obj}{vs:Array Value}{Q:k09}
 (fq:A.frames=some (env::am))(D:s.heap.FunFrames z (env::am))(hf:env.frame=some L)
 (he:s.heap.get? e=some y)(nA:z.StaysIn s.heap)(jX:z.get? e=none)(hd:y.data=.fields vs)(rD:1<vs.size)(uf:y.dict=some d)
 (h:∀h',gp z (env::am) e d y.cls (rawInt L) h'->s.heap.UpToSlots h'->Q () {s with heap:=h'}):
 wpAny M A (do let a←frameOf env;let u←entryPlaceOf L aed;let b←EntryCells.newEntry head a .none (rawInt L) .none u;setField (.ref e) 1 b) Q E s:=by
 obtain RM:e∉(env::am).filterMap (·.frame):=λhm=>by obtain⟨_,o,O,J⟩:=D.mem hm;rw[he]at O;injection O with O;subst O;exact J vs hd
 refine av (wpAny_frameOf_fun fq D hf λx P=> ?_);refine av (wpAny_entryPlaceOf λu gH=> ?_);unfold EntryCells.newEntry newFields;refine av (wpAny_newObj_type ?_ (gH.sizeOk5 _ _ _ _ _));have yy:x.get? e=some y:=(P.2.1 e RM).trans he;have Hs:z.StaysIn x:=λb o G=>(P.2.1 b λhm=>by rw[(D.mem hm).1]at G;cases G).trans (nA b o G);have yz:=f2 (h:=x) {cls:=.type "traceback",dict:=none,data:=.fields ([head,.ref L,.none,rawInt L,.none]++(if u.isEmpty then List.replicate 6 Value.none else u)).toArray} yy;refine wpAny_setField yz hd rD ?_;have uc:x.objs.size≠e:=Nat.ne_of_gt (Heap.lt_size yy);have FJ:=Obj.data_mapFields hd (·.setIfInBounds 1 (Value.ref x.objs.size));have FQ:=Heap.get?_update_self (Obj.mapFields (·.setIfInBounds 1 (Value.ref x.objs.size))) yz (Obj.isFreed_of_fields FJ);obtain Rc:=(Heap.get?_update_other (x.push {cls:=.type "traceback",dict:=none,data:=.fields ([head,.ref L,.none,rawInt L,.none]++(if u.isEmpty then List.replicate 6 Value.none else u)).toArray})
  (Obj.mapFields (·.setIfInBounds 1 (Value.ref x.objs.size))) (Ne.symm uc)).trans (Heap.get?_push_size x rfl)
 have B:∀b o,b≠e->x.get? b=some o->
  ((x.push {cls:=.type "traceback",dict:=none,data:=.fields ([head,.ref L,.none,rawInt L,.none]++(if u.isEmpty then List.replicate 6 Value.none else u)).toArray}).update e (Obj.mapFields (·.setIfInBounds 1 (Value.ref x.objs.size)))).get? b=some o:=
  λb o yp hb=>by rw[Heap.get?_update_other _ _ (Ne.symm yp)];exact f2 _ hb
 have sg:∀b o,s.heap.get? b=some o->(∀vs,o.data≠ .fields vs)->b≠e:=λb o hb J q=>by rw[q,he]at hb;injection hb with hb;subst hb;exact J vs hd
 obtain Rz:(Obj.mapFields (·.setIfInBounds 1 (Value.ref x.objs.size)) y).dict=some d:=by clear FQ yz yy h he;obtain⟨c,dd,dat,sl⟩:=y;dsimp only at hd uf;subst hd;exact uf
 refine h _ #[λb o G=>B b o (λq=>by rw[q,jX]at G;cases G) (Hs b o G),jX,D.of_keeps λb o hb J=> ?_,?_] λb o hb J=> ?_
 .obtain⟨sl,hs⟩:=P.2.2 b o hb;exact#[_,B b _ (sg b o hb J) hs,rfl]
 .exactλU y9=>y9 _ _ x.objs.size _ _ FQ #[Obj.cls_mapFields _ _,Rz] FJ (by simp[rD]) Hs.fresh uc Rc rfl (by first|(simp;done)|(rcases gH with rfl|⟨_,_,_,_,_,_,_,rfl⟩<;>simp))
 .obtain⟨sl,hs⟩:=P.2.2 b o hb;exact#[sl,B b _ (sg b o hb J) hs]
def Vz{u:Heap}{env:Env}{y:Obj}{Q:k09}
 (fq:A.frames=some (env::am))(hl:s.heap.FunFrames u (env::am))(hf:env.frame=some L)
 (he:s.heap.get? e=some y)(nA:u.StaysIn s.heap)(jX:u.get? e=none)(hd:y.data=.fields vs)(z:vs[1]? =some .none)(D:y.dict=some d)
 (h:∀h',gp u (env::am) e d y.cls (rawInt L) h'->s.heap.UpToSlots h'->Q () {s with heap:=h'}):wpAny M A (noteFrame (.ref e) env) Q E s:=by
 unfold noteFrame;simp only[hf];refine av (wpAny_field he hd z ?_);rw[ak (by decide)];exact Eu fq hl hf he nA jX hd (Array.getElem?_eq_some_iff.mp z).1 D h
def VA{u:Heap}{env:Env}{am:List Env}{L e d:Addr}{C:Value}{Q:k09}(fq:A.frames=some (env::am))(hf:env.frame=some L)(rs:gp u (env::am) e d C .none s.heap)
 (h:∀h',gp u (env::am) e d C (rawInt L) h'->s.heap.UpToSlots h'->Q () {s with heap:=h'}):wpAny M A (noteFrame (.ref e) env) Q E s:=by
 obtain⟨nA,jX,hl,nI⟩:=rs;refine nI _ ?_;rintro oe vs T oT ts z ⟨yt,uf⟩ hd P yU uc B J y;subst yt;unfold noteFrame;simp only[hf];refine av (wpAny_field z hd P ?_);rw[al (show(Value.ref T != Value.none)=true from by simp)];refine av (wpAny_field B J y ?_);rw[ak (show¬((Value.none==rawInt L)=true)from by simp[rawInt])];refine av (wpAny_setField B J (Array.getElem?_eq_some_iff.mp y).1 ?_);have other:∀b,b≠T->(s.heap.update T (Obj.mapFields (·.setIfInBounds 3 Value.none))).get? b=s.heap.get? b:=λb hb=>Heap.get?_update_other _ _ (Ne.symm hb);have D:∀b o,s.heap.get? b=some o->(∀vs,o.data≠ .fields vs)->b≠T:=λb o hb x q=>by rw[q,B]at hb;injection hb with hb;subst hb;exact x ts J
 refine Eu fq (hl.of_keeps λb o hb x=>#[o,(other b (D b o hb x)).trans hb,rfl]) hf ((other e (Ne.symm uc)).trans z)
  (λb o G=>(other b λq=>by rw[q,yU]at G;cases G).trans (nA b o G)) jX hd (Array.getElem?_eq_some_iff.mp P).1 uf
  λh' x1 O=>h h' x1 λb o hb x=>O b o ((other b (D b o hb x)).trans hb) x
def Vy{u:Heap}{env:Env}{l:List Env}{L e d:Addr}{C:Value}{Q:k09}(hf:env.frame=some L)(y:gp u l e d C (rawInt L) s.heap)(h:Q () s):
 wpAny M A (noteFrame (.ref e) env) Q E s:=by
 refine y.t _ λoe vs T oT ts O z hd x D P G J B=> ?_;unfold noteFrame;simp only[hf];refine av (wpAny_field O hd x ?_);rw[al (show(Value.ref T != Value.none)=true from by simp)];refine av (wpAny_field G J B ?_);rw[al (show(rawInt L==rawInt L)=true from by simp)];exact aJ h
def A5{u:Heap}{l:List Env}{e d:Addr}{C fl:Value}{fr:k26}{Q:k09}(rs:gp u l e d C fl s.heap)
 (h:∀h',gp u l e d C (fr.elim .none λf=>rawInt f) h'->s.heap.UpToSlots h'->Q () {s with heap:=h'}):wpAny M A (setFlight (.ref e) fr) Q E s:=by
 obtain⟨nA,jX,hl,nI⟩:=rs;refine nI _ λoe vs T oT ts y yt hd O z P G B h3=> ?_;have D:3<ts.size:=(Array.getElem?_eq_some_iff.mp h3).1;have other:∀b,b≠T->(s.heap.update T (Obj.mapFields (·.setIfInBounds 3 (fr.elim Value.none λf=>rawInt f)))).get? b=s.heap.get? b:=
  λb hb=>Heap.get?_update_other _ _ (Ne.symm hb)
 have sg:∀b o,s.heap.get? b=some o->(∀vs,o.data≠ .fields vs)->b≠T:=λb o hb x q=>by rw[q,G]at hb;injection hb with hb;subst hb;exact x ts B
 unfold setFlight;refine av (wpAny_field y hd O ?_);rw[al (show(Value.ref T != Value.none)=true from by simp)];refine wpAny_setField G B D (h _ #[λb o J=>(other b λq=>by rw[q,z]at J;cases J).trans (nA b o J),jX,
  hl.of_keeps λb o hb x=>#[o,(other b (sg b o hb x)).trans hb,rfl],?_] λb o hb x=>#[o.slots,(other b (sg b o hb x)).trans hb])
 exactλU y9=>y9 oe vs T _ _ ((other e (Ne.symm P)).trans y) yt hd O z P (Heap.get?_update_self _ G (Obj.isFreed_of_fields (Obj.data_mapFields B _))) (Obj.data_mapFields B _) (by simp[D])
def MH{u:Heap}{env:Env}{l:List Env}{L e d:Addr}{C z:Value}{K:k01}(hf:env.frame=some L)(y:gp u l e d C z s.heap)
 (h:∀h',gp u l e d C (rawInt L) h'->s.heap.UpToSlots h'->K (.ref e) {s with heap:=h'}):cameBackBy M A env K (.ref e) s:=by
 obtain⟨P,O,D,G⟩:=id y;refine G _ λQ vs T oT ts B J hd x r U U U U=> ?_;unfold cameBackBy;refine av (wpAny_field B hd x ?_);rw[ak (show¬((Value.ref T==Value.none)=true)from by simp)];rw[hf];exact A5 y h
section
variable{P:Y}{O:Fn}{J:Heap}{L:Addr}{m:k03}{W W':Wd}{h:H}{s:Shared}{A:Around}{E:k01}{env:Env}{G:Ka}{l:Lc}{XR:ao}{RX:ag}{am:List Env}{C:Value}
structure Cx(A:Around)(J:Heap)(L:Addr)(env:Env)(am:List Env):Prop where
 below:∃lB,Below lB gx.hb am J
 frames:A.frames=some (env::am)
 fr:env.frame=some L
 kind:env.scope.kind=.function
abbrev gb(l:List Env):List Addr:=l.filterMap (·.frame)
def r7(hf:env.frame=some L)(u:b∈gb (env::am)):b=L\/b∈gb am:=by
 obtain⟨e,h,hb⟩:=List.mem_filterMap.mp u;rcases b8.mp h with rfl|h
 .rw[hf]at hb;exact .inl (aL hb).symm
 .exact .inr (List.mem_filterMap.mpr #[e,h,hb])
def Qn(hf:env.frame=some L):L∈gb (env::am):=List.mem_filterMap.mpr #[env,.head _,hf]
def qf(Q E:k01)(r:Result)(s:Shared):Prop:=match r with|.ok (.ret v)=>Q v s|.ok _=>False|.error e=>E e s
inductive vX(ah:Heap)(l:List Env)(e d:Addr)(C fl:Value)(news:k05)(h:Heap):Prop
 |mk (B:Heap) (a1:gx.hb.StaysIn B) (a2:∀b o,ah.get? b=some o->b∉gb l->B.get? b=some o) (a3:∀q∈news,B.get? q.1=some q.2/\ah.get? q.1=none) (a4:gp B l e d C fl h)
inductive sW(W:Wd)(v:V)(d:Addr):Prop
 |mk (es:List DictEntry) (n:Nat) (pv:Value) (a1:W.ar d=some (dictOf es n)) (a2:getL "tasks" es=some (some pv)) (a3:VR W v pv)
inductive LZ(C:Value)(J:Heap)(L:Addr)(m:k03)(e d:Addr)(news:k05)(h:Heap):Prop
 |mk (oe:Obj) (vs:Array Value) (a1:Fr J L h m) (a2:News J L h news) (a3:e∉news.map (·.1)) (a4:e≠L) (a5:J.get? e=none) (a6:h.get? e=some oe) (a7:oe.cls=C) (a8:oe.dict=some d) (a9:oe.data=.fields vs) (aa2:vs[1]? =some .none)
inductive L1(C:Value)(l:List Env)(J:Heap)(L:Addr)(m:k03)(e d:Addr)(news:k05)(h:Heap):Prop
 |mk (ah:Heap) (fl:Value) (a1:fl=.none\/fl=rawInt L) (a2:Fr J L ah m) (a3:ah.UpToSlots h) (a4:vX ah l e d C fl news h)
inductive oN(C:Value)(l:List Env)(J:Heap)(L:Addr)(m:k03)(W:Wd)(h:H)(v:V)(pe:Value)(s:Shared):Prop
 |mk (e d:Addr) (news:k05) (a1:pe=.ref e) (a2:bg W h news) (a3:sW W v d) (a4:s.gens=#[]) (a5:s.os=gx.os) (a6:LZ C J L m e d news s.heap\/L1 C l J L m e d news s.heap)
def cr(C:Value)(env:Env)(am:List Env)(J:Heap)(L:Addr):ao:=oN C (env::am) J L
def oN.go{l:List Env}{v:V}{pe:Value}(x:oN C l J L m W h v pe s):s.gens=#[]/\s.os=gx.os:=by cases x;exact#[‹_›,‹_›]
def Cx.none(X:Cx A J L env am)(F:Fr J L s.heap m):J.get? L=none:=by
 cases q:J.get? L with
 |none=>rfl
 |some o=>exact absurd (bU (Heap.lt_size q) F.above) (fK _)
def tX(F:Fr J L hp m):J.get? L=none:=by
 cases q:J.get? L with
 |none=>rfl
 |some o=>exact absurd (bU (Heap.lt_size q) F.above) (fK _)
def BL(X:Cx A J L env am){v:V}{pe:Value}(x:cr C env am J L m W h v pe s){K:k09}
 (k:∀e d news h' ah,pe=.ref e->bg W h news->sW W v d->Fr J L ah m->ah.UpToSlots h'->vX ah (env::am) e d C (rawInt L) news h'->K () {s with heap:=h'}):
 wpAny gM A (noteFrame pe env) K E s:=by
 obtain⟨e,d,news,rfl,R,z,hg,u,x⟩:=x;rcases x with⟨oe,vs,F,N,RC,RE,D,RF,rfl,hd,hv,h1⟩|⟨ah,fl,rs,F,up,B,hB,pq,hn,P⟩
 .obtain⟨lB,O⟩:=X.below;have Fi:=tX F;have Fy:gx.hb.get? L=none:=by
   cases q:gx.hb.get? L with
   |none=>rfl
   |some o=>rw[O.stays _ _ q]at Fi;cases Fi
  have FF:s.heap.FunFrames gx.hb (env::am):=.cons (by rw[X.kind];decide) X.fr F.ns Fy (O.frames.of_keeps λb o e U=>#[o,F.keep b o e,rfl]);have Wg:∀b,b∈gb am->∃o,J.get? b=some o:=λb hb=>let#[o,u,_]:=(O.frames.mem hb).2;#[o,u];have Q:gx.hb.StaysIn (hideAll s.heap (e::gb (env::am))):=λb o q=>hideAll_get _ (F.keep _ _ (O.stays _ _ q)) λG=>by
   rcases b8.mp G with rfl|G
   .rw[O.stays _ _ q]at D;cases D
   .rcases r7 X.fr G with rfl|G
    .rw[Fy]at q;cases q
    .rw[(O.frames.mem G).1]at q;cases q
  have jX:(hideAll s.heap (e::gb (env::am))).get? e=none:=hideAll_none _ (.head _);have FB:s.heap.FunFrames (hideAll s.heap (e::gb (env::am))) (env::am):=funFrames_hide FF λEv he b hb=>.tail _ (List.mem_filterMap.mpr #[Ev,he,hb]);refine Vz X.frames FB X.fr RF (λb o q=>of_hideAll _ q) jX hv h1 hd λh' P up=> ?_;refine k e d news h' (hideAll s.heap (e::news.map (·.1))) rfl R z ?_ ?_ #[_,Q,λb o q hb=> ?_,λq y=>#[?_,hideAll_none _ (.tail _ (qQ y))],P]
  .obtain⟨oL,es,ep,hL,Q5,Q8,Q6⟩:=F.ns;refine#[#[oL,es,ep,hideAll_get _ hL λG=> ?_,Q5,Q8,Q6],λb o q=>hideAll_get _ (F.keep _ _ q) λG=> ?_,F.above]
   .rcases b8.mp G with q|G
    .exact RE q.symm
    .obtain⟨p,hp,q⟩:=bv.mp G;exact(N p hp).2.1 q
   .rcases b8.mp G with rfl|G
    .rw[D]at q;cases q
    .obtain⟨p,hp,e'⟩:=bv.mp G;rw[←e',(N p hp).2.2]at q;cases q
  .exact(Heap.UpToSlots.of_keeps λb o q=>of_hideAll _ q).trans up
  .have yp:b∉e::news.map (·.1):=λG=>by rw[hideAll_none _ G]at q;cases q
   refine hideAll_get _ (of_hideAll _ q) λG=> ?_;rcases b8.mp G with rfl|G
   .exact yp (.head _)
   .exact hb G
  .refine hideAll_get _ (N q y).1 λG=> ?_;rcases b8.mp G with e'|G
   .exact RC (e'▸qQ y)
   .rcases r7 X.fr G with e'|G
    .exact(N q y).2.1 e'
    .obtain⟨o,u⟩:=Wg _ G;rw[(N q y).2.2]at u;cases u
 .rcases rs with rfl|rfl
  .exact VA X.frames X.fr P λh' EE Zy=>k e d news h' ah rfl R z F (up.trans Zy) #[B,hB,pq,hn,EE]
  .exact Vy X.fr P (k e d news s.heap ah rfl R z F up #[B,hB,pq,hn,P])
def BM(X:Cx A J L env am):XC A env (cr C env am J L):=#[λm W h v pe s E x k=>by
 have O:=oN.go x;refine BL X x λe d G h' P q1 R u F up D=> ?_;obtain⟨B,hB,Q,hn,y⟩:=D;subst q1;exact MH X.fr y λh2 z sM=>k _ #[e,d,G,rfl,R,u,O.1,O.2,.inr #[P,_,.inr rfl,F,up.trans sM,B,hB,Q,hn,z]]]
def aab(X:Cx A J L env am){v:V}{pe:Value}(x:cr C env am J L m W h v pe s){K:k09}
 (k:∀e d news h',pe=.ref e->bg W h news->sW W v d->J.UpToSlots h'->vX J am e d C .none news h'->K () {s with heap:=h'}):
 wpAny gM A (leaving env pe) K E s:=by
 unfold leaving;refine av (BL X x λe d news h' ah q1 R u F up z=> ?_);obtain⟨B,hB,Q,O,y⟩:=z;subst q1;refine A5 y λD ff sM=> ?_;obtain⟨k1,k2,kf,k4⟩:=ff;obtain⟨_,_,k3⟩:=kf;refine k e d news D rfl R u ((Heap.UpToSlots.of_keeps F.keep).trans (up.trans sM)) #[B,hB,λb o q hb=>Q b o (F.keep _ _ q) λG=> ?_,λq P=>#[(O q P).1,?_],k1,k2,k3,k4]
 .rcases r7 X.fr G with rfl|G
  .rw[tX F]at q;cases q
  .exact hb G
 .cases c:J.get? q.1 with
  |none=>rfl
  |some o=>have:=F.keep _ _ c;rw[(O q P).2]at this;cases this
structure eD(d:aB)(params:Arguments)(body:k07)(scope:Scope):Prop where
 po:params.posonlyargs=[]
 va:params.vararg=none
 ko:params.kwonlyargs=[]
 kw:params.kwarg=none
 names:params.args.map (·.arg)=d.params.map (λp=>nm p.2)
 nd:(d.params.map (·.2)).Nodup
 kinds:∀p∈d.params,p.2<aW/\scope.names.lookup (nm p.2)=some (if p.1 then .cell else .local)
 cells:(scope.names.filter (λx=>x.2== .cell)).map (·.1)=d.cells.map nm
 wQ:∀x∈d.cells,x<aW/\scope.names.lookup (nm x)=some .cell
 NJ:d.cells.Nodup
 frees:(scope.names.filter (λx=>x.2== .free)).map (·.1)=(d.frees.map nm).reverse
 flt:∀x∈d.frees,x<aW
 body:dj scope d.body body=true
 nt:fv d.body=true
 kind:scope.kind=.function
 co:scope.isCoroutine=false
 gen:scope.isGenerator=false
def xT(h:pg d params body scope=true):eD d params body scope:=by unfold pg at h;simp only[ja,cY,ix,tv,Cy,gy,Bool.not_eq_true']at h;obtain⟨⟨⟨⟨⟨⟨⟨⟨⟨⟨⟨⟨⟨⟨⟨⟨e,z⟩,D⟩,Q⟩,h5⟩,h6⟩,h7⟩,h8⟩,h9⟩,x⟩,B⟩,G⟩,J⟩,O⟩,P⟩,u⟩,y⟩:=h;exact#[e,z,D,Q,h5,h6,h7,h8,h9,x,B,G,J,O,P,u,y]
def MN{k:Str->Option NameKind}{u:List (Str×Value)}:∀{m:k03},(∀y∈u,k y.1=some .local)->∀y,bindL k u m y=(u.reverse.lookup y).or (m y):=by
 induction u with
 |nil=>exactλU U=>rfl
 |cons p r d=>
  intro m h y;show bindL k r (if k p.1=some .local then _ else m) y=_;rw[al (h p (.head _)),d λz hz=>h z (.tail _ hz),List.reverse_cons,List.lookup_append];cases List.lookup y r.reverse with
  |some _=>rfl
  |none=>
   show(if y=p.1 then some p.2 else m y)=(List.lookup y [p]).or (m y);rw[show[p]=[(p.1,p.2)]from rfl,List.lookup_cons];by_cases c:y=p.1
   .rw[al c,c,beq_self_eq_true];rfl
   .rw[ak c,beq_eq_false_iff_ne.mpr c];rfl
structure oD(W:Wd)(k:Str->Option NameKind)(l:Lc)(m cm:k03):Prop where
 loc:∀x v,l x=some v->k (nm x)=some .local->x<aW/\∃pv,m (nm x)=some pv/\VR W v pv
 cf:∀x,x<aW->k (nm x)≠some .local->jI W (l x) (cm (nm x))
def oD.step(ae:oD W k l m cm)(hx:x<aW)(hv:VR W v pv):
 oD W k (upd l x v) (if k (nm x)=some .local thenλy=>if y=nm x then some pv else m y else m) (if k (nm x)=some .local then cm elseλy=>if y=nm x then some pv else cm y):=by
 refine#[λy u h hk=> ?_,λy e hk=> ?_]
 .by_cases q:y=x
  .subst q;have h:=aL ((al rfl).symm.trans h);exact#[hx,pv,by rw[al hk];exact al rfl,h▸hv]
  .obtain⟨a,G,b,B⟩:=ae.loc y u ((ak q).symm.trans h) hk;refine#[a,G,?_,B];by_cases d:k (nm x)=some .local
   .rw[al d];exact(ak λz=>q (iK a hx z)).trans b
   .rw[ak d];exact b
 .show jI W (if y=x then some v else l y) _;by_cases q:y=x
  .subst q;rw[al rfl,ak hk];show jI W (some v) (if nm y=nm y then some pv else cm (nm y));rw[al rfl];exact hv
  .rw[ak q];by_cases d:k (nm x)=some .local
   .rw[al d];exact ae.cf y e hk
   .rw[ak d];show jI W (l y) (if nm y=nm x then some pv else cm (nm y));rw[ak λz=>q (iK e hx z)];exact ae.cf y e hk
def ZC(e:upd l x v y=some u):x=y\/l y=some u:=by
 by_cases q:y=x
 .exact .inl q.symm
 .exact .inr ((ak q).symm.trans e)
def CP{ps:k28}:∀{args:k00} {bf:k04} {l0 l:Lc} {m cm:k03},gB ps args l0=some l->aA W args bf->(∀p∈ps,p.2<aW)->oD W k l0 m cm->
 oD W k l (bindL k ((ps.map λp=>nm p.2).zip bf) m) (bindC k ((ps.map λp=>nm p.2).zip bf) cm)/\bf.length=ps.length/\(∀x v,l x=some v->(∃p∈ps,p.2=x)\/l0 x=some v):=by
 induction ps with
 |nil=>
  intro args bf l0 l m cm e R _ ae;induction args using List.casesOn with
  |nil=>cases aL e;cases(R:bf=[]);exact#[ae,rfl,λU U h=>.inr h]
  |cons=>exact no e
 |cons p r J=>
  intro args bf l0 l m cm e R d ae;induction args using List.casesOn with
  |nil=>exact no e
  |cons v vs=>refine R.f7 λpv O hv R=> ?_;obtain⟨a,b,B⟩:=J e R (λp hp=>d p (.tail _ hp)) (ae.step (d p (.head _)) hv);exact#[a,aq (· +1) b,λy u G=>(B y u G).elim (λz=>z.elim λp z=>.inl #[p,.tail _ z.1,z.2]) λh=>(ZC h).imp (λq=>#[p,.head _,q]) id]
def Ng{cm:k03}{cs u:k17}{xs y:k05}(h:CellsAre cm cs xs)(k:CellsAre cm u y):CellsAre cm (cs++u) (xs++y):=by
 induction h with
 |nil=>exact k
 |cons e _ d=>exact .cons e d
def Ni{cs:k17}{xs:k05}(h:CellsAre cm cs xs):CellsAre cm cs.reverse xs.reverse:=by
 induction h with
 |nil=>exact .nil
 |cons e _ d=>rw[List.reverse_cons,List.reverse_cons];exact Ng d (.cons e .nil)
def Nh{cs:k17}{xs:k05}(h:CellsAre cm cs xs):xs.map (·.1)=cs.map (·.2):=by
 induction h with
 |nil=>rfl
 |cons e _ d=>exact aq (List.cons _) d
def Nj{u:List (Str×NameKind)}:∀{n:Nat} {acc:k17},(cellsFrom n u acc).map (·.1)=((u.filter (λx=>x.2== .cell)).map (·.1)).reverse++acc.map (·.1):=by
 induction u with
 |nil=>exact rfl
 |cons p r d=>
  intro n acc;show((if(p.2==NameKind.cell)=true then _ else _:List (Str×Addr))).map (·.1)=_;cases c:p.2==NameKind.cell with
  |true=>rw[al rfl,d,List.filter_cons_of_pos (by exact c),List.map_cons,List.map_cons,List.reverse_cons,List.append_assoc];rfl
  |false=>rw[ak (λe=>nomatch e),d,List.filter_cons_of_neg (by exact f0.mp c)]
def Nk:∀{n:Nat} {acc:k17},(acc.map (·.2)).Nodup->(∀p∈acc,p.2<n)->((cellsFrom n u acc).map (·.2)).Nodup:=by
 induction u with
 |nil=>exactλh U=>h
 |cons p r B=>
  intro n acc h x;show((if(p.2==NameKind.cell)=true then _ else _:List (Str×Addr)).map (·.2)).Nodup;by_cases c:(p.2==NameKind.cell)=true
  .rw[al c];refine B (ek.mpr #[λG=> ?_,h]) λq d=>(b8.mp d).elim (λe=>e▸bA _) λd=>Nat.lt_succ_of_lt (x q d);obtain⟨q,d,e⟩:=bv.mp G;exact fK _ (e▸x q d)
  .rw[ak c];exact B h x
def LA(W:Wd)(news:k05)(cs:k17)(cells:k05)(G:Ka)(Q:Ka->H->Prop):Prop:=∀P:Prop,(∀(d:Ka) (h':H) (W':Wd) (le:W.Le W') (R:bg W' h' (cells.reverse++news)) (hk:∀x a,d x=some a->(∃c,(nm x,c)∈cs/\W'.aN a=some c)\/G x=some a) (q:Q d h'),P)->P
def U7{u:Lc}{cm:k03}{Q:Ka->H->Prop}{cs:k17}{cells:k05}(ca:CellsAre cm cs cells):∀{xs:k06} {G:Ka} {h:H} {W:Wd} {news:k05},cs.map (·.1)=xs.map nm->(cells.map (·.1)).Nodup->
 (∀p∈cells,p.1∉news.map (·.1))->(∀x∈xs,jI W (u x) (cm (nm x)))->bg W h news->r8 d u xs G h Q->LA W news cs cells G Q:=by
 induction ca with
 |nil=>intro xs G h W news e _ _ _ R q;cases List.map_eq_nil_iff.mp e.symm;exactλU O=>O G h W (.refl W) R (λU U e=>.inr e) q
 |@cons n c o cs cells hd hr ih=>
  intro xs G h W news e J D P R q;induction xs using List.casesOn with
  |nil=>exact nomatch e
  |cons x r=>
   obtain⟨a,ha,q⟩:=q;have e:n=nm x/\cs.map (·.1)=r.map nm:=List.cons.inj e;have J:=ek.mp J;obtain⟨R1,dQ⟩:=R.name (a:=a) ha (x:=c) (new:=[(c,o)]) (xs:=[]) (o:=.cell (u x)) rfl (ek.mpr #[List.not_mem_nil,List.nodup_nil]) (λy B=>(cu.mp B)▸D (c,o) (.head _))
    (λW' hW le=>#[c,o,_,by rw[hW];exact al rfl,.head _,hd,e.1▸(P x (.head _)).up le.lv])
   refine(ih e.2 J.2 (λp hp hm=>(b8.mp hm).elim (λe'=>J.1 (bv.mpr #[p,hp,e'])) (D p (.tail _ hp))) (λy B=>(P y (.tail _ B)).up dQ.lv) R1 q) _ λmC h' W' le R' hk q'=> ?_;refine(λU O=>O mC h' W' (dQ.trans le) (by rw[List.reverse_cons,List.append_assoc];exact R') (λy b hb=> ?_) q');rcases hk y b hb with z|B
   .exact .inl (z.imp λc' z=>#[.tail _ z.1,z.2])
   .by_cases q:y=x
    .cases aL ((al q).symm.trans B);exact .inl #[c,by rw[q,←e.1];exact .head _,le.aN _ _ (al rfl)]
    .exact .inr ((ak q).symm.trans B)
def NB{cl:k17}{cs:k31}(hc:ip W cl cs):cs.lookup x=some a->∃c,cl.lookup (nm x)=some c/\W.aN a=some c/\x<aW:=
 ci.ind (M:=λcl cs=>cs.lookup x=some a->∃c,cl.lookup (nm x)=some c/\W.aN a=some c/\x<aW) no (λp r q t h U O e=>by
  rw[show q=(q.1,q.2)from rfl,List.lookup_cons]at e;rw[show p=(p.1,p.2)from rfl,List.lookup_cons,h.1.1];cases c:x==q.1 with
  |true=>rw[c]at e;rw[eq_of_beq c,beq_self_eq_true];exact#[p.2,rfl,aL e▸h.2,h.1.2]
  |false=>
   rw[c]at e;obtain⟨B,G,J,d⟩:=O e;rw[beq_eq_false_iff_ne.mpr λz=>by rw[iK d h.1.2 z,beq_self_eq_true]at c;cases c];exact#[B,G,J,d]) hc
end
def oE(P:Y)(scope:Scope)(qual:Str)(u:Value)(f:Nat)(st:Stmt):Prop:=∀B:Prop,(∀(N:dr) (e:Pos) (d:aB) (G:N∈d8 gx.K) (J:∀h∈d8 gx.K,h.P=N.P->h=N) (O:N.f=f) (y:e.line=N.line) (z:e.col=N.col) (D:st=N.st e) (Q:u=.ref N.c) (a8:CodeHd gx.hb N.c N.P) (b1:N.params.defaults=[]) (b2:N.params.kw_defaults=[]) (b3:∀env,annTrees N.params none env=[]) (b4:∀env:Env,env.scope=scope->env.qual=qual++".<locals>."->qualnameIn env N.name N.name=N.qual) (b5:P.fns f=some d) (b6:frees N.scope.names=d.frees.map nm) (b7:∀x∈d.frees,x<aW/\scope.names.lookup (nm x)=some .cell),B)->B
def lC(d:aB)(fd:FuncData):Prop:=∀(s:Shared) (args:k00) (bf:k04) (W:Wd) (l:Lc),gx.hb.StaysIn s.heap->aA W args bf->
 gB d.params (args++d.dE) (λU=>none)=some l->
 ∃e,BindsTo s fd #[bf,[]] ((d.params.map λp=>nm p.2).zip e)/\aA W (args++d.dE) e
def Lk(P:Y)(f:Nat)(d:aB):Prop:=∀B:Prop,(∀(fo:Obj) (name e:Str) (params:Arguments) (body:k07) (scope:Scope) (J u h y:Value) (an:k26) (x G:Value) (z:gx.hb.get? (eG f)=some fo) (D:fo.data=.func (fnX name e params body scope [] J u h y an x G)) (Q:gx.hb.CodeRec x e) (a4:eD d params body scope) (a5:lC d (fnX name e params body scope [] J u h y an x G)) (a6:∀O st,(O,st)∈bY d.body body->oE P scope e x O st),B)->B
structure gU(P:Y):Prop where
 ah:cb P
 B:fW
 fns:∀f d,P.fns f=some d->d.frees=[]->Lk P f d
 Vk:∀N∈d8 gx.K,∀d,P.fns N.f=some d->eD d N.params N.body N.scope/\d.cells=[]/\d.dE=[]/\∀f' st,(f',st)∉bY d.body N.body
 cls:∀c f,P.rL c=some f->c<7/\makesIn gx.K (dZ c)=true/\findIn gx.K (.ref (dZ c)) "__init__"=some (some (.ref (eG f)))/\isFn gx.K (.ref (eG f))=true/\keepIn gx.K (.ref (dZ c))=true
structure Rm(A:Around)(n:Nat):Prop where
 handled:A.handled=none
 depth:A.depth+2*n+10<recursionLimit
 units:A.units+8*n+400<cLine
structure mM(A:Around)(n:Nat):Prop where
 handled:A.handled=none
 depth:A.depth+1+2*n+10<recursionLimit
 units:A.units+3+8*n+400<cLine
def i3(P:Y)(C:Value)(n:Nat):Prop:=∀A J L env am m W h s c vs d bf Q X,Cx A J L env am->gx.hb.StaysIn J->Rm A n->St J L m W h s->VR W c d->aA W vs bf->bQ P n c vs h Q X->
 fF gM d s.heap/\wpAny gM A (PySem.call d bf []) (dB J L m W Q) (bz (cr C env am J L m) W X) s
def ir(P:Y)(C:Value):Prop:=∀O A J L env am G,Cx A J L env am->Rm A 0->Fm P O A J L (cr C env am J L)->∀e v n p q r,aM env.scope e v=true->n=Str.ofString "Deadlock"->env.scope.names.lookup n=some .globalImplicit->
 dC P O A J L (cr C env am J L) env G (.qa e) (.Raise (some (.Call (.Name n p) [v] [] q)) none r)
section
variable{P:Y}{O:Fn}{J:Heap}{L:Addr}{m:k03}{W W':Wd}{h:H}{s:Shared}{A:Around}{E:k01}{env:Env}{G:Ka}{l:Lc}{XR:ao}{RX:ag}{am:List Env}{C:Value}{n:Nat}
def oE.for{scope:Scope}{u:Str}{z:Value}{f:Nat}{st:Stmt}(Z:oE P scope u z f st)(hb:gx.hb.StaysIn J){y fa:Addr}{cl:k17}:iq P J (envX u scope y fa z cl) f st:=by exact Z _ λN e d h h2 h3 h4 h5 h6 h7 h8 h9 x B G O D Q=>λU y9=>y9 N u scope y fa cl e d h h2 h3 h4 h5 h6 (h7▸rfl) (h8.keeps hb) h9 x (B _) (G _ rfl rfl) O D Q
def Rm.un(r:Rm A n):A.units+300<cLine:=by have:=r.units;clear r;lia
def Rm.dn(h:k<=n)(r:Rm A n):Rm A k:=#[r.handled,el (Nat.add_le_add_right (fL (Nat.mul_le_mul_left 2 h) _) _) r.depth,el (Nat.add_le_add_right (fL (Nat.mul_le_mul_left 8 h) _) _) r.units]
def Rm.zero(r:Rm A n):Rm A 0:=r.dn (cD _)
def MU(PO:gU P)(IH:i3 P C n)(RD:ir P C)(X:Cx A J L env am)(hb:gx.hb.StaysIn J)(rm:Rm A n){d:aB}(S:eD d params body env.scope)
 (y:∀u st,(u,st)∈bY d.body body->iq P J env u st):gs P (bQ P n) A J L (cr C env am J L) env G d.body body:=by
 have F:Fm P (bQ P n) A J L (cr C env am J L):=#[λm=>#[PO.ah,hb,λW h s c vs x bf Q Z S e hv q=>IH A J L env am m W h s c vs x bf Q Z X hb rm S e hv q,rm.handled,rm.un],PO.B];exact A2 #[F,BM X,RD (bQ P n) A J L env am G X rm.zero F] d.body body S.body S.nt y
def enter(PO:gU P)(IH:i3 P C n)(RD:ir P C){g':Heap}{y fa:Addr}{m':k03}{W1:Wd}{h1:H}{s1:Shared}{u:Str}{scope:Scope}{D:Value}{cl:k17}{mC:Ka}{l':Lc}{d:aB}{params:Arguments}{body:k07}{R:k22}{Q X:QV}
 (jj:gx.hb.StaysIn g')(FG:Fr J L g' m)(BG:Below A gx.hb (env::am) g')(rm:mM A n)(S:eD d params body scope)(hn:∀f' st,(f',st)∈bY d.body body->iq P g' (envX u scope y fa D cl) f' st)
 (pL:W.Le W1)(S1:St g' y m' W1 h1 s1)(aa:Lf y m' (envX u scope y fa D cl) mC W1 l')
 (q:bc P (bQ P n) mC d.body l' h1 (λf U h=>∃h',i6 h h'/\match f with|.ret v=>Q v h'|.next=>Q .none h'|.cont=>False) (λv U h=>∃h',i6 h h'/\X v h'))
 (ji:∀W' h' s' v pv,W.Le W'->St J L m W' h' s'->VR W' v pv->Q v h'->R (.ok (.ret pv)) s')(jV:∀W' h' s' v e,W.Le W'->cr C env am J L m W' h' v e s'->X v h'->R (.error e) s'):
 wpAny gM (A.deeper (envX u scope y fa D cl)) (execs body (envX u scope y fa D cl))
  (λfl s'=>LeaveK J L m g' R (match fl with|.ret v=>v|_=>.none) s')
  (λe s'=>wpAny gM (A.deeper (envX u scope y fa D cl)) (leaving (envX u scope y fa D cl) e) (λU kc=>R (.error e) kc) (λe' kc=>R (.error e') kc) s') s1:=by
 have X':Cx (A.deeper (envX u scope y fa D cl)) g' y (envX u scope y fa D cl) (env::am):=#[#[A,BG],Around.frames_deeper BG.stack,rfl,S.kind];have Xw:Rm (A.deeper (envX u scope y fa D cl)) n:=#[rm.handled,rm.depth,rm.units];refine bj (MU PO IH RD X' jj Xw S hn m' W1 h1 s1 l' _ _ aa S1 q) (λfl s' z=> ?_) λe s' z=> ?_
 .refine z _ λm2 O h2 l2 f bK G O2 hr B=> ?_;obtain⟨h3,fo,B⟩:=B;obtain⟨pR,N2,R2⟩:=G.nw;refine leaveK_ G.fr N2 λF N=> ?_;have qL:St J L m O h3 s':=#[F,#[pR,N,R2.xX fo],G.gens,G.os];clear G O2 N2 R2 S1 aa q;revert B;exact hr.e (λB=>ji O h3 s' .none .none (pL.trans bK) qL .n B) (λB=>B.elim) λv pv hv B=>ji O h3 s' v pv (pL.trans bK) qL hv B
 .refine z _ λm2 O h2 l2 v bK x O2 B=> ?_;obtain⟨h3,fo,B⟩:=B;have hg:=oN.go x;refine aab X' x λe d news h' q1 R2 br up fl=> ?_;subst q1;exact jV O h3 _ v _ (pL.trans bK) #[e,d,news,rfl,R2.xX fo,br,hg.1,hg.2,.inr #[g',.none,.inl rfl,FG,up,fl]] B
def Ao{d:aB}{scope:Scope}(S:eD d params body scope)(hc:d.cells=[]):∀x∈scope.names,x.2≠ .cell:=λx B e=>by have:x∈scope.names.filter (λx=>x.2== .cell):=fZ.mpr #[B,by rw[e];rfl];have h:=qQ (f:=(·.1)) this;rw[S.cells,hc]at h;cases h
def Iv{k:Str->Option NameKind}{mm cm:k03}{d:aB}{scope:Scope}(S:eD d params body scope)(hk:∀x,k x=scope.names.lookup x)(ae:oD W k l mm cm)(u:∀x v,l x=some v->(∃p∈d.params,p.2=x)\/(λU=>none:Lc) x=some v):
 ∀x v,jA d.params l x=some v->x<aW/\∃pv,mm (nm x)=some pv/\VR W v pv:=λx v e=>by
 by_cases h:(d.params.any λp=>p.1&&p.2==x)=true
 .exact no ((al h).symm.trans e)
 .have e:=(ak h).symm.trans e;refine(u x v e).elim (λz=>z.elim λp z=> ?_) no;obtain⟨G,B⟩:=S.kinds p z.1;have:p.1=false:=f0.mpr λc=>h (List.any_eq_true.mpr #[p,z.1,by rw[c,z.2,beq_self_eq_true];rfl]);rw[this]at B;rw[←z.2]at e⊢;exact ae.loc _ v e (by rw[hk,B];rfl)
def HU{af:Type}{l:List af}(h:l.Nodup):l.reverse.Nodup:=by unfold List.Nodup at*;rw[List.pairwise_reverse];exact h.imp Ne.symm
def call_plain(PO:gU P)(IH:i3 P C n)(RD:ir P C)(X:Cx A J L env am)(hb:gx.hb.StaysIn J)(rm:mM A n)(z:St J L m W h s){f:Addr}{fo:Obj}{name u:Str}{params:Arguments}{body:k07}{scope:Scope}{cl:k17}{dV kV doc pm D ct:Value}{an:k26}{d:aB}{clo:k31}{args:k00}{bf:k04}{R:k22}{Q Z:QV}
 (ho:s.heap.get? f=some fo)(hd:fo.data=.func (fnX name u params body scope cl dV kV doc pm an D ct))(nq:s.heap.CodeRec D u)(S:eD d params body scope)(hc:d.cells=[])(np:lC d (fnX name u params body scope cl dV kV doc pm an D ct))(Ru:ip W cl clo)
 (hn:∀lY,gx.hb.StaysIn lY->∀L' f' st,(f',st)∈bY d.body body->iq P lY (envX u scope L' f D cl) f' st)(hv:aA W args bf)(q:ei P (bQ P n) d clo args h Q Z)
 (ji:∀W' h' s' v pv,W.Le W'->St J L m W' h' s'->VR W' v pv->Q v h'->R (.ok (.ret pv)) s')(jV:∀W' h' s' v e,W.Le W'->cr C env am J L m W' h' v e s'->Z v h'->R (.error e) s'):
 codeAny gM A (.call (.ref f) #[bf,[]]) R s:=by
 obtain⟨lB,lG⟩:=X.below;obtain⟨G,N,Rn⟩:=z.nw;refine bo q λl hl q=> ?_;rw[hc]at q;obtain⟨AU,jj,lV⟩:=np s args bf W l (λb o e=>z.fr.keep _ _ (hb _ _ e)) hv hl;have jn:∀y∈(d.params.map λp=>nm p.2).zip AU,scope.names.lookup y.1=some .local:=λy hy=>by
  have:=(List.of_mem_zip (show(y.1,y.2)∈_ from hy)).1;obtain⟨p,hp,e⟩:=bv.mp this;have B:=(S.kinds p hp).2;cases c:p.1 with
  |false=>rw[c]at B;rw[←e];exact B
  |true=>rw[c]at B;exact absurd rfl (Ao S hc _ (n8 B))
 obtain hk:∀x,(λx=>scope.names.lookup x) x=scope.names.lookup x:=λU=>rfl;obtain⟨ae,bl,pA⟩:=CP (k:=λx=>scope.names.lookup x) (m:=λU=>none) (cm:=λU=>none) hl lV (λp hp=>(S.kinds p hp).1) #[λx v e=>no e,λx U U=>rfl];obtain gG:=Iv (scope:=scope) S hk ae pA;refine callX_plain (cl:=cl) lG z.fr N ((PO.ah.T.nolimit).keeps (λb o e=>hb b o e)) X.frames X.fr X.kind ho hd nq (by have:=rm.depth;lia) jj jn (λg' L' d0 FG F' N' B' st lt=> ?_) (Ao S hc) S.co S.gen S.kind;have e7:gx.hb.StaysIn g':=λb o e=>st _ _ (hb _ _ e);refine enter PO IH RD e7 FG B' rm S (λf' x O=>hn g' e7 L' f' x O) (Wd.Le.refl W) (#[F',#[G,N',Rn],z.gens,z.os]) #[#[S.kind,rfl,rfl,λx a e U=> ?_,λx O=> ?_],rfl,rfl,λx v e=> ?_] q ji jV
 .obtain⟨c,h1,B,_⟩:=NB Ru e;exact#[c,h1,B]
 .exact absurd rfl (Ao S hc _ (n8 (show scope.names.lookup x=some .cell from O)))
 .obtain⟨a,pv,b1,b2⟩:=gG x v e;refine#[a,pv,?_,b2];rw[MN jn]at b1;exact(Option.or_none).symm.trans b1
def Nl:∀{n:Nat} {acc:k17},∀p∈cellsFrom n names acc,p∈acc\/n<=p.2:=by
 induction names with
 |nil=>exactλU h=>.inl h
 |cons x r d=>
  intro n acc p h;have h:p∈(if(x.2==NameKind.cell)=true then cellsFrom (n+1) r ((x.1,n)::acc)else cellsFrom n r acc):=h;by_cases c:(x.2==NameKind.cell)=true
  .rw[al c]at h;rcases d p h with h|h
   .exact(b8.mp h).elim (λe=>.inr (by rw[e];exact bG _)) .inl
   .exact .inr (Nat.le_of_succ_le h)
  .rw[ak c]at h;exact d p h
def HI{xs:k06}:xs.Nodup->(∀x∈xs,x<aW)->(xs.map nm).Nodup:=by
 induction xs with
 |nil=>exactλU U=>.nil
 |cons x r J=>intro h B;have h':=ek.mp h;refine ek.mpr #[λG=> ?_,J h'.2 λy d=>B y (.tail _ d)];obtain⟨y,d,e⟩:=bv.mp G;exact h'.1 (iK (B y (.tail _ d)) (B x (.head _)) e▸d)
end
section
variable{P:Y}{O:Fn}{J:Heap}{L:Addr}{m:k03}{W W':Wd}{h:H}{s:Shared}{A:Around}{E:k01}{env:Env}{G:Ka}{l:Lc}{XR:ao}{RX:ag}{am:List Env}{C:Value}{n:Nat}
variable{d:aB}{params:Arguments}{body:k07}{scope:Scope}
def wy(S:eD d params body scope)(n:Nat):(cellsFrom n scope.names []).map (·.1)=(d.cells.map nm).reverse:=by rw[Nj,S.cells];exact List.append_nil _
def wz(S:eD d params body scope)(n:Nat):((cellsFrom n scope.names []).map (·.1)).Nodup:=by rw[wy S];exact HU (HI S.NJ λx h=>(S.wQ x h).1)
def CY(S:eD d params body scope)(h:scope.names.lookup x=some .cell)(n:Nat):∃c,(cellsFrom n scope.names []).lookup x=some c:=HE (by
 rw[wy S,List.mem_reverse,←S.cells];exact bv.mpr #[(x,.cell),fZ.mpr #[n8 h,rfl],rfl])
def C0(S:eD d params body scope)(n:Nat)(y:Str×Value)(u:y∈(d.params.map λp=>nm p.2).zip bf):scope.names.lookup y.1=some .local\/(scope.names.lookup y.1=some .cell/\((cellsFrom n scope.names []).lookup y.1).isSome=true):=by
 obtain⟨p,hp,e⟩:=bv.mp (List.of_mem_zip (show(y.1,y.2)∈_ from u)).1;have h:=(S.kinds p hp).2;rw[←e];cases c:p.1 with
 |false=>rw[c]at h;exact .inl h
 |true=>rw[c]at h;exact .inr #[h,(CY S h n).elim λc e=>e▸rfl]
def K5(W:Wd)(news:k05)(u:Addr)(m:k03)(env:Env)(l:Lc)(cells:k05)(Q:Ka->H->Prop):Prop:=∀P:Prop,(∀(G:Ka) (h:H) (W':Wd) (le:W.Le W') (R:bg W' h (cells++news)) (aa:Lf u m env G W' l) (q:Q G h),P)->P
def CZ(S:eD d params body scope){Q:Ka->H->Prop}(hl:gB d.params args (λU=>none)=some l)(hv:aA W args bf)
 (ax:CellsAre (bindC (envOfC u scope y f D).kindOf ((d.params.map λp=>nm p.2).zip bf) λU=>none) (cellsFrom (y+1) scope.names []) cells)(lt:∀p∈news,p.1<y)(Rn:bg W h news)(q:r8 d' l d.cells (λx=>([]:List (Nat×Nm)).lookup x) h Q):
 K5 W news y (bindL (envOfC u scope y f D).kindOf ((d.params.map λp=>nm p.2).zip bf) λU=>none) (envX u scope y f D (cellsFrom (y+1) scope.names [])) (jA d.params l) cells Q:=by
 have hk:∀x,(envOfC u scope y f D).kindOf x=scope.names.lookup x:=λU=>rfl;obtain⟨ae,bl,pA⟩:=CP (k:=(envOfC u scope y f D).kindOf) (m:=λU=>none) (cm:=λU=>none) hl hv (λp hp=>(S.kinds p hp).1) #[λx v e=>no e,λx U U=>rfl];have P:=Iv (scope:=scope) S hk ae pA;have O:cells.map (·.1)=(cellsFrom (y+1) scope.names []).map (·.2):=Nh ax;obtain Sc:(cells.map (·.1)).Nodup:=by rw[O];exact Nk .nil (λU h=>nomatch h)
 obtain Sb:∀p∈cells,y<p.1:=λp hp=>by obtain⟨z,hz,e⟩:=bv.mp (show p.1∈(cellsFrom (y+1) scope.names []).map (·.2)by rw[←O];exact qQ hp);rw[←e];exact(Nl z hz).resolve_left λh=>nomatch h
 refine(U7 (cs:=(cellsFrom (y+1) scope.names []).reverse) (cells:=cells.reverse) (W:=W) (news:=news) (Ni ax) (by rw[List.map_reverse,wy S,List.reverse_reverse]) (by rw[List.map_reverse];exact HU Sc)
  (λp hp hm=>by
    obtain⟨z,hz,e⟩:=bv.mp hm;have J:=Sb p (List.mem_reverse.mp hp);rw[←e]at J;exact Nat.lt_asymm (lt z hz) J) (λx B=>ae.cf x (S.wQ x B).1 (by rw[hk,(S.wQ x B).2];nofun)) Rn q) _ λmC h' W' le G kW q'=> ?_
 rw[List.reverse_reverse]at G;refine(λU y9=>y9 mC h' W' le G #[#[S.kind,rfl,rfl,λx a e U=> ?_,λx B=>CY S B _],rfl,rfl,λx v e=>#[(P x v e).1,(P x v e).2.imp λpv z=>#[z.1,z.2.mono le]]] q');exact(kW x a e).elim (λz=>z.imp λc z=>#[lookup_of_mem_nodup (wz S _) (List.mem_reverse.mp z.1),z.2]) no
end
section
variable{P:Y}{O:Fn}{J:Heap}{L:Addr}{m:k03}{W W':Wd}{h:H}{s:Shared}{A:Around}{E:k01}{env:Env}{G:Ka}{l:Lc}{XR:ao}{RX:ag}{am:List Env}{C:Value}{n:Nat}
def call_cells(PO:gU P)(IH:i3 P C n)(RD:ir P C)(X:Cx A J L env am)(hb:gx.hb.StaysIn J)(rm:mM A n)(y:St J L m W h s){f:Addr}{fo:Obj}{name u:Str}{params:Arguments}{body:k07}{scope:Scope}{dV kV doc pm D ct:Value}{an:k26}{d:aB}{args:k00}{bf:k04}{R:k22}{Q Z:QV}
 (ho:s.heap.get? f=some fo)(hd:fo.data=.func (fnX name u params body scope [] dV kV doc pm an D ct))(nq:s.heap.CodeRec D u)(S:eD d params body scope)(np:lC d (fnX name u params body scope [] dV kV doc pm an D ct))
 (hn:∀lY,gx.hb.StaysIn lY->∀z cl f' st,(f',st)∈bY d.body body->iq P lY (envX u scope z f D cl) f' st)(hv:aA W args bf)(q:ei P (bQ P n) d [] args h Q Z)
 (ji:∀W' h' s' v pv,W.Le W'->St J L m W' h' s'->VR W' v pv->Q v h'->R (.ok (.ret pv)) s')(jV:∀W' h' s' v e,W.Le W'->cr C env am J L m W' h' v e s'->Z v h'->R (.error e) s'):
 codeAny gM A (.call (.ref f) #[bf,[]]) R s:=by
 obtain⟨lB,lG⟩:=X.below;obtain⟨G,N,Rn⟩:=y.nw;refine bo q λl hl q=> ?_;obtain⟨AU,jj,lV⟩:=np s args bf W l (λb o e=>y.fr.keep _ _ (hb _ _ e)) hv hl;refine callX_cells lG y.fr N ((PO.ah.T.nolimit).keeps (λb o e=>hb b o e)) X.frames X.fr X.kind ho hd nq (by have:=rm.depth;clear rm;lia) jj (C0 S) (wz S 0) (λO z d0 tk B FG F' N' ax B' st lt=> ?_) S.co S.gen S.kind;have e7:gx.hb.StaysIn O:=λb o e=>st _ _ (hb _ _ e);refine(CZ S hl lV ax lt Rn q) _ λmC h' W' le R' aa q'=> ?_;exact enter PO IH RD (cl:=cellsFrom (z+1) scope.names []) e7 FG B' rm S (λf' x hx=>hn O e7 z _ f' x hx) le #[F',#[B++G,N',R'],y.gens,y.os] aa q' ji jV
def CO{ps:k28}:∀{args:k00} {l0 l:Lc},gB ps args l0=some l->args.length=ps.length:=by
 induction ps with
 |nil=>
  intro args l0 l e;induction args using List.casesOn with
  |nil=>rfl
  |cons=>exact no e
 |cons p r d=>
  intro args l0 l e;induction args using List.casesOn with
  |nil=>exact no e
  |cons v vs=>exact aq (· +1) (d e)
def tB{d:aB}{fd:FuncData}(S:eD d fd.params body fd.scope)(hd:d.dE=[])(hf:fd.defaults=.none):lC d fd:=λs args bf W l U hv e=>by
 rw[hd,List.append_nil]at e⊢;refine#[bf,BindsTo.of_eq ?_,hv];rw[CQ S.po S.va S.ko S.kw ?_ hf ?_,S.names]at⊢
 .rw[S.names,be];exact hv.length.trans (CO e)
 .rw[S.names];have z:=HI S.nd λx h=>(bv.mp h).elim λp z=>z.2▸(S.kinds p z.1).1;rw[List.map_map]at z;exact z
def Rm.one(r:Rm A (n+1)):mM A n:=#[r.handled,el (Nat.add_le_add_right (bk (Nat.le_of_eq (Nat.add_right_comm _ 1 _)) (Nat.le_succ (A.depth+2*n+1))) 10) r.depth,el (Nat.add_le_add_right (bk (Nat.le_of_eq (Nat.add_right_comm _ 3 _)) (dL (A.units+8*n+3) 5)) 400) r.units]
def Rm.two(r:Rm A (n+1)){c:Addr}{l:k04}:mM (A.under (.builtin "type.__call__" #[.ref c::l,[]])) n:=#[r.handled,by have:=r.depth;clear r;show A.depth+1+1+2*n+10<recursionLimit;lia,by have:=r.units;clear r;show A.units+1+3+8*n+400<cLine;lia]
def EP(PO:gU P)(IH:i3 P C n)(RD:ir P C)(X:Cx A J L env am)(hb:gx.hb.StaysIn J)(rm:mM A n)(u:St J L m W h s){d:aB}{R:k22}{Q Z:QV}
 (hf:P.fns f=some d)(fq:d.frees=[])(hv:aA W args bf)(q:ei P (bQ P n) d [] args h Q Z)
 (D:∀W' h' s' v pv,W.Le W'->St J L m W' h' s'->VR W' v pv->Q v h'->R (.ok (.ret pv)) s')(jV:∀W' h' s' v e,W.Le W'->cr C env am J L m W' h' v e s'->Z v h'->R (.error e) s'):
 FnAt (eG f) s.heap/\codeAny gM A (.call (.ref (eG f)) #[bf,[]]) R s:=by
 refine(PO.fns f d hf fq) _ λfo name qual params body scope dV kV doc pm an jP ct G x z S nl cP=> ?_;have hk:∀b o,gx.hb.get? b=some o->s.heap.get? b=some o:=λb o e=>u.fr.keep _ _ (hb _ _ e);refine#[?_,?_]
 .obtain⟨oc,od,dt,sl⟩:=fo;dsimp only at x;subst x;exact#[oc,od,_,sl,hk _ _ G]
 .by_cases hc:d.cells=[]
  .exact call_plain PO IH RD X hb rm u (hk _ _ G) x (z.keeps hk) S hc nl (cl:=[]) (clo:=[]) rfl (λlY O L' B st y=>(cP B st y).for O) hv q D jV
  .exact call_cells PO IH RD X hb rm u (hk _ _ G) x (z.keeps hk) S nl (λlY O L' cl B st y=>(cP B st y).for O) hv q D jV
def sX(A:Around)(J:Heap)(L:Addr)(m:k03)(RX:ag)(W:Wd)(u:Value)(bf:k04)(Q X:QV)(s:Shared):Prop:=
 fF gM u s.heap/\wpAny gM A (PySem.call u bf []) (dB J L m W Q) (bz RX W X) s
end
section
variable{P:Y}{O:Fn}{J:Heap}{L:Addr}{m:k03}{W W':Wd}{h:H}{s:Shared}{A:Around}{E:k01}{env:Env}{G:Ka}{l:Lc}{XR:ao}{RX:ag}{am:List Env}{C:Value}{n:Nat}
variable(PO:gU P)(RD:ir P C)(IH:i3 P C n)(X':Cx A J L env am)(hb:gx.hb.StaysIn J)(rm:Rm A (n+1))(S:St J L m W h s){vs:k00}{bf:k04}{Q X:QV}(hv:aA W vs bf)
include PO RD IH X' hb rm S hv
def M6(hc:VR W (.fn f) u)(q:bQ P (n+1) (.fn f) vs h Q X):sX A J L m (cr C env am J L m) W u bf Q X s:=by refine bo q λd hd q=> ?_;cases(hc:u=_);have z:=EP PO IH RD X' hb (rm.one) S (R:=qf (dB J L m W Q) (bz (cr C env am J L m) W X)) hd q.1 hv q.2 (λW' h' s' v pv le B hv q=>λU y=>y W' h' v le B hv q) (λW' h' s' v e le x q=>λU y=>y W' h' v le x q);exact#[keeps_F _ z.1,wpAny_call z.2]
def M4(hc:VR W (.clo f cs) pc)(q:bQ P (n+1) (.clo f cs) vs h Q X):sX A J L m (cr C env am J L m) W pc bf Q X s:=by refine bo q λd hd q2=> ?_;clear q;refine hc _ λx N cl doc pm u tG oc Bz t e hN hf B lR lQ Rx nM=> ?_;subst e hf;obtain⟨D,G,R⟩:=S.nw;have z:=(G _ (R.aI _ _ B).1).1;obtain⟨O,Rq,jW,nF⟩:=PO.Vk N hN d hd;obtain S0:s.heap.CodeRec (.ref u) N.qual:=#[u,oc,Bz,t,rfl,(G _ (R.aI _ _ lQ).1).1,Rx,nM];refine#[keeps_F _ #[_,_,_,_,z],wpAny_call ?_];exact call_plain PO IH RD X' hb (rm.one) S z rfl S0 O Rq (tB O jW rfl) lR (λlY jj L' f' st B=>absurd B (nF f' st)) hv q2 (R:=qf (dB J L m W Q) (bz (cr C env am J L m) W X)) (λW' h' s' v pv le S' hv q=>λU y=>y W' h' v le S' hv q) (λW' h' s' v e le x q=>λU y=>y W' h' v le x q)
def M5{c:Nat}{pc:Value}(hc:VR W (.cls c) pc)(q:bQ P (n+1) (.cls c) vs h Q X):sX A J L m (cr C env am J L m) W pc bf Q X s:=by
 refine bo q λf hf q=>bo q λd hd q=> ?_;obtain⟨fq,a,ha,q⟩:=q;obtain⟨FD,hm,hi,FS,um⟩:=PO.cls c f hf;cases(hc:pc=_);have u:gx.K.In J:=PO.ah.X.keeps hb;refine#[keeps_K um _ (u.keeps S.fr.keep),?_];obtain⟨G,Nw,R⟩:=S.nw;refine call_cls S.fr u Nw hm hi FS λx B h' F' N' lt Ah=> ?_;have Gq:x∉G.map (·.1):=gh λp hp=>Nat.lt_trans (lt p hp) Ah;obtain⟨R1,D⟩:=R.name (a:=a) ha (x:=x) (new:=[(x,instObj (dZ c) B),(B,dictOf [] 0)]) (xs:=[B]) (o:=.inst c []) rfl (by simp[Nat.ne_of_gt Ah])
  (λy z=>(b8.mp z).elim (λe=>e▸Gq) λz=>cu.mp z▸gh lt)
  (λW' hW le=>#[x,B,[],0,by rw[hW];exact al rfl,by rw[hW];exact al (.tail _ (.head _)),.head _,.tail _ (.head _),rfl,FD])
 obtain S1:St J L m (W.name a x [B]) (h.set a (.live (.inst c []))) {s with heap:=h'}:=#[F',#[_,N',R1],S.gens,S.os];have Gr:VR (W.name a x [B]) (.ref a) (.ref x):=.r (al rfl);obtain Tk:aA (W.name a x [B]) (.ref a::vs) (.ref x::bf):=.c Gr (hv.mono D);clear hv R1 Nw R F' N' lt Ah Gq u um FS hi hm FD;obtain X2:Cx (A.under (.builtin "type.__call__" #[.ref (dZ c)::bf,[]])) J L env am:=#[X'.below,X'.frames,X'.fr,X'.kind];exact(EP PO IH RD X2 hb (rm.two) S1 (R:=InitBack x (qf (dB J L m W Q) (bz (cr C env am J L m) W X))) hd fq Tk q
  (λW' h' s' v pv le S' lV O=>#[by cases O.1;exact lV,λU y9=>y9 W' h' (.ref a) (D.trans le) S' (Gr.mono le) O.2]) (λW' h' s' v e le x' O=>λU y9=>y9 W' h' v (D.trans le) x' O)).2
end
section
variable{P:Y}{O:Fn}{J:Heap}{L:Addr}{m:k03}{W W':Wd}{h:H}{s:Shared}{A:Around}{E:k01}{env:Env}{G:Ka}{l:Lc}{XR:ao}{RX:ag}{am:List Env}{C:Value}{n:Nat}
def MZ(PO:gU P)(RD:ir P C)(n:Nat):i3 P C n:=by
 induction n with
 |zero=>exactλA J L env am m W h s c vs d bf Q X X' hb rm S e hv q=>False.elim q
 |succ n IH=>
  intro A J L env am m W h s c vs d bf Q X X' hb rm S e hv q;exact@V.casesOn (λc=>VR W c d->bQ P (n+1) c vs h Q X->sX A J L m (cr C env am J L m) W d bf Q X s) c (λU=>False.elim) (λU U=>False.elim) (λU U=>False.elim) (λU U=>False.elim) (λU U=>False.elim) (λU U=>False.elim) (λU U=>False.elim)
   (λf=>M6 PO RD IH X' hb rm S hv) (λc=>M5 PO RD IH X' hb rm S hv) (λU U=>False.elim) (λf x=>M4 PO RD IH X' hb rm S hv) e q
end
structure mG(B cR fu:String)(bm:k04):Prop extends ExcCallFacts B cR fu where
 newSplit:splitId cR=some (B,"__new__")
 newKind:builtinKind cR=some .builtinFn
 newRow:Manifest.signature? cR=some #[.any,B,B,.cls,[#["args",.varPos,false],#["kwargs",.varKw,false]]]
 hasB:bm.contains (.type B)=true
 hasBase:bm.contains (.type "BaseException")=true
 noAttr:bm.contains (.type "AttributeError")=false
 noName:bm.contains (.type "NameError")=false
 canon:Manifest.canonical cR=Manifest.canonical "BaseException.__new__"
def EB(F:ExcBaseFacts B cR fu bm)(a:Addr):mG B cR fu (.ref a::bm):=
 {F.toExcCallFacts with
  newSplit:=F.newSplit,newKind:=F.newKind,newRow:=F.newRow,hasB:=by rw[iv,F.hasB,Bool.or_true],hasBase:=by rw[iv,F.hasBase,Bool.or_true],
  noAttr:=by rw[iv,F.noAttr];rfl,noName:=by rw[iv,F.noName];rfl,canon:=F.canon}
section
variable{prog:Program}{w:World}{A:Around}{E:k01}{h:Heap}{g:Array GenState}{d:Drawn}{t:Nat}{os:OsState}{R:k22}
variable{nm q:Str}{C N:Addr}{bs bm:k04}{jl:Bool}{sn:List Str}{sub:k04}{ab:Bool}{col:Option Bool}{dd:k26}{k0 k1 k2 k3 k5:Option Value}{B cR fu:String}
def Pn(F:mG B cR fu bm){Q:k09}(u:h.get? C=some (excClassObj nm q C N bs bm jl sn sub ab col dd k0 k1 k2 k3 k5 cR))
 (y:Q () #[h,g,d,t,os]):wpAny M A (checkBuiltinCall cR #[.ref C::rest,[]]) Q E #[h,g,d,t,os]:=by
 have e:(Value.ref C::bm).contains (.type B)=true:=by rw[iv,F.hasB,Bool.or_true]
 have x:=F.noStar;unfold checkBuiltinCall;rw[F.newKind,F.newSplit,F.newRow];repeat (first|refine wpAny_loadPart_at u ?_|(refine wpAny_isSubtype_exc u ?_;rw[e])|refine wpAny_staticBase_exc u ?_|refine wpAny_madeBy_exc u ?_|simp only[bne_self_eq_false,oR,if_false]|wp_step)
 exact y
def Pt(F:mG B cR fu bm){rest:k04}(u:h.get? C=some (excClassObj nm q C N bs bm jl sn sub ab col dd k0 k1 k2 k3 k5 cR))
 (y:R (.ok (.ret (.ref (h.objs.size+1)))) #[(h.push {cls:=.type "tuple",data:=.seq rest.toArray}).push
   {cls:=.ref C,data:=.fields #[.ref h.objs.size,.none,.none,.none,.bool false,.none,]},g,d,t,os])(hrest:rest.length<=sizeLine:=by size_fits):
 codeAny (model prog w) A (.builtin cR #[.ref C::rest,[]]) R #[h,g,d,t,os]:=by
 have O:=F.ends;have G:(Value.ref C::bm).contains (.type B)=true:=by rw[iv,F.hasB,Bool.or_true]
 have x:(Value.ref C::bm).contains (.type "AttributeError")=false:=by rw[iv,F.noAttr];rfl
 have J:(Value.ref C::bm).contains (.type "NameError")=false:=by rw[iv,F.noName];rfl
 refine codeAny_builtinAt F.entry ?_;unfold Builtin.«BaseException.__new__»;refine PySem.wpAt_bind ?_;show PySem.wpAt _ _ _ (stack >>= _) _ _ _;refine PySem.wpAt_bind (PySem.wpAt_stack λp e=>PySem.wpAt_of_wpAny ?_);wp_walk;refine PySem.wpAt_of_wpAny ?_;rw[F.owner];repeat (first|with_reducible refine wpAny_madeHere_exc F.canon u ?_|with_reducible refine wpAny_loadPart_at u ?_|(with_reducible refine wpAny_isSubtype_exc u ?_;first|rw[G]at⊢ |rw[x]at⊢ |rw[J])|wp_step)
 show R _ _;rw[Heap.size_push];exact y
def Py(F:mG B cR fu bm){y:k03}{rest:k04}{oI:Obj}{Q:Fin->Shared->Prop}
 (u:h.get? C=some (excClassObj nm q C N bs bm jl sn sub ab col dd k0 k1 k2 k3 k5 cR))(hn:h.Ns N y)(hi:y "__init__"=some (.ref fI))
 (D:h.get? fI=some oI)(yB:oI.cls=.type "function")
 (hq:∀h' e,Heap.MadeExcOf h h' e (.ref C) rest->h.objs.size<=e->
   wpAny (model prog w) A (call (.ref fI) (.ref e::rest)) (λr s'=>r=.none/\Q (.done (.ret (.ref e))) s') E #[h',g,d,t,os])(hrest:rest.length<=sizeLine:=by size_fits):
 wpAny (model prog w) A (Builtin.«type.__call__» #[.ref C::rest,[]]) Q E #[h,g,d,t,os]:=by
 repeat (first|with_reducible refine wpAny_loadPart_at u ?_|with_reducible refine wpAny_madeBy_exc u ?_|wp_step)
 refine codeAny_call_builtin_code (Code.quiet_builtin _ F.quiet) (Pn F u ?_);refine Pt F u ?_ hrest;show wpAny _ _ _ _ _ _;have G:=f2 {cls:=.ref C,data:=.fields #[.ref h.objs.size,.none,.none,.none,.bool false,.none,]}
  (f2 {cls:=.type "tuple",data:=.seq rest.toArray} u)
 obtain RO:=f2 {cls:=.ref C,data:=.fields #[.ref h.objs.size,.none,.none,.none,.bool false,.none,]}
  (f2 {cls:=.type "tuple",data:=.seq rest.toArray} D)
 obtain SG:((h.push {cls:=.type "tuple",data:=.seq rest.toArray}).push {cls:=.ref C,data:=.fields #[.ref h.objs.size,.none,.none,.none,.bool false,.none,]}).Ns N y:=
  let#[o,es,O,e,r]:=hn;#[o,es,O,f2 _ (f2 _ e),r]
 have J:((h.push {cls:=.type "tuple",data:=.seq rest.toArray}).push
  {cls:=.ref C,data:=.fields #[.ref h.objs.size,.none,.none,.none,.bool false,.none,]}).get? (h.objs.size+1)=some
  {cls:=.ref C,data:=.fields #[.ref h.objs.size,.none,.none,.none,.bool false,.none,]}:=by heap_get
 obtain z:(Value.ref C::bm).contains (.ref C)=true:=by simp
 unfold isInstance;repeat (first|with_reducible refine wpAny_loadPart_at J ?_|(with_reducible refine wpAny_isSubtype_exc G ?_;rw[z])|wp_step)
 show wpAny _ _ (typeLookup (.ref C) _) _ _ _;rw[typeLookup_eq];refine av (wpAny_mroOf_exc G ?_);rw[lookupAlong_cons];refine av (wpAny_classOwn_exc G SG ?_);rw[hi];refine aJ (f4 (av ?_));unfold bindSpecial;refine av (wpAny_typeOf (T:="function") #[_,RO,yB] ?_);rw[al (by decide)];refine aJ (av (bj (hq _ (h.objs.size+1) #[λb o hb=>f2 _ (f2 _ hb),Heap.get?_none_of_le (Nat.le_succ _),h.objs.size,J,Heap.get?_none_of_le (bG _),?_] ?_) (λr s' hr=> ?_) λU U x=>x))
 .exact f2 _ (Heap.get?_push_at rfl rfl)
 .exact Nat.le_succ _
 .obtain⟨rfl,P⟩:=hr;wp_walk;exact P
def Pm(F:mG B cR fu bm){y:k03}{rest:k04}{oI:Obj}{Q:k01}
 (u:h.get? C=some (excClassObj nm q C N bs bm jl sn sub ab col dd k0 k1 k2 k3 k5 cR))(hn:h.Ns N y)(hi:y "__init__"=some (.ref fI))
 (z:h.get? fI=some oI)(D:oI.cls=.type "function")
 (hq:∀h' e,Heap.MadeExcOf h h' e (.ref C) rest->h.objs.size<=e->
   wpAny (model prog w) (A.under (.builtin "type.__call__" #[.ref C::rest,[]])) (call (.ref fI) (.ref e::rest)) (λr s'=>r=.none/\Q (.ref e) s') E #[h',g,d,t,os])(hrest:rest.length<=sizeLine:=by size_fits):
 wpAny (model prog w) A (call (.ref C) rest) Q E #[h,g,d,t,os]:=by
 have G:=tc_lookup;have J:=tc_bind (.ref C);have O:(#[h,g,d,t,os]:Shared).TypeIs (.ref C) "type":=#[_,u,rfl];refine wpAny_call (codeAny_of_tree ?_);show wpAny _ _ (callAny (.ref C) _) _ _ _;repeat (any_goals (first|assumption|with_reducible refine wpAny_loadPart_at u ?_|wp_step))
 refine#[rfl,?_];refine codeAny_call_builtin_at (Code.quiet_builtin _ (by decide+kernel)) entry_typeCall (wpAny_check_type_call_sub u (Py (hrest:=hrest) F u hn hi z D λh' e x hz=> ?_));exact hq h' e x hz
end
section
variable{prog:Program}{w:World}{A:Around}{E:k01}{s:Shared}{K:Frag}{x C:Addr}{ox:Obj}{od:Option Obj}{name:Str}{f9:Bool}
def Pr{Q:k01}(X:K.In s.heap)(ae:InstAt s.heap x ox C od)(y:findIn K (.ref C) "__getattribute__"=some (some (.builtin "BaseException.__getattribute__")))(z:findIn K (.ref C) "__getattr__"=some none)
 (Tf:mroIn K C (.type "BaseException")=some true)(hf:findObj K C od name=some (.value v))(D:handedIn v=true)(h:Q v {s with toks:=s.toks+1}):wpAny (model prog w) A (getAttr (.ref x) name f9) Q E s:=by
 have B:=ae.type (M:=model prog w);obtain J:=looks_findIn (M:=model prog w) X y;obtain O:=looks_findIn (M:=model prog w) X z;obtain P:=looks_find (M:=model prog w) X ae hf;obtain u:Looks (model prog w) s.heap (isInstance (.ref x) (.type "BaseException")) true:=B.andThen (looks_mroIn X Tf);have d:∀b o,s.heap.get? b=some o->s.heap.get? b=some o:=λU U e=>e;have G:=PySem.F.attr_Exception;unfold getAttr getAttrBy;refine av (wpAny_mkText (f4 (av (B _ _ _ _ d (av (J _ _ _ _ d ?_))))));obtain nN:(onTheHeap (Value.ref C)&&Value.builtin "BaseException.__getattribute__"==Value.builtin "object.__getattribute__")=false:=by
  have:(Value.builtin "BaseException.__getattribute__"==Value.builtin "object.__getattribute__")=false:=by decide+kernel
  rw[this,Bool.and_false]
 show wpAny _ _ (if(onTheHeap (Value.ref C)&&Value.builtin "BaseException.__getattribute__"==Value.builtin "object.__getattribute__")=true then _ else getAttrByItsOwn _ _ _ _ _ _) _ _ _;rw[nN,ak (by decide)];unfold getAttrByItsOwn;refine av ?_;show wpAny _ _ (typeLookup (.ref C) "__getattr__") _ _ _;refine O _ _ _ _ d (av (wpAny_attempt ?_));refine f4 ?_;obtain zh:(f9&&onTheHeap (Value.builtin "BaseException.__getattribute__"))=false:=by cases f9<;>rfl
 unfold callGetattribute boundAndCalled;rw[zh,ak (by decide),G.ga.bind];refine av (aJ (wpAny_call (codeAny_call_builtin G.ga.plain F.entry_bexc_ga (@check_slot (model prog w) _ _ _ "BaseException.__getattribute__" "BaseException" "__getattribute__" (.ref x) _ [] _ (by decide+kernel) (by decide+kernel) ?_ (F.args_bexc_ga _ _) ?_))))
 .exactλA Q E s' k q=>u A Q E s' k q
 .unfold Builtin.«object.__getattribute__»;refine av (aJ (av (aJ (av (B _ _ _ _ d (av (P _ _ _ _ d ?_)))))));refine aJ ?_;show wpAny _ _ (handedOut v) _ _ _;rw[handedOut_of D];exact aJ h
end
section
open PySem PySem.W PySem.Calls PyProof.Rows PySem.Builtin PySem.Builtin.ObjectAttr
variable{prog:Program}{w:World}{A:Around}{E:k01}{s:Shared}{K:Frag}{x C:Addr}{ox:Obj}{od:Option Obj}{name:Str}{f9:Bool}
set_option tactic.hygienic true in
def Oc{es:List DictEntry}(u:(getL name es).isSome=true):(!es.any (·.key.isStr name)&&es.any (·.refKey))=false:=by
 unfold getL at u;split at u
 .rename_i e h;rw[List.any_eq_true.mpr #[e,List.mem_of_find?_eq_some h,List.find?_some h]];rfl
 .split at u
  .cases u
  .rename_i z;rw[Bool.not_eq_true]at z;rw[z,Bool.and_false]
def PU{key v:Value}(hk:key.isStr name=true):∃e,(putL name hsh key v es).find? (·.key.isStr name)=some e/\e.val=v:=by
 induction es with
 |nil=>exact#[_,xJ hk,rfl]
 |cons e r d=>
  show∃e',(if e.key.isStr name=true then _ else _:List DictEntry).find? _=some e'/\_;by_cases c:e.key.isStr name=true
  .rw[al c];exact#[_,xJ c,rfl]
  .rw[ak c];exact d.imp λe' z=>#[(EJ (f0.mpr c)).trans z.1,z.2]
def QD{key v:Value}(hk:key.isStr name=true):getL name (putL name hsh key v es)=some (some v):=by obtain⟨e,h,d⟩:=PU (hsh:=hsh) (v:=v) hk (es:=es);rw[x6 h,d]
def TZ(name:Str):(Value.str name t).isStr name=true:=by simp[Value.isStr]
def IY{es:List DictEntry}{Q:Fin->Shared->Prop}(ai:s.heap.get? d=some (dictOf es n))(y:(getL name es).isSome=true)(hz:es.length<=900)
 (k:∀h' D u z,h'.get? d=some (dictOf u z)->getL name u=some (some v)->u.length<=es.length+1->(∃hsh t,u=putL name hsh (.str name t) v es)->Heap.SameBut d s.heap h'->Q (.done (.ret .none)) {s with heap:=h',toks:=D}):
 wpAny (model prog w) A (storeInDict d (.str name tk) name v) Q E s:=by
 unfold storeInDict newKeyGuard;refine av (aJ (av ?_));unfold nsSet;refine av ?_;refine av (wpAny_askSetting (aJ ?_));refine av (wpAny_mkText (av (wpAny_loadPart ai ?_)));have c:=Oc y;show wpAny _ _ (if aRefKeyMayBeTheName name es.toArray=true then _ else _) _ _ _;have x:aRefKeyMayBeTheName name es.toArray=false:=by rw[aRefKeyMayBeTheName_at,←Array.any_toList,←Array.any_toList];exact c
 rw[x,ak (by decide)];refine wpAny_updatePart ai ?_;have h:=Heap.get?_update_self (Obj.putName name (PyData.keyHash w.params name) (.str name s.toks) v) ai (by rw[putName_dict];rfl);rw[putName_dict]at h;obtain B:(putL name (PyData.keyHash w.params name) (.str name s.toks) v es).length<=es.length+1:=by
  clear ai y hz k c x h;induction es with
  |nil=>exact bG _
  |cons e r G=>
   show(if e.key.isStr name=true then _ else _:List DictEntry).length<=_;by_cases c:e.key.isStr name=true
   .rw[al c];exact Nat.le_succ _
   .rw[ak c];exact Nat.succ_le_succ G
 refine av (wpAny_lookBehind h (pastItsLine_dict (by rw[fi,fk];lia)) ?_);refine aJ (k _ _ _ _ h (QD (TZ name)) B #[_,_,rfl] (Heap.SameBut.update ..))
end
section
open PySem PySem.W PySem.Calls PyProof.Rows PySem.Builtin PySem.Builtin.ObjectAttr
structure lD(K:Frag)(C:Addr)(name:Str):Prop where
 sa:findIn K (.ref C) "__setattr__"=some (some (.builtin "object.__setattr__"))
 cls:∃cd,clsIn K C=some cd/\cd.hasDict=true/\cd.mro.contains (.type "object")=true/\cd.mro.isEmpty=false/\∀x,refuseLoop (.ref x) "__setattr__" cd.mro=pure ()
 Y7:takerIn K C name=some none
end
section
open PySem PySem.W PySem.Calls PyProof.Rows PySem.Builtin PySem.Builtin.ObjectAttr
variable{prog:Program}{w:World}{A:Around}{E:k01}{s:Shared}{K:Frag}{x C:Addr}{ox:Obj}{od:Option Obj}{name:Str}{f9:Bool}{R:k22}
def EA(X:K.In s.heap)(ae:InstAt s.heap x ox C od)(ax:lD K C name)
 (h:∀b,wpAny (model prog w) A.in1 (storeInOwnDict (.ref x) (.ref C) (.str name tk) name v b)
   (λfin s'=>match fin with|.done f=>R (.ok f) s'|.again c'=>c'.quiet=true/\codeAny (model prog w) A c' R s') (λe s'=>R (.error e) s') s):
 codeAny (model prog w) A (.call (.builtin "object.__setattr__") #[[.ref x,.str name tk,v],[]]) R s:=by
 have d:=PySem.F.store_object;obtain⟨cd,B,_,P,ne,u⟩:=ax.cls;obtain sub:Looks (model prog w) s.heap (isInstance (.ref x) (.type "object")) true:=ae.type.andThen (looks_mroIn X (by unfold mroIn;rw[B,Option.bind_some,ak (by rw[ne];decide),P]));refine codeAny_call_builtin d.slot.plain d.entry (@check_slot (model prog w) _ _ s "object.__setattr__" "object" "__setattr__" (.ref x) [.str name tk,v] [] _ d.kind d.split sub (d.args (.ref x) (.str name tk) v) ?_);obtain⟨attr,J,y⟩:=Option.bind_eq_some_iff.mp ax.Y7;obtain O:Looks (model prog w) s.heap (mroOf (.ref C)) cd.mro:=(looks_clsIn X B).andThen .now;obtain G:Looks (model prog w) s.heap (storeTaker? attr) none:=by
  cases attr with
  |none=>exact .now
  |some a=>obtain⟨b,hb,e⟩:=Option.map_eq_some_iff.mp y;refine(looks_takesIn X hb).andThen ?_;cases b<;>first|exact .now|cases e
 rw[osa_eq,refuse_eq];refine av (av (ae.type.here (av (O.here ?_))));rw[u];refine aJ (av (ae.type.here (av ((looks_findIn X J).here (av (G.here ?_))))));exact h _
def TK{Q:Option Addr->Shared->Prop}(X:K.In s.heap)(ae:InstAt s.heap x ox C (some (dictOf es n)))(hd:ox.dict=some u)(ax:lD K C name)(q:Q (some u) s):wpAny (model prog w) A (instanceDict x true) Q E s:=by
 obtain⟨cd,h,B,_⟩:=ax.cls;obtain⟨J,d,G,_⟩:=ae;obtain⟨P,y,O,z⟩:=ox;dsimp only at d hd;subst d hd;unfold instanceDict;refine av (wpAny_loadPart J ?_);cases O<;>first
  |(cases G;done)
  |(refine av ((looks_clsIn X h) _ _ _ _ (λU U e=>e) ?_)
    rw[B];exact aJ (a:=some u) q)
def Px{es:List DictEntry}{Q:k09}(X:K.In s.heap)(ae:InstAt s.heap x ox C (some (dictOf es n)))(hd:ox.dict=some y)(ax:lD K C name)(z:(getL name es).isSome=true)(hz:es.length<=900)
 (k:∀h' sK u D,h'.get? y=some (dictOf u D)->getL name u=some (some v)->u.length<=es.length+1->(∃hsh t,u=putL name hsh (.str name t) v es)->Heap.SameBut y s.heap h'->Q () {s with heap:=h',toks:=sK}):
 wpAny (model prog w) A (setAttr (.ref x) name v) Q E s:=by
 refine set_plain X ae ax.sa (EA (s:={s with toks:=s.toks+1}) X ae ax λb=> ?_);obtain rq:s.heap.get? y=some (dictOf es n):=by obtain⟨_,_,_,h⟩:=ae;rw[hd]at h;exact h
 exact av (aJ (av (TK (s:={s with toks:=s.toks+1}) X ae hd ax (IY (s:={s with toks:=s.toks+1}) rq z hz k))))
def TJ{Q:Option Addr->Shared->Prop}(X:K.In s.heap)(ae:InstAt s.heap x ox C none)(hd:ox.dict=none)(hv:ox.data=.fields vs)(ax:lD K C name)
 (k:∀h',h'.get? s.heap.objs.size=some (dictOf [] 0)->h'.get? x=some {ox with dict:=some s.heap.objs.size}->(∀b o,b≠x->s.heap.get? b=some o->h'.get? b=some o)->Q (some s.heap.objs.size) {s with heap:=h'}):wpAny (model prog w) A (instanceDict x true) Q E s:=by
 obtain⟨cd,B,G,_⟩:=ax.cls;obtain⟨h,d,O,rq⟩:=ae;obtain⟨P,y,u,z⟩:=ox;dsimp only at d hd hv;subst d hd hv;clear rq O;have J:=Heap.get?_push_of_some {cls:=.type "dict",data:=.dict #[]} h;unfold instanceDict;refine av (wpAny_loadPart h ?_);refine av ((looks_clsIn X B) _ _ _ _ (λU U e=>e) ?_);rw[G];refine av (wpAny_alloc' (av (wpAny_update' J (aJ (a:=some s.heap.objs.size) (k _ ?_ (Heap.get?_update_self _ J rfl) λb o hb e=> ?_)))))
 .exact(Heap.get?_update_ne _ _ _ _ (Nat.ne_of_gt (Heap.lt_size h))).trans (Heap.get?_push_at rfl rfl)
 .exact(Heap.get?_update_ne _ _ _ _ hb).trans (f2 _ e)
def Pw{Q:k09}(X:K.In s.heap)(ae:InstAt s.heap x ox C none)(hd:ox.dict=none)(hv:ox.data=.fields vs)(ax:lD K C name)
 (k:∀h' z u y,h'.get? x=some {ox with dict:=some s.heap.objs.size}->h'.get? s.heap.objs.size=some (dictOf u y)->getL name u=some (some v)->u.length<=1->(∃hsh t,u=putL name hsh (.str name t) v [])->(∀b o,b≠x->s.heap.get? b=some o->h'.get? b=some o)->Q () {s with heap:=h',toks:=z}):
 wpAny (model prog w) A (setAttr (.ref x) name v) Q E s:=by
 refine set_plain X ae ax.sa (EA (s:={s with toks:=s.toks+1}) X ae ax λb=>av (aJ (av (TJ (s:={s with toks:=s.toks+1}) X ae hd hv ax λO z1 z2 z3=> ?_))));have D:x≠s.heap.objs.size:=by obtain⟨P,_⟩:=ae;exact Nat.ne_of_lt (Heap.lt_size P)
 exact IY (es:=[]) (n:=0) (s:={s with toks:=s.toks+1,heap:=O}) z1 (by rfl) (cD _) λh' z u y h B G J d=>k h' z u y ((d.2 _ D).trans z2) h B G J λb o hb e=>(d.2 b (Nat.ne_of_lt (Heap.lt_size e))).trans (z3 b o hb e)
end
section
variable{prog:Program}{w:World}{A:Around}{E:k01}{h:Heap}{g:Array GenState}{d:Drawn}{t:Nat}{os:OsState}{R:k22}
variable{nm q:Str}{C N:Addr}{bs bm:k04}{jl:Bool}{sn:List Str}{sub:k04}{ab:Bool}{col:Option Bool}{dd:k26}{k0 k1 k2 k3 k5:Option Value}{B cR fu:String}
def Po(F:mG B cR fu bm){y:Obj}{Q:k09}
 (u:h.get? C=some (excClassObj nm q C N bs bm jl sn sub ab col dd k0 k1 k2 k3 k5 cR))(he:h.get? e=some y)(z:y.cls=.ref C)(D:Q () #[h,g,d,t,os]):
 wpAny M A (checkBuiltinCall fu #[.ref e::rest,[]]) Q E #[h,g,d,t,os]:=by
 have G:(Value.ref C::bm).contains (.type B)=true:=by rw[iv,F.hasB,Bool.or_true]
 have J:=F.noStar;unfold checkBuiltinCall;rw[F.initKind,F.initSplit,F.initRow];repeat (first|(with_reducible refine wpAny_loadPart_at he ?_;rw[z])|with_reducible refine wpAny_loadPart_at u ?_|(with_reducible refine wpAny_isSubtype_exc u ?_;rw[G])|wp_step)
 refine wpAny_onRaise ?_;rw[show∀(a b:String) (n:Nat),Bind.check #[.positional,"*",B,.self,[#["args",.varPos,false]]] a b n (List.map (λx=>x.fst) ({pos:=Value.ref e::rest}:Args).kw)=pure ()from
  λa b n=>check_star_args _ _ _ _ _ _]
 exact aJ D
def Ps(F:mG B cR fu bm){rest:k04}
 (u:h.get? C=some (excClassObj nm q C N bs bm jl sn sub ab col dd k0 k1 k2 k3 k5 cR))(he:h.get? e=some {cls:=.ref C,data:=.fields #[.ref t0,.none,.none,.none,.bool false,.none,]})
 (y:∀h' z,h'.get? e=some {cls:=.ref C,data:=.fields #[.ref z,.none,.none,.none,.bool false,.none,]}->Heap.ExtBut e h h'->R (.ok (.ret .none)) #[h',g,d,t,os])(hrest:rest.length<=sizeLine:=by size_fits):
 codeAny (model prog w) A (.call (.builtin fu) #[.ref e::rest,[]]) R #[h,g,d,t,os]:=by
 refine codeAny_call_builtin F.init.plain F.initEntry (Po F u he rfl ?_);obtain x:=f2 {cls:=.type "tuple",data:=.seq rest.toArray} he;wp_walk;refine y _ h.objs.size ?_ λb o hb G=> ?_
 .rw[Heap.get?_update_self _ x rfl];rfl
 .rw[Heap.get?_update_other _ _ (Ne.symm hb)];exact f2 _ G
end
section
variable{P:Y}{O:Fn}{J:Heap}{L:Addr}{m:k03}{W W':Wd}{h:H}{s:Shared}{A:Around}{E:k01}{env:Env}{G:Ka}{l:Lc}{XR:ao}{RX:ag}{am:List Env}{C:Value}{n:Nat}
def HN{CE pos:Pos}{Q:k01}(hc:og o=true)(hl:(CE.endLine==pos.line)=true)(y:cT e1=true)(D:cT e2=true)
 (h:∀pl:Sem Bool,wpAny M A (eval o env) (λov cj=>wpAny M A (getMethod ov name pl) (λu il=>wpAny M A (eval e1 env) (λv1 J8=>wpAny M A (eval e2 env) (λv2 mo=>fF M u.1 mo.heap/\wpAny M A (PySem.call u.1 (u.2++[v1,v2]) []) Q E mo) E J8) E il) E cj) E s):
 wpAny M A (eval (.Call (.Attribute o name CE) [e1,e2] [] pos) env) Q E s:=by
 refine B5 hc hl (λe d=> ?_) (by simp) λpl=>bj (h pl) (λov cj z=>bj z (λu il z=> ?_) λU U q=>q) λU U q=>q
 .rcases b8.mp d with rfl|d
  .exact y
  .rw[cu.mp d];exact D
 .refine callWith_of (P:=fF M u.1) (by rw[fT y,fT D];rfl) (λU x=>x) ?_;rw[fT y,fT D];exact Calls.evalArgs_plain (Calls.spliced_cons (bj z (λv1 J8 z=>Calls.spliced_cons (bj z (λv2 mo z=>Calls.spliced_nil z) λU U q=>q)) λU U q=>q))
def lF(f:Addr)(p2 u:Str)(body:k07):Prop:=∀P:Prop,(∀(fo:Obj) (name d:Str) (params:Arguments) (scope:Scope) (J e O:Value) (an:k26) (h G:Value) (y:gx.hb.get? f=some fo) (z:fo.cls=.type "function") (D:fo.data=.func (fnX name d params body scope [] .none J e O an h G)) (Q:gx.hb.CodeRec h d) (a5:params.posonlyargs=[]) (a6:params.vararg=none) (a7:params.kwonlyargs=[]) (a8:params.kwarg=none) (a9:params.args.map (·.arg)=[("self":Str),p2]) (b1:(("self":Str)==p2)=false) (b2:scope.names.lookup ("self":Str)=some .local) (b3:scope.names.lookup p2=some .local) (b4:scope.names.lookup u=some .globalImplicit) (b5:∀x∈scope.names,x.2≠ .cell) (b6:scope.kind=.function) (b7:scope.isCoroutine=false) (B:scope.isGenerator=false),P)->P
def qz(z:Heap)(u:Addr)(h:H)(Pst:Wd->Prop)(y:Flow)(s':Shared):Prop:=∀P:Prop,(∀(x:y=.next) (e:k03) (d:Wd) (B:St z u e d h s') (G:Pst d),P)->P
def lF.fo(ae:lF f p2 gl body):∃fo,gx.hb.get? f=some fo/\fo.cls=.type "function":=ae _ λU U U U U U U U U U U d e U U U U U U U U U U U U U U U=>#[_,d,e]
def Fw(ah:cb P)(X:Cx A J L env am)(hb:gx.hb.StaysIn J)(zb:A.depth<recursionLimit)(qM:St J L m W h s){R:k22}{Pst:Wd->Prop}(ae:lF f p2 gl body)
 (Rp:∀g' D s1 u scope Q,gx.hb.StaysIn g'->Cx (A.deeper (envX u scope D f Q [])) g' D (envX u scope D f Q []) (env::am)->scope.kind=.function->scope.names.lookup ("self":Str)=some .local->scope.names.lookup p2=some .local->scope.names.lookup gl=some .globalImplicit->
   St g' D (λy=>([("self",v1),(p2,v2)]:List (Str×Value)).reverse.lookup y) W h s1->
   wpAny gM (A.deeper (envX u scope D f Q [])) (execs body (envX u scope D f Q [])) (qz g' D h Pst) (λU U=>False) s1)
 (hR:∀W2 s',St J L m W2 h s'->Pst W2->R (.ok (.ret .none)) s'):FnAt f s.heap/\codeAny gM A (.call (.ref f) #[[v1,v2],[]]) R s:=by
 obtain⟨lB,lG⟩:=X.below;obtain⟨x,N,Rn⟩:=qM.nw;refine ae _ λfo name u params scope kV d pm an Q ct h1 h1c G h3 p1 Wi p3 p4 p5 p6 k1 k2 k3 hc hk yv yJ=> ?_;have kp:∀b o,gx.hb.get? b=some o->s.heap.get? b=some o:=λb o e=>qM.fr.keep _ _ (hb _ _ e);refine#[?_,?_]
 .obtain⟨oc,od,dt,sl⟩:=fo;dsimp only at G;subst G;exact#[oc,od,_,sl,kp _ _ h1]
 obtain np:bindArgs (fnX name u params body scope [] .none kV d pm an Q ct) #[[v1,v2],[]]=pure ([("self",v1),(p2,v2)]:List (Str×Value)):=by rw[CQ (fd:=fnX name u params body scope [] .none kV d pm an Q ct) p1 Wi p3 p4 (by rw[p5];rfl) rfl (by rw[p5];simpa using beq_eq_false_iff_ne.mp p6),p5];rfl
 refine callX_plain (cl:=[]) lG qM.fr N ((ah.T.nolimit).keeps (λb o e=>hb b o e)) X.frames X.fr X.kind (kp _ _ h1) G (h3.keeps kp) zb (BindsTo.of_eq np) (λy O=> ?_) (λg' D d0 FG F' N' B' st lt=> ?_) hc yv yJ hk
 .rcases b8.mp O with rfl|O
  .exact k1
  .rw[cu.mp O];exact k2
 .obtain e7:gx.hb.StaysIn g':=λb o e=>st _ _ (hb _ _ e);obtain X':Cx (A.deeper (envX u scope D f Q [])) g' D (envX u scope D f Q []) (env::am):=#[#[A,B'],Around.frames_deeper B'.stack,rfl,hk];refine bj (Rp g' D _ u scope Q e7 X' hk k1 k2 k3 #[F',#[x,N',Rn],qM.gens,qM.os]) (λfl s' z=> ?_) λU U z=>z.elim;refine z _ λe m' W2 B hp=> ?_;subst e;obtain⟨pR,N2,R2⟩:=B.nw;exact leaveK_ B.fr N2 λF N=>hR W2 s' #[F,#[pR,N,R2],B.gens,B.os] hp
def HX{hp u:Heap}(N:News J L hp news)(hk:∀b o,b≠x->hp.get? b=some o->u.get? b=some o)(ho:u.get? x=some o'):News J L u (dc news x o'):=λp hp=>by
 obtain⟨q,h,rfl⟩:=bv.mp hp;have:=N q h;by_cases c:q.1=x
 .rw[al c];exact#[ho,c▸this.2]
 .rw[ak c];exact#[hk _ _ c this.1,this.2]
def St.JP(S:St J L m W h s){hp:Heap}(hx:W.ar x=some o)(hk:∀b o,b≠x->s.heap.get? b=some o->hp.get? b=some o)(ho:hp.get? x=some o'):St J L m (W.aw x (some o')) h {s with heap:=hp,toks:=t}:=by obtain⟨e,N,R⟩:=S.nw;have d:=N _ (R.ar x o hx).1;exact S.put (xZ S.fr hk d.2.1 d.2.2) (HX N hk ho) (R.iU hx)
def St.YF(S:St J L m W h s){hp:Heap}(hx:W.ar x=some o)(hk:∀b o,b≠x->s.heap.get? b=some o->hp.get? b=some o)(ho:hp.get? x=some o')(hd:s.heap.objs.size=d)(Q:hp.get? d=some od):
 St J L m ((W.aw x (some o')).aw d (some od)) h {s with heap:=hp,toks:=t}/\W.ar d=none/\d≠x:=by
 have S1:=S.JP (t:=t) hx hk ho;obtain⟨e,N,R⟩:=S.nw;have z:d≠x:=λq=>by have:=(N _ (R.ar x o hx).1).1;rw[←hd]at q;rw[←q,Heap.get?_none_of_le (bG _)]at this;cases this
 have O:d∉e.map (·.1):=by rw[←hd];exact gh λp hp=>Heap.lt_size (N p hp).1
 have D:W.ar d=none:=lM λo c=>absurd (fS (R.ar _ _ c).1) O;have G:=N _ (R.ar x o hx).1;have P:=HX N hk ho;have u:=R.iU hx (o':=o');obtain⟨y,bK⟩:=u.hide (x:=d) (o:=od) (by rw[km];exact O);have B:L<s.heap.objs.size:=S.fr.ns.lt;refine#[S.put (xZ S.fr hk G.2.1 G.2.2) (λp hp=> ?_) y,D,z];rcases b8.mp hp with rfl|hp
 .refine#[Q,by rw[←hd];exact Nat.ne_of_gt B,?_];exact Heap.get?_none_of_le (by rw[←hd];exact bk S.fr.above (Nat.le_of_lt B))
 .exact P p hp
abbrev eY(CD t:Addr)(d:k26):Obj:={cls:=.ref CD,dict:=d,data:=.fields #[.ref t,.none,.none,.none,.bool false,.none,]}
def Ca(CD CA fI:Addr):Prop:=∀P:Prop,(∀(nm q N bs sn sub ab col dd k0 k1 k2 k3 k5) (d:k03) (e:gx.hb.get? CD=some (excClassObj nm q CD N bs (tO CA) true sn sub ab col dd k0 k1 k2 k3 k5 "Exception.__new__")) (h:gx.hb.Ns N d) (x:d "__init__"=some (.ref fI)),P)->P
def Bh(t:Str)(p:Nat->Pos):Stmt:=.Assign [.Attribute (.Name "self" (p 5)) t (p 6)] (.Name t (p 7)) (p 8)
def qV(e:Str)(c:Expr)(t:Str)(p:Nat->Pos):List Stmt:=[.Expr (.Call (.Attribute (.Name e (p 0)) "__init__" (p 1)) [.Name "self" (p 2),c] [] (p 3)) (p 4),Bh t p]
def BX(f:Addr):Prop:=∀P:Prop,(∀(p:Nat->Pos) (c:Str) (k:Nat) (q:Pos) (d:((p 1).endLine==(p 3).line)=true) (e:lF f "tasks" "AdaError" (qV "AdaError" (.Constant (.str c) k q) "tasks" p)),P)->P
def BY(f:Addr):Prop:=∀P:Prop,(∀(p:Nat->Pos) (q:Pos) (d:((p 1).endLine==(p 3).line)=true) (e:lF f "text" "Exception" (qV "Exception" (.Name "text" q) "text" p)),P)->P
structure i4(CD CA fI fJ:Addr):Prop where
 vg:Ca CD CA fI
 P1:BX fI
 P4:BY fJ
 YS:lD gx.K CD "text"
 YK:lD gx.K CD "tasks"
 QK:nsIn gx.K mainGlobals "AdaError"=some (some (.ref CA))
 QL:nsIn gx.K mainGlobals "Exception"=some none
 E7:nsIn gx.K mainGlobals "Deadlock"=some (some (.ref CD))
 Xd:∃mc,readsIn gx.K CA mc=true/\findCls gx.K (.ref CA) mc "__init__"=some (.val (.ref fJ))/\specialIn gx.K (.ref CA) "__getattribute__"=some (some (.builtin "type.__getattribute__"))
 Pl:findIn gx.K (.type "type") "__getattribute__"=some (some (.builtin "type.__getattribute__"))/\subIn gx.K (.type "type") (.type "type")=some true/\findCls gx.K (.type "Exception") (.type "type") "__init__"=some (.val (.builtin "Exception.__init__"))
 Un:keepIn gx.K (.ref CD)=true
def Pz{Q:k34}(X:gx.K.In s.heap)(ax:findIn gx.K (.type "type") "__getattribute__"=some (some (.builtin "type.__getattribute__"))/\subIn gx.K (.type "type") (.type "type")=some true/\findCls gx.K (.type "Exception") (.type "type") "__init__"=some (.val (.builtin "Exception.__init__")))
 (h:Q (.builtin "Exception.__init__",[]) {s with toks:=s.toks+1}):wpAny gM A (getMethod (.type "Exception") "__init__" u) Q E s:=by
 obtain⟨y1,y,x⟩:=ax;have d:Looks gM s.heap (typeOf (.type "Exception")) (.type "type"):=Looks.of_pure rfl;unfold getMethod;have e:Looks gM s.heap (specialOf (.type "Exception") "__getattribute__") (some (.builtin "type.__getattribute__")):=d.andThen (looks_findIn X y1);refine av (e.here ?_);dsimp only;rw[if_pos canon_tga];refine av (cls_open X (mc:=.type "type") (hook:=none) (Looks.of_pure rfl) d y1 (Looks.of_pure rfl) y x ?_);refine aJ ?_;show wpAny _ _ (handedOut (.builtin "Exception.__init__")) _ _ _;rw[handedOut_of (by decide+kernel)];exact aJ (aJ h)
end
section
variable{P:Y}{O:Fn}{J:Heap}{L:Addr}{m:k03}{W W':Wd}{h:H}{s:Shared}{A:Around}{E:k01}{env:Env}{G:Ka}{l:Lc}{XR:ao}{RX:ag}{am:List Env}{C:Value}{n:Nat}{CD CA fI fJ e:Addr}
def wE(CD:Addr)(W:Wd)(e u d:Addr)(es:List DictEntry)(n:Nat):Wd:=(W.aw e (some (eY CD u (some d)))).aw d (some (dictOf es n))
def v6(CD:Addr)(W:Wd)(e:Addr)(u:Wd):Prop:=∀P:Prop,(∀(h d:Addr) (es:List DictEntry) (n:Nat) (x:u=wE CD W e h d es n) (B:W.ar d=none) (G:d≠e) (J:(getL "tasks" es).isSome=true) (O:es.length<=1),P)->P
def qG(CD:Addr)(W:Wd)(e:Addr)(pv:Value)(u:Wd):Prop:=∀P:Prop,(∀(h d:Addr) (es:List DictEntry) (n:Nat) (x:u=wE CD W e h d es n) (B:W.ar d=none) (G:d≠e) (J:getL "tasks" es=some (some pv)),P)->P
def TG{hp:Heap}(he:hp.get? e=some (eY CD t none)):InstAt hp e (eY CD t none) CD none:=#[he,rfl,rfl,trivial]
def TH{hp:Heap}(he:hp.get? e=some (eY CD t (some d)))(hd:hp.get? d=some od):InstAt hp e (eY CD t (some d)) CD (some od):=#[he,rfl,rfl,hd]
def MT(ai:i4 CD CA fI fJ)(ah:cb P){scope:Scope}{p:Nat->Pos}(hl:((p 1).endLine==(p 3).line)=true)(e7:gx.hb.StaysIn z)(hk:scope.kind=.function)
 (k1:scope.names.lookup ("self":Str)=some .local)(k2:scope.names.lookup ("text":Str)=some .local)(k3:scope.names.lookup ("Exception":Str)=some .globalImplicit)
 (u:St z L' (λy=>([("self",.ref e),("text",Q)]:List (Str×Value)).reverse.lookup y) W h D)(hp:W.ar e=some (eY CD t none)):
 wpAny gM A (execs (qV "Exception" (.Name "text" p4) "text" p) (envX qual scope L' f jP [])) (qz z L' h (v6 CD W e)) (λU U=>False) D:=by
 have J:(λy=>([("self",.ref e),("text",Q)]:List (Str×Value)).reverse.lookup y) ("self":Str)=some (.ref e):=rfl;have O:(λy=>([("self",.ref e),("text",Q)]:List (Str×Value)).reverse.lookup y) ("text":Str)=some Q:=rfl;generalize hm:(λy=>([("self",.ref e),("text",Q)]:List (Str×Value)).reverse.lookup y)=m1 at u J O;have B:gx.K.In z:=ah.X.keeps e7;obtain T:=topRead_of (ah.T.keeps e7);obtain F0:=EB PySem.F.excBase_Exception CA;refine ai.vg _ λAl q N bs sn sub ab col dd c0 c1 c2 c3 c5 mN hC hN hi=> ?_;obtain kp:∀{s:Shared} {m:k03} {W:Wd},St z L' m W h s->∀b o,gx.hb.get? b=some o->s.heap.get? b=some o:=λS b o q=>S.fr.keep _ _ (e7 _ _ q);refine wpAny_execs_cons (wpAny_Expr_any (HN (by rfl) hl (by rfl) (by rfl) λpl=> ?_) (by unfold interactive;show(scope.kind==_&&_)=false;rw[hk];rfl) (by rfl));refine nameX_B u.fr B T ai.QL (by rfl) (by decide) ?_ hk k3 (by decide);refine Pz (B.keeps u.fr.keep) ai.Pl ?_;have x:=u.toks (D.toks+1);refine nameX_L x.fr J ?_ hk k1 (by decide);refine nameX_L x.fr O ?_ hk k2 (by decide);refine#[#[.machine,.inr (.inl rfl),Looks.of_pure rfl],?_];refine wpAny_call (Ps (t0:=t) (h:=D.heap) F0 (kp u _ _ hC) (u.ar hp) (λh' t1 pz hx=> ?_) (by size_fits));have d:=x.JP (t:=D.toks+1) hp (λb o hb q=>hx b o hb q) pz;refine wpAny_execs_cons (plainObj_wpAny_Assign_Attribute ?_);refine nameX_L d.fr O ?_ hk k2 (by decide);refine nameX_L d.fr J ?_ hk k1 (by decide);refine Pw (B.keeps d.fr.keep) (TG pz) rfl rfl ai.YS λh2 tk es n' g1 g2 g3 g4 G g6=> ?_;obtain⟨hsh,tt,G⟩:=G;obtain⟨S4,hn,bN⟩:=d.YF (t:=tk) (Wd.dS ..) g6 g1 rfl g2;rw[Wd.p9]at S4;have gF:h'.objs.size≠e:=bN;refine wpAny_execs_nil (λU y9=>y9 rfl m1 _ S4 (λU y9=>y9 t1 h'.objs.size es n' rfl ?_ gF ?_ g4))
 .rw[Wd.dm _ _ gF]at hn;exact hn
 .rw[G];rfl
def MS(ai:i4 CD CA fI fJ)(ah:cb P){D:Heap}{z:Addr}{s1:Shared}{u:Str}{scope:Scope}{jP:Value}{t f:Addr}{pv:Value}{p:Nat->Pos}{p4:Pos}{c:Str}{kd:Nat}(hl:((p 1).endLine==(p 3).line)=true)(e7:gx.hb.StaysIn D)(hk:scope.kind=.function)
 (X':Cx A D z (envX u scope z f jP []) am)(rm:A.depth<recursionLimit)(k1:scope.names.lookup ("self":Str)=some .local)(k2:scope.names.lookup ("tasks":Str)=some .local)(k3:scope.names.lookup ("AdaError":Str)=some .globalImplicit)
 (Q:St D z (λy=>([("self",.ref e),("tasks",pv)]:List (Str×Value)).reverse.lookup y) W h s1)(hp:W.ar e=some (eY CD t none)):
 wpAny gM A (execs (qV "AdaError" (.Constant (.str c) kd p4) "tasks" p) (envX u scope z f jP [])) (qz D z h (qG CD W e pv)) (λU U=>False) s1:=by
 have zd:(λy=>([("self",.ref e),("tasks",pv)]:List (Str×Value)).reverse.lookup y) ("self":Str)=some (.ref e):=rfl;have Go:(λy=>([("self",.ref e),("tasks",pv)]:List (Str×Value)).reverse.lookup y) ("tasks":Str)=some pv:=rfl;generalize hm:(λy=>([("self",.ref e),("tasks",pv)]:List (Str×Value)).reverse.lookup y)=m1 at Q zd Go;have G:gx.K.In D:=ah.X.keeps e7;have T:=topRead_of (ah.T.keeps e7);refine ai.P4 _ λb b4 du IJ=> ?_;obtain⟨mc,r1,r2,r3⟩:=ai.Xd;have Te:∀B s',St D z m1 B h s'->v6 CD W e B->wpAny gM A (execs [Bh "tasks" p] (envX u scope z f jP [])) (qz D z h (qG CD W e pv)) (λU U=>False) s':=by
  intro B s' x hP;refine hP _ λJ d es n e0 hn bN yP bl=> ?_;subst e0;refine wpAny_execs_cons (plainObj_wpAny_Assign_Attribute ?_);refine nameX_L x.fr Go ?_ hk k2 (by decide);refine nameX_L x.fr zd ?_ hk k1 (by decide);have pe:(wE CD W e J d es n).ar e=some (eY CD J (some d)):=by unfold wE;rw[Wd.dm _ _ bN.symm,Wd.dS]
  have pd:(wE CD W e J d es n).ar d=some (dictOf es n):=Wd.dS ..;refine Px (G.keeps x.fr.keep) (TH (x.ar pe) (x.ar pd)) rfl ai.YK yP (by lia) λh2 tk kJ n' g2 g3 g4 U g6=> ?_;have O:=x.iU (t:=tk) pd g6 g2;unfold wE at O;rw[Wd.p9]at O;exact wpAny_execs_nil (λU y9=>y9 rfl m1 _ O (λU y9=>y9 J d kJ n' rfl hn bN g3))
 refine wpAny_execs_cons (wpAny_Expr_any (HN (by rfl) hl (by rfl) (by rfl) λpl=> ?_) (by unfold interactive;show(scope.kind==_&&_)=false;rw[hk];rfl) (by rfl));refine nameX_K Q.fr G T ai.QK ?_ hk k3 (by decide);refine method_cls (G.keeps Q.fr.keep) r3 (cls_value (G.keeps Q.fr.keep) r1 r2 (by rfl) ?_);have S2:=Q.toks (s1.toks+1);refine nameX_L S2.fr zd ?_ hk k1 (by decide);refine wpAny_Constant_str ?_;have S3:=S2.toks (s1.toks+1+1);obtain⟨q1,q2⟩:=Fw (A:=A) (R:=qf (λU=>wpAny gM A (execs [Bh "tasks" p] (envX u scope z f jP [])) (qz D z h (qG CD W e pv)) (λU U=>False)) (λU U=>False)) (v1:=.ref e) (v2:=.str c (s1.toks+1)) (Pst:=v6 CD W e) ah X' e7 rm S3 IJ
  (λg2 L2 s2 q2 XU Nd hX X2 lT e1 e2 e3 S4=>MT ai ah du hX lT e1 e2 e3 S4 hp) (λB s' x hP=>Te B s' x hP)
 exact#[keeps_F _ q1,wpAny_call q2]
def St.RZ(S:St J L m W h s){hp:Heap}(hk:∀b o,s.heap.get? b=some o->hp.get? b=some o)(hx:s.heap.get? x=none)(u:s.heap.objs.size<=x)(ho:hp.get? x=some o):
 St J L m (W.aw x (some o)) h {s with heap:=hp,toks:=t}/\W.Le (W.aw x (some o))/\W.ar x=none:=by
 obtain⟨B,N,R⟩:=S.nw;have G:x∉B.map (·.1):=λq=>by obtain⟨p,d,e⟩:=bv.mp q;have:=(N p d).1;rw[e,hx]at this;cases this
 obtain⟨O,P⟩:=R.hide (o:=o) G;have hL:L<s.heap.objs.size:=S.fr.ns.lt;refine#[S.put #[Heap.Ns.at' S.fr.ns λo e=>hk _ _ e,λb o e=>hk b o (S.fr.keep b o e),S.fr.above] (λp d=> ?_) O,P,?_]
 .rcases b8.mp d with rfl|d
  .exact#[ho,Nat.ne_of_gt (bU hL u),Heap.get?_none_of_le (bk S.fr.above (bk (Nat.le_of_lt hL) u))]
  .exact#[hk _ _ (N p d).1,(N p d).2]
 .exact lM λo c=>absurd (fS (R.ar _ _ c).1) G
def Of(ai:i4 CD CA fI fJ)(ah:cb P)(X:Cx A J L env am)(hb:gx.hb.StaysIn J)(rm:Rm A 0)(S:St J L m W h s){pv:Value}{K:k01}
 (k:∀e t u s',W.ar e=none->St J L m u h s'->qG CD (W.aw e (some (eY CD t none))) e pv u->K (.ref e) s'):wpAny gM A (PySem.call (.ref CD) [pv] []) K E s:=by
 obtain O:=EB PySem.F.excBase_Exception CA;refine ai.vg _ λAl q N bs sn sub ab col dd c0 c1 c2 c3 c5 mN hC hN hi=> ?_;have kp:∀b o,gx.hb.get? b=some o->s.heap.get? b=some o:=λb o q=>S.fr.keep _ _ (hb _ _ q);refine ai.P1 _ λb abd kd b4 du B=> ?_;obtain⟨fo,RQ,yB⟩:=B.fo;obtain ro:s.heap.Ns N mN:=hN.imp λo z=>z.imp λes z=>z.imp λep z=>#[kp _ _ z.1,z.2];refine Pm (h:=s.heap) O (kp _ _ hC) ro hi (kp _ _ RQ) yB (λh' e x nD=> ?_) (by size_fits);obtain⟨t,he,_,_⟩:=x.there;obtain⟨y,dQ,bN⟩:=S.RZ (t:=s.toks) x.keeps x.new nD he;have d:Cx (A.under (.builtin "type.__call__" #[.ref CD::[pv],[]])) J L env am:=#[X.below,X.frames,X.fr,X.kind];obtain ue:(A.under (.builtin "type.__call__" #[.ref CD::[pv],[]])).depth<recursionLimit:=by have:=rm.depth;show A.depth+1<_;lia
 obtain SP:(W.aw e (some (eY CD t none))).ar e=some (eY CD t none):=Wd.dS ..;obtain⟨q1,G⟩:=Fw (A:=A.under (.builtin "type.__call__" #[.ref CD::[pv],[]])) (R:=qf (λv s'=>v=.none/\K (.ref e) s') E) (v1:=.ref e) (v2:=pv) (Pst:=qG CD (W.aw e (some (eY CD t none))) e pv) ah d hb ue y B
  (λg2 L2 s2 G XU Nd hX d lT e1 e2 e3 D=>MS ai ah du hX lT d (by have:=rm.depth;show A.depth+1+1<_;lia) e1 e2 e3 D SP) (λW2 s' Q hP=>#[rfl,k e t W2 s' bN Q hP])
 exact wpAny_call G
def W8(ai:i4 CD CA fI fJ)(y:A.handled=none){Q:Flow->Shared->Prop}
 (h:wpAny gM A x (λv cj=>∃e t d,v=.ref e/\gx.hb.StaysIn cj.heap/\cj.heap.get? e=some (eY CD t (some d))/\E (.ref e) cj) E s):wpAny gM A (raiseStmt env (some x) none) Q E s:=by
 refine ai.vg _ λAl qn N bs sn sub ab col dd c0 c1 c2 c3 c5 mN G O z=> ?_;clear O z;obtain P:(Value.ref CD::tO CA).contains (.type "BaseException")=true:=by rw[iv,iv];simp
 unfold raiseStmt;refine av (bj h (λv cj D=> ?_) λU U x=>x);obtain⟨e,t,d,rfl,hk,u,J⟩:=D;have B:=hk _ _ G;obtain⟨hp,g1,d1,tk,os⟩:=cj;repeat (first|with_reducible refine wpAny_loadPart_at u ?_|with_reducible refine wpAny_loadPart_at B ?_|(with_reducible refine wpAny_isSubtype_exc B ?_;rw[P])|wp_step)
 exact wpAny_raiseNew_none y J
def W9(ai:i4 CD CA fI fJ)(ah:cb P)(B:fW):ir P (.ref CD):=λO A J L env am G X rm F e v n p q r ok hn R9=>by
 subst hn;intro m W h s l Q Z aa S qq;have hb:=(F.fx m).hb;rw[arm_exec_Raise];refine av (wpAny_standAt ?_);show wpAny _ A (raiseStmt env (some (do let v←eval (.Call (.Name (Str.ofString "Deadlock") p) [v] [] q) env;standAt r;pure v)) none) _ _ s;refine W8 ai rm.handled (av ?_);have hs:cT v=true:=j9 ok;refine Call_ (by rfl) ?_;refine nameG_K S.fr (ah.X.keeps hb) (topRead_of (ah.T.keeps hb)) ai.E7 ?_ aa.nh aa.fn R9 (by decide);refine callWith_of (P:=fF gM (.ref CD)) (by rw[fT hs];rfl) (λU x=>x) ?_;rw[fT hs];refine Calls.evalArgs_plain (Calls.spliced_cons (f8 F ok aa S qq λW' h' s' u pu le S' hu rr=>Calls.spliced_nil #[keeps_K ai.Un _ ((ah.X.keeps hb).keeps S'.fr.keep),?_]));refine Of ai ah X hb rm S' λe t W3 s3 bN D hP=>av (wpAny_standAt (aJ ?_));refine hP _ λt1 d es n e0 hn gF yP=> ?_;subst e0;have D:St J L m (((W'.aw e (some (eY CD t none))).aw e (some (eY CD t1 (some d)))).aw d (some (dictOf es n))) h' s3:=D;rw[Wd.p9]at D;have nH:W'.ar d=none:=by rw[Wd.dm _ _ gF]at hn;exact hn
 have pe:((W'.aw e (some (eY CD t1 (some d)))).aw d (some (dictOf es n))).ar e=some (eY CD t1 (some d)):=by rw[Wd.dm _ _ gF.symm,Wd.dS]
 refine#[e,t1,d,rfl,λb o z=>D.fr.keep _ _ (hb _ _ z),D.ar pe,?_];obtain⟨news,N,R⟩:=D.nw;have hm:=N _ (R.ar _ _ pe).1;have Ae:W'.Le (((W'.aw e (some (eY CD t1 (some d)))).aw d (some (dictOf es n))).aw e none):=#[λU U z=>z,λU U z=>z,λU U z=>z,λy o z=>by
  have h1:y≠e:=λc=>by rw[c,bN]at z;cases z
  have h2:y≠d:=λc=>by rw[c,nH]at z;cases z
  rw[Wd.dm _ _ h1,Wd.dm _ _ h2,Wd.dm _ _ h1];exact z,λU U z=>z]
 refine(λU y9=>y9 m _ h' l u (le.trans Ae) #[e,d,news.filter (λp=>decide (p.1≠e)),rfl,R.drop pe,#[es,n,pu,?_,yP,hu.mono Ae],D.gens,D.os,.inl #[_,_,D.fr,λq hq=> ?_,?_,hm.2.1,hm.2.2,hm.1,rfl,rfl,rfl,rfl]] (aa.mono (le.trans Ae)) rr)
 .rw[Wd.dm _ _ gF,Wd.dS]
 .exact N q (fZ.mp hq).1
 .intro hm;obtain⟨q,hq,e'⟩:=bv.mp hm;have:=aP (fZ.mp hq).2;exact this e'
structure v0(J:Heap)(L:Addr)(m:k03)(W:Wd)(h:H)(l:List Env)(ah B:Heap)(news:k05):Prop where
 R:bg W h news
 F:Fr J L ah m
 pq:∀b o,ah.get? b=some o->b∉gb l->B.get? b=some o
 hn:∀q∈news,B.get? q.1=some q.2/\ah.get? q.1=none
def Ly(A:Around)(J:Heap)(L:Addr)(m:k03)(W:Wd)(h:H)(env:Env)(am:List Env)(s:Shared):Prop:=∀P:Prop,(∀(d:Heap) (T:KtsTurn (gb am) J d) (X:Cx A d L env am) (hb:gx.hb.StaysIn d) (S:St d L m W h s),P)->P
def Us(X:Cx A J L env am)(hb:gx.hb.StaysIn J){ah B:Heap}(Z:v0 J L m W h (env::am) ah B news)(up:ah.UpToSlots s.heap)(fd:gp B (env::am) e d C fl s.heap)(hg:s.gens=#[])(ho:s.os=gx.os):Ly A J L m W h env am s:=by
 obtain⟨P,K⟩:=X.below;have u:=tX Z.F;have y:∀b o,J.get? b=some o->b≠L:=λb o e q=>no (u.symm.trans (q▸e));obtain⟨T,S⟩:=kts_turn_at (h:=s.heap) (fs:=gb am) (g:=J)
  (λb hb=>(K.frames.mem hb).2.imp λo z=>z.1)
  (λb o e nm=>fd.k b o (Z.pq b o (Z.F.keep b o e) λx=>(r7 X.fr x).elim (y b o e) nm))
  (λb o e x=>(K.frames.mem x).2.elim λo' z=>up b o (Z.F.keep b o e) (aL (z.1.symm.trans e)▸z.2))
 have O:gx.hb.StaysIn (ktsHeap s.heap (gb am) J):=λb o e=>T.other b o (hb b o e) λx=>no ((K.frames.mem x).1.symm.trans e);refine(λU Q=>Q _ T #[#[P,K.stack,O,K.frames.of_keeps λb o e U=>(T.up e).elim λU D=>#[_,D,rfl]],X.frames,X.fr,X.kind] O #[#[up.ns Z.F.ns,S,by rw[T.size];exact Z.F.above],#[news,λq G=>#[fd.k _ _ (Z.hn q G).1,λe'=> ?_,T.none_ _ ?_],Z.R],hg,ho])
 .exact no ((fd.f.mem (Qn X.fr)).1.symm.trans (e'▸(Z.hn q G).1))
 .exact lM λo c=>no ((Z.hn q G).2.symm.trans (Z.F.keep _ _ c))
def JD(X:Cx A J L env am)(hb:gx.hb.StaysIn J){ah B:Heap}(Z:v0 J L m W h (env::am) ah B news)(up:ah.UpToSlots s.heap)(fd:gp B (env::am) e d C fl s.heap)(hg:s.gens=#[])(ho:s.os=gx.os){K:k09}
 (k:∀h' g',ah.UpToSlots h'->gp B (env::am) e d C .none h'->KtsTurn (gb am) J g'->Cx A g' L env am->gx.hb.StaysIn g'->St g' L m W h {s with heap:=h'}->K () {s with heap:=h'}):wpAny gM aaw (setFlight (.ref e) none) K E s:=
 A5 (fr:=none) fd λh3 EF Kw=>by exact(Us (s:={s with heap:=h3}) X hb Z (up.trans Kw) EF hg ho) _ λg' T X' jj S=>k h3 g' (up.trans Kw) EF T X' jj S
def Lf.other(aa:Lf L m env G W l){n:Str}(D:∀x,x<aW->nm x≠n):Lf L (λy=>if y=n then v else m y) env G W l:=
 #[aa.toLb,aa.at',aa.tC,λx u h=>#[(aa.loc x u h).1,(aa.loc x u h).2.imp λpv z=>#[(ak (D x (aa.loc x u h).1)).trans z.1,z.2]]]
def ED:∀x,x<aW->nm x≠("fault":Str):=λx B e=>by
 have d:("fault":Str)∉NM:=by decide+kernel
 have h:=Am B;rw[e]at h;exact d (List.mem_of_getElem? h)
structure mE(CD:Addr):Prop where
 ga:findIn gx.K (.ref CD) "__getattribute__"=some (some (.builtin "BaseException.__getattribute__"))
 gt:findIn gx.K (.ref CD) "__getattr__"=some none
 sb:mroIn gx.K CD (.type "BaseException")=some true
 hd:hasDictIn gx.K CD=true
 tk:∃attr,findIn gx.K (.ref CD) "tasks"=some attr/\noGet gx.K attr=true
def mK(J:Heap)(am:List Env)(A:Around)(L:Addr)(env:Env)(G:Ka)(W:Wd)(Q:k02)(u:Flow)(s':Shared):Prop:=∀P:Prop,(∀(d:Heap) (T:KtsTurn (gb am) J d) (X:Cx A d L env am) (hb:gx.hb.StaysIn d) (z:i7 d L env G W Q u s'),P)->P
def Kq(t:Str)(p:Nat->Pos):List Stmt:=[.Assign [.Name t (p 1)] (.Attribute (.Name ("fault":Str) (p 2)) ("tasks":Str) (p 3)) (p 4)]
def Bu(u:k07)(t:Str)(p:Nat->Pos):Stmt:=.Try u [.ExceptHandler (some (.Name ("Deadlock":Str) (p 0))) (some ("fault":Str)) (Kq t p) (p 5)] [] [] (p 6)
def Nb(ax:mE CD)(ah:cb P)(hb:gx.hb.StaysIn J){x:Nat}{t:Str}{p:Nat->Pos}(hx:bR env.scope x t cz=true)(jm:env.scope.names.lookup ("fault":Str)=some .local)
 {B:Heap}{d:Addr}{fl:Value}{v:V}{le:List Env}(fd:gp B le e d (.ref CD) fl s.heap)(br:sW W v d)(S:St J L m W h s)(aa:Lf L m env G W l){K:Flow->Shared->Prop}{E':k01}(k:∀m' s',Lf L m' env G W (upd l x v)->St J L m' W h s'->K .next s'):
 wpAny gM A (storeName env "fault" (.ref e)) (λU s1=>wpAny gM A (execs (Kq t p) env) K E' s1) E s:=by
 induction br with|mk es nn pv Gj RV Gp=> ?_
 refine fd.t _ λoe vs T oT ts D Q a3 a4 a5 a6 a7 a8 a9=> ?_;clear a4 a5 a6 a7 a8 a9 fd;have Fo:L≠e:=λq=>by obtain⟨oL,es,ep,Gb,FI,_⟩:=S.fr.ns;rw[q,D]at Gb;cases Gb;rw[a3]at FI;cases FI
 refine wpAny_storeName_local jm (aa.at'▸S.fr.ns) (λh5 yS u=> ?_) (by rw[aa.fn];rfl);rw[aa.at']at yS u;obtain⟨Vl,N4,R4⟩:=S.nw;have O:St J L (λy=>if y=("fault":Str)then some (.ref e)else m y) W h {s with heap:=h5,toks:=s.toks+1}:=#[S.fr.set yS u,#[Vl,N4.set u,R4],S.gens,S.os];have z:Lf L (λy=>if y=("fault":Str)then some (.ref e)else m y) env G W l:=aa.other ED;obtain I5:InstAt h5 e oe CD (some (dictOf es nn)):=#[(u.2 e Fo.symm).trans D,Q.1,by unfold notCls;rw[a3],by rw[Q.2];exact O.ar Gj];clear u yS N4 R4 S aa D Q a3 Gj Fo;obtain⟨attr,ha,SD⟩:=ax.tk;refine wpAny_execs_cons (wpAny_Assign_Name ?_ (by rfl));refine Attribute_any_ (wpAny_Name (wpAny_loadName_local z.fn jm (z.at'▸O.fr.ns) (al rfl) ?_) (by decide)) (by rfl);refine Pr ((ah.X.keeps hb).keeps O.fr.keep) I5 ax.ga ax.gt ax.sb (findObj_own ax.hd ha SD RV) Gp.handed ?_;exact qm z (O.toks (s.toks+1+1)) hx Gp λm7 s7 O7 S7=>wpAny_execs_nil (k m7 s7 O7 S7)
def Nc(u:env.scope.names.lookup ("fault":Str)=some .local){Q:k02}(aa:Lf L m env G W l)(S:St J L m W h s)(w:Q .next l h){K:k09}(k:∀s',i7 J L env G W Q .next s'->K () s'):
 wpAny gM A (do bindName env "fault" .none;unbindBehindTheSuite env "fault" q) K E s:=by
 refine wpAny_nameGoes_keeps u (aa.at'▸S.fr.ns) (by rw[aa.fn];rfl) λz P d B=> ?_;rw[aa.at']at d B;obtain⟨O,e,x⟩:=S.nw;exact k _ (λU y=>y _ W h l .next (.refl W) #[S.fr.set d B,#[O,e.set B,x],S.gens,S.os] (aa.other ED) rfl w)
def Zm(ai:i4 CD CA fI fJ)(ax:mE CD)(ah:cb P)(X:Cx A J L env am)(hb:gx.hb.StaysIn J){b:Ss}{pb:k07}(IB:gs P O A J L (cr (.ref CD) env am J L) env G b pb){x:Nat}{t:Str}{p:Nat->Pos}
 (hx:bR env.scope x t cz=true)(jm:env.scope.names.lookup ("fault":Str)=some .local)(gF:env.scope.names.lookup ("Deadlock":Str)=some .globalImplicit)(m:k03)(W:Wd)(h:H)(s:Shared)(l:Lc)(Q:k02)(Z:k08)(aa:Lf L m env G W l)(S:St J L m W h s)(q:wpS P O G (.gR b x) l h Q Z):
   wpAny gM A (exec (Bu pb t p) env) (mK J am A L env G W Q) (λU U=>False) s:=by
 refine wpAny_Try_except (bj (IB m W h s l _ _ aa S q) (λf s1 z=> ?_) λe0 s1 z=> ?_)
 .have fin:mK J am A L env G W Q f s1:=λU y9=>y9 J KtsTurn.refl X hb z;cases f<;>first|exact wpAny_execs_nil fin|exact fin
 .clear q aa S;refine z _ λm' W' h' l' v le x0 O' q'=> ?_;have hg:=oN.go x0;refine BL X x0 λe d y h2 G0 q1 R br Fr up PY=> ?_;clear x0;subst q1;induction PY with|mk B hB pq hn u=> ?_
  have Z:v0 J L m' W' h' (env::am) G0 B y:=#[R,Fr,pq,hn];refine JD (s:={s1 with heap:=h2}) X hb Z up u hg.1 hg.2 λh3 g1 up u T1 X1 iD S3=> ?_;refine ai.vg _ λAl qn N bs sn sub ab col dd c0 c1 c2 c3 c5 mN hC hN hi=> ?_;obtain⟨D,he,lR⟩:∃D,h3.get? e=some D/\D.cls=.ref CD:=by exact u.t _ λD U U U U a1 a2 U U U U U U U=>#[D,a1,a2.1]
  refine wpAny_handleBy_cons (codeAny_handlers_test ?_) (by intro q;cases q);refine nameG_K S3.fr (ah.X.keeps iD) (topRead_of (ah.T.keeps iD)) ai.E7 ?_ O'.nh O'.fn gF (by decide);obtain Ro:(tO CA).contains (.type "BaseException")=true:=by rw[iv];simp
  refine wpAny_excMatches_sub_self (h:=h3) (S3.fr.keep _ _ (iD _ _ hC)) he lR Ro ?_;refine codeAny_handlers_suite_as ?_;refine JD (s:={s1 with heap:=h3}) X hb Z up u hg.1 hg.2 λh4 g2 up u T2 X2 hX S4=> ?_;exact Nb (s:={s1 with heap:=h4}) ax ah hX hx jm u br S4 O' λm' s' O7 S7=>Nc jm O7 S7 q' λs' z=>λU y9=>y9 g2 T2 X2 hX (z.le le)
def qI(P:Y)(O:Fn)(A:Around)(J:Heap)(am:List Env)(L:Addr)(env:Env)(G:Ka)(st:Ss)(ps:k07):Prop:=
 ∀m W h s l Q Z,(∀v l h,¬Z v l h)->Lf L m env G W l->St J L m W h s->bc P O G st l h Q Z->wpAny gM A (execs ps env) (mK J am A L env G W Q) (λU U=>False) s
def mK.le{Q:k02}(k:W.Le W')(p:mK J am A L env G W' Q u s):mK J am A L env G W Q u s:=by exact p _ λa b c d e=>λU y=>y a b c d (e.le k)
def dW.H0{Z:k08}(u:∀v l h,¬Z v l h)(p:dW J L XR env G W Z v s):False:=by exact p _ λU U U U U U U U q=>u _ _ _ q
def Yu(X:Cx A J L env am)(hb:gx.hb.StaysIn J){st:Internal.S}{r:Ss}{ps:Stmt}{t:k07}(ae:dC P O A J L (cr C env am J L) env G st ps)(aH:qI P O A J am L env G r t):qI P O A J am L env G (.cons st r) (ps::t):=λm W h s l Q Z nz aa S q=>by
 refine wpAny_execs_cons (bj (ae m W h s l _ _ aa S q) (λfl s' z=> ?_) λU U z=>z.H0 nz);clear q aa S;refine z _ λy W' h' u f le B x hf d=> ?_;revert d;exact hf.e (λd=>bj (aH y W' h' s' u Q Z nz x B d) (λU U z=>z.le le) λU U z=>z) (λd=>λU y9=>y9 J .refl X hb λU D=>D y W' h' u .cont le B x rfl d)
  λv pv hv d=>λU y9=>y9 J .refl X hb λU D=>D y W' h' u (.ret v) le B x #[pv,rfl,hv] d
def mV:Ss->Ss->Ss
 |.nil,t=>t
 |.cons s r,t=>.cons s (mV r t)
def Yt(X:Cx A J L env am)(hb:gx.hb.StaysIn J)(ax:Ax P O A J L (cr C env am J L) env G)(aH:qI P O A J am L env G r t)(st:Ss)(ps:k07):dj env.scope st ps=true->fv st=true->
 (∀f x,(f,x)∈bY st ps->iq P J env f x)->qI P O A J am L env G (mV st r) (ps++t):=by
 induction ps generalizing st with
 |nil=>induction st using Ss.casesOn with
  |nil=>exactλU U U=>aH
  |cons=>exactλh=>aQ h
 |cons x y B=>induction st using Ss.casesOn with
  |nil=>exactλh=>aQ h
  |cons s u=>exactλe nt d=>Yu X hb (XH ax s x (an e).1 (an nt).1 λf z hz=>d f z (List.mem_append_left _ hz)) (B u (an e).2 (an nt).2 λf z hz=>d f z (jL _ hz))
def Yv(ai:i4 CD CA fI fJ)(ax:mE CD)(ah:cb P)(X:Cx A J L env am)(hb:gx.hb.StaysIn J)(mk:∀d0,Cx A d0 L env am->gx.hb.StaysIn d0->Fm P O A d0 L (cr (.ref CD) env am d0 L)){b:Ss}{pb:k07}(IB:gs P O A J L (cr (.ref CD) env am J L) env G b pb)
 {x:Nat}{t:Str}{p:Nat->Pos}{p8:Pos}(hx:bR env.scope x t cz=true)(jm:env.scope.names.lookup ("fault":Str)=some .local)(gF:env.scope.names.lookup ("Deadlock":Str)=some .globalImplicit){e:Internal.E}{pe:Expr}(ok:aM env.scope e pe=true):
 qI P O A J am L env G (.cons (.gR b x) (.cons (.ret e) .nil)) [Bu pb t p,.Return (some pe) p8]:=λm W h s l Q Z nz aa S q=>by
 refine wpAny_execs_cons (bj (Zm ai ax ah X hb IB hx jm gF m W h s l _ Z aa S q) (λfl s' z=> ?_) λU U z=>z);clear q aa S IB;refine z _ λd0 T B u z=> ?_;refine z _ λm' W' h' l' f le S' D hf d=> ?_;revert d;exact hf.e (λd=>bj (A7 (JF (mk d0 B u) ok) A8 m' W' h' s' l' Q _ D S' d) (λfl s2 z=>λU y=>y d0 T B u (z.le le)) λU U z=>z.H0 nz)
  (λd=>λU y=>y d0 T B u λU y8=>y8 m' W' h' l' .cont le S' D rfl d) λv pv hv d=>λU y=>y d0 T B u λU y8=>y8 m' W' h' l' (.ret v) le S' D #[pv,rfl,hv] d
def M3{prog:Program}{w:World}{lB:Around}{mY:Heap}{news:k05}{R:k22}{name u:Str}{params:Arguments}{body:k07}{scope:Scope}{dV kV doc pm D ct:Value}{an:k26}{fo:Obj}{f:Addr}{args:Args}{Q:List (Str×Value)}
 (B:Below lB mY am J)(F:Fr J L s.heap m)(N:News J L s.heap news)(Sl:J.NoLimit)(hA:A.frames=some (env::am))(hf:env.frame=some L)(um:env.scope.kind=.function)
 (ho:s.heap.get? f=some fo)(hd:fo.data=.func (fnX name u params body scope [] dV kV doc pm an D ct))(nq:s.heap.CodeRec D u)(zb:A.depth<recursionLimit)
 (np:BindsTo s (fnX name u params body scope [] dV kV doc pm an D ct) args Q)
 (uo:∀n,∀x∈Q,scope.names.lookup x.1=some .local\/(scope.names.lookup x.1=some .cell/\((cellsFrom n scope.names []).lookup x.1).isSome=true))
 (nH:((cellsFrom 0 scope.names []).map (·.1)).Nodup)
 (h:∀g z d0 tk cells,Fr J L g m->Fr g z d0 (bindL (envOfC u scope z f D).kindOf Q λU=>none)->News g z d0 (cells++news)->
   CellsAre (bindC (envOfC u scope z f D).kindOf Q λU=>none) (cellsFrom (z+1) scope.names []) cells->Below A mY (env::am) g->J.StaysIn g->(∀p∈news,p.1<z)->
   wpAny (model prog w) (A.deeper (envOfC u scope z f D)) (execs body (envOfC u scope z f D))
    (λfl s'=>R (.ok (.ret (match fl with|.ret v=>v|_=>.none))) s') (λU U=>False) {s with heap:=d0,toks:=tk})
 (yv:scope.isCoroutine=false)(yJ:scope.isGenerator=false)(hk:scope.kind=.function):codeAny (model prog w) A (.call (.ref f) args) R s:=by
 obtain⟨FG,P,st,_⟩:=groundX (R:=R) B F N hA hf um;refine codeAny_call_function zb ho hd yv yJ rfl nq (np _ _ _ _ ?_);refine wpAny_newFunctionEnv_cells hk (uo _) λEv he s' x=> ?_;subst he;refine#[(Sl.keeps F.keep).keeps x.toInCall.keep,codeAny_func ?_];obtain⟨d0,tk,rfl,_⟩:=x.done;have G:=x.toInCall.keep;obtain⟨cells,d,ax⟩:=Cl.news (h₀:=s.heap) (bG _) λn c O=>#[x.cell n c (lookup_of_mem_nodup (cellsFrom_names scope.names 0 (s.heap.objs.size+1) [] [] rfl▸nH) O),x.above n c O];refine bj (h _ s.heap.objs.size d0 tk cells FG #[x.toInCall.ns,λb o e=>G b o (of_hideAll _ e),Nat.le_of_eq (hideAll_size _ _)] (λp hp=> ?_) ax P st (λp hp=>Heap.lt_size (N p hp).1)) (λfl s' hl=>hl) λU U y=>y.elim;rcases List.mem_append.mp hp with hp|hp
 .refine#[(d p hp).1,(d p hp).2.1,?_];exact lM λo q=>no ((d p hp).2.2.symm.trans (of_hideAll _ q))
 .exact#[G _ _ (N p hp).1,Nat.ne_of_lt (Heap.lt_size (N p hp).1),hideAll_none _ (qQ hp)]
def Wf(u:Fr J L D m)(hf:env.frame=some L)(T:KtsTurn (gb [env]) D y)(F:Fr y z hp Q)(N:News y z hp news):Fr J L hp m/\News J L hp news:=by
 have B:=tX u;have hk:∀b o,J.get? b=some o->y.get? b=some o:=λb o e=>T.other b o (u.keep _ _ e) λh=>by
  rcases r7 hf h with rfl|h
  .rw[B]at e;cases e
  .cases h
 obtain⟨oL,es,x,hL,G,P,O⟩:=u.ns;obtain⟨sl,d⟩:=T.up hL;refine#[#[#[_,es,x,F.keep _ _ d,G,P,O],λb o e=>F.keep _ _ (hk b o e),u.above],λp hp=>#[(N p hp).1,λq=> ?_,?_]]
 .have:=(N p hp).2.2;rw[q,d]at this;cases this
 .exact lM λo c=>no ((N p hp).2.2.symm.trans (hk _ _ c))
def vG(u:k07)(t:Str)(p:Nat->Pos)(pe:Expr):List Stmt:=[Bu u t p,.Return (some pe) (p 7)]
def vW(P:Y)(f:Nat)(d:aB):Prop:=∀y:Prop,(∀(fo:Obj) (name h:Str) (params:Arguments) (scope:Scope) (D J Q:Value) (an:k26) (G z:Value) (pre:Ss) (u:k07) (b:Ss) (O:k07) (x:Nat) (t:Str) (p:Nat->Pos) (e:Internal.E) (pe:Expr) (a1:gx.hb.get? (eG f)=some fo) (a2:d.body=mV pre (.cons (.gR b x) (.cons (.ret e) .nil))) (a3:fo.data=.func (fnX name h params (u++vG O t p pe) scope [] .none D J Q an G z)) (a4:gx.hb.CodeRec G h) (a5:eD {d with body:=.nil} params [] scope) (a6:dj scope pre u=true) (a7:fv pre=true) (a8:dj scope b O=true) (a9:fv b=true) (b1:bR scope x t cz=true) (b2:scope.names.lookup ("fault":Str)=some .local) (b3:scope.names.lookup ("Deadlock":Str)=some .globalImplicit) (b4:aM scope e pe=true) (b5:d.dE=[]) (b6:∀B st,(B,st)∈bY pre u->oE P scope h G B st) (b7:∀B st,(B,st)∉bY b O),y)->y
def PI(ai:i4 CD CA fI fJ)(ax:mE CD)(PO:gU P)(IH:i3 P (.ref CD) n)(RD:ir P (.ref CD))(X:Cx A J L env am)(hb:gx.hb.StaysIn J)(rm:Rm A n){pre b:Ss}{D y:k07}{x:Nat}{t:Str}{p:Nat->Pos}{e:Internal.E}{pe:Expr}{Q:k02}
 (Av:dj env.scope pre D=true)(Ar:fv pre=true)(Aw:dj env.scope b y=true)(As:fv b=true)(hx:bR env.scope x t cz=true)(jm:env.scope.names.lookup ("fault":Str)=some .local)(gF:env.scope.names.lookup ("Deadlock":Str)=some .globalImplicit)(AF:aM env.scope e pe=true)
 (cP:∀u st,(u,st)∈bY pre D->iq P J env u st)(yV:∀u st,(u,st)∉bY b y)(aa:Lf L m env G W l)(S:St J L m W h s)(q:bc P (bQ P n) G (mV pre (.cons (.gR b x) (.cons (.ret e) .nil))) l h Q (λU U h=>∃h',i6 h h'/\False)):
 wpAny gM A (execs (D++vG y t p pe) env) (mK J am A L env G W Q) (λU U=>False) s:=by
 have O:∀d,Cx A d L env am->gx.hb.StaysIn d->Fm P (bQ P n) A d L (cr (.ref CD) env am d L):=λd X1 iD=>#[λm=>#[PO.ah,iD,λW h s c vs pc bf Q Z S hc hv q=>IH _ d L _ _ m W h s c vs pc bf Q Z X1 iD rm S hc hv q,rm.handled,rm.un],PO.B]
 have Yx:Ax P (bQ P n) A J L (cr (.ref CD) env am J L) env G:=#[O J X hb,BM X,RD _ _ J L _ _ G X rm.zero (O J X hb)];obtain T:=Yv (G:=G) (p:=p) (p8:=p 7) ai ax PO.ah X hb O (A2 Yx b y Aw As λu st hx=>absurd hx (yV u st)) hx jm gF AF;exact Yt X hb Yx T pre D Av Ar cP _ W h s l Q _ (λU U U z=>z.elim λU z=>z.2) aa S q
def PJ(ai:i4 CD CA fI fJ)(ax:mE CD)(PO:gU P)(IH:i3 P (.ref CD) n)(RD:ir P (.ref CD))(X:Cx A J L env [])(hb:gx.hb.StaysIn J)(rm:mM A n)(y:St J L m W h s){R:k22}{Q:QV}
 (FO:vW P f d)(hv:aA W args bf)(q:ei P (bQ P n) d [] args h Q (λU U=>False))
 (ji:∀W' h' s' v pv,W.Le W'->St J L m W' h' s'->VR W' v pv->Q v h'->R (.ok (.ret pv)) s'):FnAt (eG f) s.heap/\codeAny gM A (.call (.ref (eG f)) #[bf,[]]) R s:=by
 obtain⟨lB,lG⟩:=X.below;obtain⟨D,N,Rn⟩:=y.nw;refine FO _ λfo name B params scope kV doc pm an jP ct pre WO b pb x t p e pe h1 nl h2 h3 S Av Ar Aw As hx jm gF AF Ry cP yV=> ?_;have kp:∀b o,gx.hb.get? b=some o->s.heap.get? b=some o:=λb o e=>y.fr.keep _ _ (hb _ _ e);refine#[?_,?_]
 .obtain⟨oc,od,dt,sl⟩:=fo;dsimp only at h2;subst h2;exact#[oc,od,_,sl,kp _ _ h1]
 have Fz:=tB (d:={d with body:=.nil}) (fd:=fnX name B params (WO++vG pb t p pe) scope [] .none kV doc pm an jP ct) S Ry rfl;refine bo q λl hl q=> ?_;obtain⟨AU,jj,lV⟩:=Fz s args bf W l (λb o e=>kp _ _ e) hv hl;refine M3 lG y.fr N ((PO.ah.T.nolimit).keeps (λb o e=>hb b o e)) X.frames X.fr X.kind (kp _ _ h1) h2 (h3.keeps kp) (by have:=rm.depth;clear rm;lia) jj (C0 S) (wz S 0) (λg' u d0 tk O FG F' N' Yc B' st lt=> ?_) S.co S.gen S.kind;have e7:gx.hb.StaysIn g':=λb o e=>st _ _ (hb _ _ e);refine(CZ S hl lV Yc lt Rn q) _ λmC h' W' le R' aa q'=> ?_;obtain S1:St g' u _ W' h' {s with heap:=d0,toks:=tk}:=#[F',#[O++D,N',R'],y.gens,y.os];obtain X':Cx (A.deeper (envX B scope u (eG f) jP (cellsFrom (u+1) scope.names []))) g' u (envX B scope u (eG f) jP (cellsFrom (u+1) scope.names [])) [env]:=#[#[A,B'],Around.frames_deeper B'.stack,rfl,S.kind];clear Fz hl lV Yc lt Rn q F' N' R' B' y N lG kp jj h1 h2 h3;refine bj (PI ai ax PO IH RD X' e7 #[rm.handled,rm.depth,rm.units] Av Ar Aw As hx jm gF AF (λf' st hx=>(cP f' st hx).for e7) yV aa S1 (nl▸q')) (λfl s' z=> ?_) λU U z=>z;refine z _ λTz T2 X2 hX z=> ?_;refine z _ λm2 W2 jU l2 fl2 bK S2 O2 hr G=> ?_;obtain⟨rk,P8,G⟩:=G;obtain⟨pR,N2,R2⟩:=S2.nw;obtain⟨F3,N3⟩:=Wf FG X.fr T2 S2.fr N2;have qL:St J L m W2 rk s':=#[F3,#[pR,N3,R2.xX P8],S2.gens,S2.os];revert G;exact hr.e (λG=>ji W2 rk s' .none .none (le.trans bK) qL .n G) (λG=>G.elim) λv pv hv G=>ji W2 rk s' v pv (le.trans bK) qL hv G
def Rm.less(r:Rm A (n+1)):Rm A n:=r.dn (Nat.le_succ _)
def Z4{f:Nat}{d:aB}{c:V}{args:k00}{Q X:QV}:oy P n f d c args h Q X->(c=.fn f/\ei P (bQ P n) d [] args h Q (λU U=>False))\/bQ P n c args h Q X:=
 V.casesOn (motive_1:=λc=>oy P n f d c args h Q X->(c=.fn f/\ei P (bQ P n) d [] args h Q (λU U=>False))\/bQ P n c args h Q X) c .inr (λU=>.inr) (λU=>.inr) (λU=>.inr) (λU=>.inr) (λU=>.inr) (λU=>.inr)
  (λk q=>(Decidable.em (k=f)).elim (λe=>.inl #[e▸rfl,Eq.mp (al e) q]) λe=>.inr (Eq.mp (ak e) q)) (λU=>.inr) (λU=>.inr) (λU U=>.inr)
def Zj(ai:i4 CD CA fI fJ)(ax:mE CD)(PO:gU P)(X:Cx A J L env [])(hb:gx.hb.StaysIn J)(rm:Rm A (n+1)){f:Nat}{d:aB}(y:vW P f d){st:Ss}{ps:k07}
 (ok:dj env.scope st ps=true)(nt:fv st=true)(nd:∀f x,(f,x)∉bY st ps):gs P (oy P n f d) A J L (cr (.ref CD) env [] J L) env G st ps:=by
 have RD:=W9 ai PO.ah PO.B;have IH:=MZ PO RD;have F:Fm P (oy P n f d) A J L (cr (.ref CD) env [] J L):=by
  refine#[λm=>#[PO.ah,hb,λW h s c vs u bf Q Z S O hv q=> ?_,rm.handled,rm.un],PO.B];rcases Z4 q with⟨e,q'⟩|q
  .subst e;cases(O:u=_);have z:=PJ ai ax PO (IH n) RD X hb rm.one S (R:=qf (dB J L m W Q) (bz (cr (.ref CD) env [] J L m) W Z)) y hv q' (λW' h' s' v pv le D hv q=>λU y9=>y9 W' h' v le D hv q);exact#[keeps_F _ z.1,wpAny_call z.2]
  .exact IH n A J L env [] m W h s _ vs u bf Q Z X hb rm.less S O hv q
 exact A2 #[F,BM X,RD _ A J L env [] G X rm.zero F] st ps ok nt λf x hx=>absurd hx (nd f x)
end
def bJ{o:Option af}{k:af->Bool}{C:Prop}(h:bL o k=true)(f:∀a,o=some a->k a=true->C):C:=Option.rec (motive:=λo=>bL o k=true->(∀a,o=some a->k a=true->C)->C) (λh U=>aQ h) (λa h f=>f a rfl h) o h f
def Bm{v:Value}{s:Str}(h:vE v=some s):∃t,v=.str s t:=by cases v<;>first|exact no h|exact aL h▸#[_,rfl]
def su{v:Value}{s:Addr}(h:qe v=some s):v=.ref s:=by cases v<;>first|exact no h|exact aL h▸rfl
def TM{v:Value}{s:Int}(h:GF v=some s):∃t,v=.int s t:=by cases v<;>first|exact no h|exact aL h▸#[_,rfl]
def EN{o:Obj}(h:tV o=some fd):o.data=.func fd:=by unfold tV at h;cases e:o.data<;>rw[e]at h<;>first|exact no h|exact aL h▸rfl
def A4{o:Obj}{x:Array Value×Nat}(h:sB o=some x):o.data=.seq x.1 x.2:=by unfold sB at h;cases e:o.data<;>rw[e]at h<;>first|exact no h|exact aL h▸rfl
def Bk{fd:FuncData}(h:iV fd=some b):fd.body=.stmts b:=by unfold iV at h;cases e:fd.body<;>rw[e]at h<;>first|exact no h|exact aL h▸rfl
def EO{K:Frag}{a:Addr}{fd:FuncData}(h:hM K a=some fd):∃o,K.lookup a=some o/\o.data=.func fd:=gY h λo e h=>#[o,e,EN h]
def P7(h:lE x=some v):x<83:=(eU.mp h).1
section
variable{K:Frag}{hb:Heap}
def E9:∀{vs:k04},t4 xs vs=true->aA W xs vs:=by
 induction xs with
 |nil=>exactλh=>cY.mp h
 |cons x r G=>
  intro vs h;induction vs using List.casesOn with
  |nil=>exact aQ h
  |cons v t=>refine bJ (an h).1 λi d q=>bJ q λj B q=> ?_;refine .c (gJ (M:=λx=>VR W x v) d λO e=> ?_) (G (an h).2);obtain⟨J,rfl⟩:=TM B;exact#[J,by rw[aL e,aP q]]
def ZG(X:gx.K.In gx.hb)(W:Wd):By gx.K v pv=true->VR W v pv:=
 V.casesOn (motive_1:=λv=>By gx.K v pv=true->VR W v pv) v aQ (λU=>aQ) (λU=>aQ)
  (λn h=>bJ h λs B q=>by
    obtain⟨t,rfl⟩:=Bm B;exact#[aP (an q).2,t,by rw[eq_of_beq (an q).1]])
  (λxs h=>bJ h λa d q=>bJ q λo x q=>bJ (an q).2 λvs G J=>λU y=>y a o vs.1.toList vs.2 (su d) (.inr (X _ _ x)) (eq_of_beq (an q).1) (A4 G) (E9 J))
  (λU=>aQ) (λU=>aQ) (λf h=>bJ h λa d q=>(su d).trans (aq Value.ref (eq_of_beq q))) (λf h=>bJ h λa d q=>(su d).trans (aq Value.ref (eq_of_beq q)))
  (λn h=>bJ h λa d q=>#[aP (an (an q).1).2,λe=>by have:=(an q).2;rw[show c8 n=0 from e]at this;exact aQ this,(su d).trans (aq Value.ref (eq_of_beq (an (an q).1).1))]) (λU U=>aQ)
def x9(X:K.In hb)(h:ri K n=true):∃t e,hb.get? (c8 n)=some {cls:=.type "tuple",data:=.seq #[.str (nm n) t,.none,] e}:=
 bJ h λo O q=>bJ (an q).2 λvs u y=>by have c:=an (an q).1;have d:=an c.1;obtain⟨a,b,e,z⟩:=KQ y;refine bJ (an z).1 λs P Q=> ?_;obtain⟨t,rfl⟩:=Bm P;refine#[t,vs.2,(X _ _ O).trans (aq some ?_)];obtain x:=A4 u;obtain B:vs.1=#[.str (nm n) t,.none,]:=Array.toList_inj.mp (by rw[e,eq_of_beq Q,eq_of_beq (an z).2]);obtain⟨oc,od,dt,D⟩:=o;rw[←B,←x,←eq_of_beq d.1];obtain G:od=none:=ix.mp d.2;obtain J:D=#[]:=Array.isEmpty_iff.mp c.2;rw[G,J]
def U6(u:oW K=true):ri K 189=true/\ri K 186=true/\plainGet K 595 (nm 95)=true/\findIn K (.ref 595) (nm 95)=some (some (.ref 592))/\isFn K (.ref 592)=true:=
 have a:=an (an u).1;have b:=an a.1;have c:=an a.2;have d:=an c.2
 #[b.1,b.2,c.1,eq_of_beq d.1,d.2]
def QR(X:gx.K.In gx.hb)(T:Top topProg gx.loose gx.r6 gx.mg gx.mb gx.hb)(u:tF gx.K=true)(c2:tE gx.K=true)(y:oW gx.K=true):cb az:=by
 obtain⟨d,P,D,Q,m6⟩:=U6 y;refine#[X,T,λx v e=> ?_,λn hn hz=> ?_,(x9 X d).elim λt z=>z.elim λe h=>#[641,_,by decide,h],λc f G J=> ?_,rfl,λc m f e=> ?_]
 .exact bJ (an (gy.mp u _ (n8 (e:vZ.lookup x=some v)))).2 λo O q=>bJ q λpv hp q=>#[pv,O.trans (aq some hp),λW=>ZG X W q]
 .by_cases q:n=189
  .exact q▸x9 X d
  .by_cases B:n=186
   .exact B▸x9 X P
   .exact absurd ((ak q).trans (ak B)) hz
 .have h:=an (gy.mp (gy.mp c2 c (ej.mpr G)) f (List.contains_iff_mem.mp J));have a:=an h.1;have b:=an h.2;exact#[(an a.1).1,(an a.1).2,eq_of_beq a.2,eq_of_beq b.1,(an b.2).1,eq_of_beq (an b.2).2]
 .have e':qE c m=some f:=e;unfold qE at e';split at e'
  .cases e';exact#[D,Q,m6,by decide+kernel]
  .cases e'
def ML(u:oW gx.K=true):fW:=
 have a:=an (an u).2
 #[eq_of_beq (an a.1).1,eq_of_beq (an a.1).2,eq_of_beq (an a.2).1,eq_of_beq (an a.2).2]
def PF{fd:FuncData}(u:fd.closure=[])(y:fd.globals=mainGlobals)(z:fd.builtins=builtinsNs)(D:fd.body=.stmts b):fd=fnX fd.name fd.qualname fd.params b fd.scope [] fd.defaults fd.kwdefaults fd.doc fd.pyModule fd.annotations fd.code fd.closureTuple:=by obtain⟨name,d,params,fb,scope,B,cl,x,G,doc,J,an,cd,h,e⟩:=fd;dsimp only at u y z D;subst u y z D;rfl
def EH{fd:FuncData}(u:fd.closure=[])(y:fd.globals=mainGlobals)(z:fd.builtins=builtinsNs)(D:fd.body=.stmts b)(Q:fd.defaults=.none):fd=fnX fd.name fd.qualname fd.params b fd.scope [] .none fd.kwdefaults fd.doc fd.pyModule fd.annotations fd.code fd.closureTuple:=by obtain⟨name,d,params,fb,scope,B,cl,x,G,doc,J,an,cd,h,e⟩:=fd;dsimp only at u y z D Q;subst u y z D Q;rfl
def Lj(K:Frag)(hb:Heap)(a:Addr)(d:aB):Prop:=∀P:Prop,(∀(o:Obj) (e:FuncData) (body:k07) (h:hM K a=some e) (x:hb.get? a=some o) (B:o.data=.func e) (G:iV e=some body) (J:e=fnX e.name e.qualname e.params body e.scope [] e.defaults e.kwdefaults e.doc e.pyModule e.annotations e.code e.closureTuple) (O:hb.CodeRec e.code e.qualname) (S:eD d e.params body e.scope),P)->P
def P6(X:K.In hb){a:Addr}{d:aB}(h:C6 K a d=true):Lj K hb a d:=
 bJ h λB x q=>bJ q λbody e q=>by obtain⟨o,G,hd⟩:=EO x;have b:=an (an q).1;have c:=an b.1;exactλU y=>y o B body x (X _ _ G) hd e (PF (cY.mp c.1) (aP c.2) (aP b.2) (Bk e)) (codeRec_of X (an (an q).2).1) (xT (an (an q).2).2)
def Vt{env:Env}{l:List Arg}:H3 l=true->annotationsOf l env=[]:=by
 induction l with
 |nil=>exactλU=>rfl
 |cons a r d=>intro h;obtain⟨n,P,p⟩:=a;obtain e:P=none:=ix.mp (an h).1;rw[e];exact d (an h).2
def Vs{ps:Arguments}(h:H4 ps=true)(env:Env):annTrees ps none env=[]:=by obtain⟨x,a,B,d,J,e,G⟩:=ps;unfold annTrees;show annotationsOf (a++x++B.toList++d++e.toList) env++_=[];rw[Vt h];rfl
def K0{af:Type}{k:Str->Arguments->List Stmt->Scope->Str->Pos->Option af}{M:k20}{u:af}(h:BN k e=some u)(m:∀n ps b sc y p,k n ps b sc y p=some u->M (.FunctionDef n ps b [] none [] sc none y p)):M e:=by
 unfold BN at h;by_cases c:e.ctorIdx=0
 .rw[dif_pos c]at h;exact Stmt.FunctionDef.elim (motive_2:=λe=>∀c:e.ctorIdx=0,Stmt.FunctionDef.elim (motive_2:=λU=>Option af) e c (λn ps b d r x sc ts y p=>if(d.isEmpty&&r.isNone)&&(x.isEmpty&&ts.isNone)then k n ps b sc y p else none)=some u->M e) e c (λn ps b d r x sc ts y p U h=>dw h λq h=>by
   have a:=an (an q).1;have b:=an (an q).2;rw[cY.mp a.1,ix.mp a.2,cY.mp b.1,ix.mp b.2];exact m _ _ _ _ _ _ h) c h
 .rw[dif_neg c]at h;exact no h
def B6(f c P:Nat)(q:Str)(x:Nat×Stmt)(N:dr):Prop:=∀e:Prop,(∀(d:Pos) (h:x.1=f) (B:N.f=f) (G:N.c=c) (J:N.P=P) (O:d.line=N.line) (u:d.col=N.col) (y:N.qual=q++".<locals>."++N.name) (z:x.2=N.st d),e)->e
def Vj{f c P:Nat}{q:Str}{x:Nat×Stmt}{N:dr}(h:pQ f c P q x=some N):B6 f c P q x N:=by obtain⟨y,st⟩:=x;refine K0 (M:=λst=>B6 f c P q (y,st) N) h λn G b sc B p e=>dw e λz e=> ?_;cases aL e;exactλU d=>d p z.1 rfl rfl rfl rfl rfl rfl (by rw[←z.2];rfl)
def Vi{f c P:Nat}{q:Str}{x:Nat×Stmt}{N:dr}(h:pQ f c 0 q x=some N):pQ f c P q x=some {N with P:=P}:=by obtain⟨y,st⟩:=x;refine K0 (M:=λst=>pQ f c P q (y,st)=some {N with P:=P}) h λn B b sc d p e=>dw e λz e=> ?_;cases aL e;exact al z
def mI(K:Frag)(a:Addr)(d:aB)(f c P:Nat)(N:dr):Prop:=∀G:Prop,(∀(e:aB) (h:FuncData) (body:k07) (O:se K a d f c P=[N]) (u:N.f=f) (y:N.P=P) (z:lE f=some e) (S:eD e N.params N.body N.scope) (D:e.cells=[]/\e.dE=[]/\∀x st,(x,st)∉bY e.body N.body) (Q:hM K a=some h) (h6:iV h=some body) (h7:h.defaults=.none) (h8:d.dE=[]) (h9:∀(J:Y),N∈d8 gx.K->(∀B∈d8 gx.K,B.P=N.P->B=N)->CodeHd gx.hb c P->J.fns f=some e->∀x st,(x,st)∈bY d.body body->oE J h.scope h.qualname h.code x st),G)->G
def HW{a:Addr}{d:aB}{f c P:Nat}(h:qY K a d f c=true):∃N,mI K a d f c P N:=
 bJ h λu hf q=>bJ q λbody hb q=>by
  have h1:=an (an q).1;obtain⟨x,Q,q2⟩:=vQ (an q).2;refine bJ q2 λN0 nj O=>bJ (an O).2 λB gc k=> ?_;have D:=Vi (P:=P) nj;refine(Vj D) _ λJ a0 a1 a2 a3 a4 a5 a6 a7=> ?_;generalize Fq:({N0 with P:=P}:dr)=N at*;have O:HV u.scope f N=true:=Fq▸O;clear nj Fq q2;have e:=an (an O).1;have e':=an e.1;have k1:=an (show(((frees N.scope.names==B.frees.map nm)&&B.frees.all (λx=>decide (x<aW)&&(u.scope.names.lookup (nm x)==some .cell)))&&(pg B N.params N.body N.scope&&((B.cells.isEmpty&&B.dE.isEmpty)&&(bY B.body N.body).isEmpty)))=true from bJ (an O).2 λd2 z k=>aL (gc.symm.trans z)▸k);clear k;have k2:=an k1.1;have k3:=an k1.2;have k4:=an k3.2;refine#[N,λU y9=>y9 B u body ?_ a1 a3 gc (xT k3.1) #[cY.mp (an k4.1).1,cY.mp (an k4.1).2,λf' st G=>by rw[cY.mp k4.2]at G;exact nomatch G] hf hb (eq_of_beq (an h1.1).1) (cY.mp (an h1.1).2) (λPP D hu hC hP f' st G=> ?_)]
  .unfold se;rw[hf];show((iV u).map _).getD []=_;rw[hb];show List.filterMap _ (bY d.body body)=_;rw[Q,List.filterMap_cons_some D];rfl
  .rw[Q]at G;have e9:=cu.mp G;obtain e1:f'=f:=(aq Prod.fst e9).trans a0;obtain e2:st=N.st J:=(aq Prod.snd e9).trans a7;rw[e1,e2];refine(λU y9=>y9 N J B D hu a1 a4 a5 rfl ((eq_of_beq h1.2).trans (aq Value.ref a2.symm)) (a2▸a3▸hC) (cY.mp (an e'.1).1) (cY.mp (an e'.1).2) (Vs e'.2) (λenv hs hq=> ?_) hP (eq_of_beq k2.1) (λx Q=> ?_))
   .unfold qualnameIn;have z:env.kindOf N.name≠some .globalExplicit:=by show env.scope.names.lookup N.name≠_;rw[hs];exactλz=>by have:=e.2;rw[z]at this;exact aQ this
    rw[ak (λy=>z (eq_of_beq y)),hq,a6]
   .have z:=an (gy.mp k2.2 x Q);exact#[aP z.1,eq_of_beq z.2]
end
mutual
def H5:S->Bool
 |.kH _ _=>false
 |.ite _ a b=>lf a&&lf b
 |.gT _ b=>lf b
 |.loop _ _ _ b=>lf b
 |.gR b _=>lf b
 |_=>true
def lf:Ss->Bool
 |.nil=>true
 |.cons s r=>H5 s&&lf r
end
def ND(s:S):Prop:=∀p,H5 s=true->defsIn s p=[]
def LC(s:Ss):Prop:=∀p,lf s=true->bY s p=[]
def CF{af:Type}{a b:List af}(h:a=[])(k:b=[]):a++b=[]:=by rw[h,k];rfl
def xn(s:Ss)(p:k07):lf s=true->bY s p=[]:=@Ss.rec ND LC (λU U U U U=>rfl) (λU U U U=>rfl) (λU U U U U U=>rfl) (λU U U U U=>rfl) (λU U U U U=>rfl) (λU U U U U U=>rfl) (λU U U U U U=>rfl) (λU U U=>rfl)
 (λU U U ae aH U h=>CF (ae _ (an h).1) (aH _ (an h).2)) (λU U ae U h=>ae _ h) (λU U U U ae U h=>ae _ h) (λU U U=>rfl) (λU U=>rfl) (λU U=>rfl) (λU U U h=>aQ h) (λU U U=>rfl) (λU U ae U h=>ae _ h) (λU U=>rfl) (λU U=>rfl)
 (λU U ae aH p h=>by induction p using List.casesOn with|nil=>rfl|cons=>exact CF (ae _ (an h).1) (aH _ (an h).2)) s p
def Kb:Nat->Ss->Ss
 |0=>λU=>.nil
 |n+1=>λs=>match s with|.nil=>.nil|.cons s r=>.cons s (Kb n r)
def LH(sc:Scope)(pre t:Ss)(ps:k07):Prop:=∀P:Prop,(∀(p q:k07) (e:ps=p++q) (h:dj sc pre p=true) (d:dj sc t q=true) (x:bY (mV pre t) ps=bY pre p++bY t q),P)->P
def VU:∀{pre:Ss},dj sc (mV pre t) ps=true->LH sc pre t ps:=by
 induction ps with
 |nil=>
  intro pre h;induction pre using Ss.casesOn with
  |nil=>exactλU y=>y [] [] rfl rfl h rfl
  |cons s r=>exact aQ h
 |cons x ps J=>
  intro pre h;induction pre using Ss.casesOn with
  |nil=>exactλU y=>y [] (x::ps) rfl rfl h rfl
  |cons s r=>refine(J (pre:=r) (an h).2) _ λp q e d B G=> ?_;exactλU y=>y (x::p) q (aq _ e) ((ja _ _).mpr #[(an h).1,d]) B ((aq _ G).trans (List.append_assoc ..).symm)
def aar{k:k35}(h:zH k e=true):∃t n l p,e=.ExceptHandler t n l p/\k t n l=true:=by cases e;exact#[_,_,_,_,rfl,h]
@[elab_as_elim]def aaq{k:k35}{M:ExceptHandler->Prop}(h:zH k e=true)(m:∀t n l p,k t n l=true->M (.ExceptHandler t n l p)):M e:=by obtain⟨t,n,l,p,rfl,q⟩:=aar h;exact m _ _ _ _ q
@[elab_as_elim]def VT{sc:Scope}{s r:Internal.S}{M:List Stmt->Prop}{ps:k07}(h:dj sc (.cons s (.cons r .nil)) ps=true)(m:∀a b,sj sc s a=true->sj sc r b=true->M [a,b]):M ps:=by
 induction ps using List.casesOn with
 |nil=>exact aQ h
 |cons a t=>induction t using List.casesOn with
  |nil=>exact aQ (an h).2
  |cons b t=>exact bV (iJ (an (an h).2).2) (m a b (an h).1 (an (an h).2).1)
inductive Cc(sc:Scope)(b:Ss)(x:Nat)(e:Internal.E):List Stmt->Prop
 |mk (pb:k07) (t:Str) (p:Nat->Pos) (pe:Expr) (h1:dj sc b pb=true) (h2:bR sc x t cz=true) (h3:sc.names.lookup ("fault":Str)=some .local) (h4:sc.names.lookup ("Deadlock":Str)=some .globalImplicit) (h5:aM sc e pe=true):Cc sc b x e (vG pb t p pe)
def VW{sc:Scope}{b:Ss}{x:Nat}{e:Internal.E}{ps:k07}(h:dj sc (.cons (.gR b x) (.cons (.ret e) .nil)) ps=true):Cc sc b x e ps:=by refine VT h λs1 s2 B G=>BO G λv p8 G=>qh G λpe G=> ?_;refine aaj B λpb hs p7 B=>lz (an B).1 λz q=>aaq q λt n l p6 q=>qh (an (an q).1).1 λt O=>qh (an (an q).1).2 λn q2=> ?_;refine eR O λd D O=>bV (eq_of_beq q2) ?_;refine lz (an q).2 λs J=>oz J λt v p5 J=> ?_;refine eR (an J).1 λt Q y=>mz (an J).2 λw u p4 P=>eR (an P).1 λw p3 q5=> ?_;refine bV (eq_of_beq q5) (bV (eq_of_beq (an P).2) ?_);have g:=yc O;refine bV g.1 ?_;exact .mk pb t (λi=>match i with|0=>D|1=>Q|2=>p3|3=>p4|4=>p5|5=>p6|6=>p7|_=>p8) pe (an (an B).2).2 y (eq_of_beq (an (an B).2).1) (g.1▸g.2) G
section
variable{K:Frag}{hb:Heap}
def LW(K:Frag):Prop:=∀P:Prop,(∀(d h:dr) (e:d8 K=[d,h]) (x:mI K 679 na 81 678 674 d) (B:mI K 710 cZ 82 709 707 h),P)->P
def mI.e{a:Addr}{d:aB}{f c P:Nat}{N:dr}(o:mI K a d f c P N):se K a d f c P=[N]:=by exact o _ λU U U h U U U U U U U U U U=>h
def mI.p{a:Addr}{d:aB}{f c P:Nat}{N:dr}(o:mI K a d f c P N):N.P=P:=by exact o _ λU U U U U h U U U U U U U U=>h
def vc(u:tc K hb):LW K:=by obtain⟨x,d⟩:=HW (P:=674) u.c1;obtain⟨B,h⟩:=HW (P:=707) u.c2;exactλU y=>y x B (by unfold d8;rw[d.e,h.e];rfl) d h
def vL(h:N∈[u,y]):N=u\/N=y:=(b8.mp h).imp id cu.mp
def PL:∃pre b x e,cZ.body=mV pre (.cons (.gR b x) (.cons (.ret e) .nil))/\fv pre=true/\fv b=true/\lf b=true:=#[Kb 11 cZ.body,_,_,_,rfl,rfl,rfl,rfl]
def PG(X:gx.K.In gx.hb)(u:tc gx.K gx.hb)(c:wI gx.K=true):vW az 77 cZ:=
 bJ c λd hf q=>bJ q λbody nl q=>by
  obtain⟨o,ho,hd⟩:=EO hf;refine(vc u) _ λN1 N2 G O O2=> ?_;have jY:=O.p;clear O;refine O2 _ λd' PE MQ h0 h1 h2 D S h4 Q h6 h7 h8 h9=> ?_;cases aL (Q.symm.trans hf);cases aL (h6.symm.trans nl);obtain VG:=h9 az (show N2∈d8 gx.K by rw[G];exact .tail _ (.head _)) (λN' ro hP=>(vL (G▸(show N'∈d8 gx.K from ro))).resolve_left λe=>by rw[e,jY,h2]at hP;exact absurd hP (by decide)) u.h2 D;clear h0 h1 h2 D S h4 Q h6 h9 G jY;obtain⟨pre,b,x,e,B,q1,q2,q3⟩:=PL;have a:=an q;have J:=an a.1;have P:=an J.1;have y:=an P.1;have ok:=(an a.2).2;rw[B]at ok;refine(VU ok) _ λp' q' e' o1 o2 o3=> ?_;induction VW o2 with|mk pb t p pe r1 r2 r3 r4 r5=> ?_
  exactλU y9=>y9 o d.name d.qualname d.params d.scope d.kwdefaults d.doc d.pyModule d.annotations d.code d.closureTuple pre p' b pb x t p e pe (X _ _ ho) B (hd.trans (aq Data.func (EH (cY.mp y.1) (aP y.2) (aP P.2) (e'▸Bk nl) h7)))
   (codeRec_of X J.2) (xT (an a.2).1) o1 q1 r1 q2 r2 r3 r4 r5 h8 (λz st h=>VG z st (by rw[B,o3];exact List.mem_append_left _ h)) λz st h=>by rw[xn b pb q3]at h;exact nomatch h
def BQ(d:aB)(fd:FuncData)(body:k07):Prop:=lC d fd/\∀e st,(e,st)∈bY d.body body->oE az fd.scope fd.qualname fd.code e st
def N9{a:Addr}{d:aB}{fd:FuncData}{body:k07}(y:hM K a=some fd)(z:iV fd=some body){u:k07}(S:eD d fd.params u fd.scope)(c:C7 K a d=true):BQ d fd body:=
 bJ c λG e q=>by cases aL (y.symm.trans e);exact bJ q λx e' q=>by cases aL (z.symm.trans e');exact#[tB S (cY.mp (an (an q).1).1) (eq_of_beq (an (an q).1).2),λB st h=>by rw[cY.mp (an q).2]at h;exact nomatch h]
def WI(X:gx.K.In gx.hb)(T:Top topProg gx.loose gx.r6 gx.mg gx.mb gx.hb)(c0:wD gx.K=true)(c1:tF gx.K=true)(c2:tE gx.K=true)(c3:oW gx.K=true)(c4:wF gx.K=true)(NS:tc gx.K gx.hb)
 (HL:∀fd,hM gx.K 427=some fd->lC je fd):gU az:=by
 refine(vc NS) _ λN1 N2 cP O1 y=> ?_;refine#[QR X T c1 c2 c3,ML c3,λf d x Q=> ?_,λN hN d hd=> ?_,λc f hc=> ?_]
 .have x:(if f=77 then none else lE f)=some d:=x;by_cases D:f=77
  .exact no ((al D).symm.trans x)
  have x:=(ak D).symm.trans x;have Q1:f≠81:=λe=>by subst e;cases x;cases Q
  have Q2:f≠82:=λe=>by subst e;cases x;cases Q
  have u:=P7 x;have G:f∈IT:=fZ.mpr #[ej.mpr (by clear x Q;lia),by simpa using D];refine bJ (gy.mp c0 f G) λd2 ny q=> ?_;cases aL (x.symm.trans ny);clear G Q1 Q2 u ny;refine(P6 X (an q).1) _ λo fd body z h1 h2 h3 h4 h5 S=> ?_;have df:BQ d fd body:=by
   rcases(Bool.or_eq_true _ _).mp (an q).2 with h|h
   .rcases(Bool.or_eq_true _ _).mp h with h|h
    .exact N9 z h3 S h
    .cases eq_of_beq h;cases x;exact#[HL fd z,λf' st G=>by rw[xn je.body body (by decide+kernel)]at G;exact nomatch G]
   .cases eq_of_beq h;cases x;have jr:=y.p;clear y;refine O1 _ λd' PE MQ g0 O g2 B J P g5 g6 g7 g8 g9=> ?_;cases aL (g5.symm.trans z);cases aL (g6.symm.trans h3);exact#[tB S g8 g7,g9 _ (show N1∈d8 gx.K by rw[cP];exact .head _) (λN' ro hP=>(vL (cP▸(show N'∈d8 gx.K from ro))).resolve_right λe=>by rw[e,jr,g2]at hP;exact absurd hP (by decide)) NS.h1 B]
  exactλU y9=>y9 o fd.name fd.qualname fd.params body fd.scope fd.defaults fd.kwdefaults fd.doc fd.pyModule fd.annotations fd.code fd.closureTuple h1 (h2.trans (aq Data.func h4)) h5 S (h4▸df.1) df.2
 .have hd:(if N.f=77 then none else lE N.f)=some d:=hd;rcases vL (cP▸(show N∈d8 gx.K from hN))with e|e
  .subst e;refine O1 _ λd' U U U O U B J P U U U U U=> ?_;rw[O]at hd;cases aL (B.symm.trans hd);exact#[J,P]
  .subst e;refine y _ λd' U U U O U B J P U U U U U=> ?_;rw[O]at hd;cases aL (B.symm.trans hd);exact#[J,P]
 .have u:c<7:=(eU.mp (show qC c=some f from hc)).1;refine bJ (gy.mp c4 c (ej.mpr u)) λf' e q=> ?_;cases aL (e.symm.trans (show qC c=some f from hc));have a:=an (an q).1;have b:=an (an q).2;exact#[u,a.1,eq_of_beq a.2,b.1,b.2]
def nt(h:(!b)=true):b=false:=(Bool.not_eq_true' b).mp h
def GB(X:gx.K.In gx.hb){a:Addr}{p2 u:Str}{k:List Stmt->Bool}(h:wK gx.K a p2 u k=true):∃b,k b=true/\lF a p2 u b:=
 bJ h λo ho q=>bJ (an q).2 λd hf r=>bJ r λb Q r=>by
  have l:=an (an r).1;have r:=an (an r).2;have J:=an l.1;have O:=an J.1;have P:=an O.1;have y:=an P.1;have m:=an l.2;have B:=an m.1;have z:=an m.2;have r1:=an (an r.1).1;have D:=an (an r.1).2;have G:=an (an r.2).1;exact#[b,(an r.2).2,λU y9=>y9 o d.name d.qualname d.params d.scope d.kwdefaults d.doc d.pyModule d.annotations d.code d.closureTuple (X _ _ ho) (eq_of_beq (an q).1) ((EN hf).trans (aq Data.func (EH (cY.mp y.1) (aP y.2) (aP P.2) (Bk Q) (eq_of_beq J.2)))) (codeRec_of X O.2)
   (cY.mp (an B.1).1) (ix.mp (an B.1).2) (cY.mp (an B.2).1) (ix.mp (an B.2).2) (eq_of_beq z.1) (nt z.2) (eq_of_beq r1.1) (eq_of_beq r1.2) (eq_of_beq D.1)
   (λx hx e=>by have:=gy.mp D.2 x hx;rw[e]at this;exact aQ this) (eq_of_beq G.1) (nt (an G.2).1) (nt (an G.2).2)]
def Dc{o:Obj}(h:wU o=some cd):o.data=.cls cd:=by unfold wU at h;cases e:o.data<;>rw[e]at h<;>first|exact no h|exact aL h▸rfl
def Oa{o:Obj}{x:Array DictEntry×Nat}(h:xo o=some x):o.data=.dict x.1 x.2:=by unfold xo at h;cases e:o.data<;>rw[e]at h<;>first|exact no h|exact aL h▸rfl
def Od(c:wJ gx.K=true):mE 410:=
 have a:=an (an c).1;have b:=an (an c).2
 #[eq_of_beq a.1,eq_of_beq a.2,eq_of_beq b.1,(an b.2).1,none,eq_of_beq (an b.2).2,rfl]
def Ez(c:wH K=true){n:Str}(s:wM K n=true):lD K 410 n:=by
 refine#[eq_of_beq (an s).1,?_,eq_of_beq (an s).2];refine bJ c λo e q=>bJ (an q).2 λcd d r=> ?_;have a:=an (an (an r).1).1;have h:=eq_of_beq a.1;refine#[cd,?_,a.2,by rw[h];decide+kernel,by rw[h];rfl,λx=> ?_]
 .unfold clsIn;rw[e];obtain⟨B,od,dt,G⟩:=o;rw[show dt=.cls cd from Dc d]
 .rw[h,refuseLoop_ref,refuseLoop_ref];exact PySem.F.store_Exception.passes _
inductive Cd(e:Str)(k:k25)(t:Str):List Stmt->Prop
 |mk (p:Nat->Pos) (c:Expr) (hk:k c=true) (hl:((p 1).endLine==(p 3).line)=true):Cd e k t (qV e c t p)
def JG(h:A9 e k t b=true):Cd e k t b:=by refine sU h λcj il h=>KZ (an h).1 λv Q d=>lA d λg es D d=>mz (an d).1 λv i y x=>eR (an (an x).1).1 λn O h4=> ?_;refine bV (eq_of_beq h4) (bV (eq_of_beq (an (an x).1).2) ?_);refine sU (an d).2 λs c G=>eR (an G).1 λn z h6=>bV (eq_of_beq h6) ?_;refine oz (an h).2 λu v P B=>mz (an B).1 λw n a8 J=>eR (an J).1 λn a7 h8=>bV (eq_of_beq h8) (bV (eq_of_beq (an J).2) ?_);refine eR (an B).2 λn a9 h9=>bV (eq_of_beq h9) ?_;exact .mk (λi=>match i with|0=>O|1=>y|2=>z|3=>D|4=>Q|5=>a7|6=>a8|7=>a9|_=>P) c (an G).2 (an x).2
def P2(h:JH b=true)(ae:lF f "tasks" "AdaError" b):BX f:=by
 induction JG h with|mk p c hk d=> ?_
 revert ae;exact jD hk λc n q z=>CU z λs U ae=>λU y=>y p s n q d ae
def P5(h:JI b=true)(ae:lF f "text" "Exception" b):BY f:=by
 induction JG h with|mk p c hk d=> ?_
 revert ae;exact eR hk λs q z=>bV (eq_of_beq z) λae=>λU y=>y p q d ae
def m9{af:Type}{l:List af}(h:l.length=n+1):∃x r,l=x::r/\r.length=n:=by
 induction l using List.casesOn with
 |nil=>exact nomatch h
 |cons x r=>exact#[x,r,rfl,Nat.succ.inj h]
def JL{af:Type}{l:List af}(h:l.length=6):∃k0 k1 k2 k3 u k5,l=[k0,k1,k2,k3,u,k5]:=by obtain⟨k0,Q,e,J⟩:=m9 h;obtain⟨k1,r1,d,O⟩:=m9 J;obtain⟨k2,r2,x,P⟩:=m9 O;obtain⟨k3,r3,e3,y⟩:=m9 P;obtain⟨u,r4,B,z⟩:=m9 y;obtain⟨k5,r5,G,D⟩:=m9 z;exact#[k0,k1,k2,k3,u,k5,by rw[e,d,x,e3,B,G,List.length_eq_zero_iff.mp D]]
def six{af:Type}{a:Array af}{x:af}(h:a.size=6)(e:a[4]? =some x):∃k0 k1 k2 k3 k5,a=#[k0,k1,k2,k3,x,k5,]:=by obtain⟨l⟩:=a;obtain⟨k0,k1,k2,k3,d,k5,q⟩:=JL (l:=l) h;subst q;exact#[k0,k1,k2,k3,k5,by rw[aL (show some d=some x from e)]]
def NH{o:Obj}{cd:ClassData}(z:o.data=.cls cd)(D:o.cls=.type "type")(Q:o.slots=#[k0,k1,k2,k3,k4,k5,])(u:cd.mro=bm)(y:cd.hasDict=true)(e3:cd.hasDel=false):
 o={cls:=.type "type",dict:=o.dict,data:=.cls {name:=cd.name,bases:=cd.bases,mro:=bm,ns:=cd.ns,qualname:=cd.qualname,hasDict:=true,slotNames:=cd.slotNames,subclasses:=cd.subclasses,abstract:=cd.abstract,collection:=cd.collection,hasDel:=false},slots:=#[k0,k1,k2,k3,k4,k5,]}:=by
 obtain⟨d,od,dt,h⟩:=o;obtain⟨name,bases,mro,ns,e,hd,sn,sub,ab,col,del⟩:=cd;dsimp only at z D Q u y e3;subst z D Q u y e3;rfl
def VK(X:gx.K.In gx.hb)(c:wH gx.K=true):Ca 410 371 407:=
 bJ c λo O q=>bJ (an q).2 λcd B r=>bJ (an r).2 λod P u=>bJ u λes J x=>by
  have a:=an (an r).1;have b:=an a.2;have d:=an b.2;obtain⟨k0,k1,k2,k3,k5,h⟩:=six (aP d.1) (eq_of_beq d.2);refine(λU D=>D cd.name cd.qualname cd.ns cd.bases cd.slotNames cd.subclasses cd.abstract cd.collection o.dict k0 k1 k2 k3 k5 (λy=>nsFind es.1 y) ((X _ _ O).trans (aq some (NH (Dc B) (eq_of_beq (an q).1) h (eq_of_beq (an a.1).1) (an a.1).2 (nt b.1)))) #[od,es.1,es.2,X _ _ P,Oa J,λe G=> ?_,λU=>rfl] (eq_of_beq (an x).2))
  .have z:=gy.mp (an x).1 e (Array.mem_toList_iff.mpr G);obtain⟨s,h⟩:=Option.isSome_iff_exists.mp z;exact#[s,Bm h]
def Fc(h:yd o v=true):o=some (.val v):=by
 cases o with
 |none=>exact aQ h
 |some c=>cases c<;>first|exact aq (λu=>some (CFound.val u)) (eq_of_beq h)|exact aQ h
def Oe(X:gx.K.In gx.hb)(c:wN gx.K=true):i4 410 371 407 368:=by have a:=an (an c).1;have d:=an a.1;have x:=an a.2;have e:=an (an (an c).2).2;have B:=an e.1;have h:=an B.1;have J:=an B.2;have G:=an e.2;have O:=an G.1;have P:=an G.2;obtain⟨b,u,ae⟩:=GB X d.2;obtain⟨z,y,aH⟩:=GB X x.1;exact#[VK X d.1,P2 u ae,P5 y aH,Ez d.1 x.2,Ez d.1 (an (an c).2).1,eq_of_beq (an h.1).1,eq_of_beq (an h.1).2,eq_of_beq (an h.2).1,#[_,(an h.2).2,Fc J.1,eq_of_beq J.2],#[eq_of_beq O.1,eq_of_beq O.2,Fc P.1],P.2]
def Ce:Wd:=#[λU=>none,λU=>none,λU=>none,λU=>none,λU=>none]
def TQ{ns:k23}(h:IntsAre vs ns):aA W (ns.map V.int) vs:=by
 induction h with
 |nil=>exact .z
 |cons n t _ d=>exact .c .i d
def Xs(C:sV gx.K gx.hb):bg Ce (λU=>.fresh) [(674,tabObj #[]),(707,tabObj #[])]:=by
 refine(vc C.NS) _ λB G x O d=> ?_;refine#[by decide,λU U=>no,λU U=>no,λU U=>no,λU U=>no,λU U=>no,λU U=>rfl,λU U e=>(nomatch e),λU U e=>(nomatch e),λN h=> ?_];rcases vL (x▸(show N∈d8 gx.K from h))with e|e
 .exact#[rfl,rfl,rfl,.no (by rw[e,O.p];exact .head _)]
 .exact#[rfl,rfl,rfl,.no (by rw[e,d.p];exact .tail _ (.head _))]
def Uz(X:gx.K.In gx.hb)(T:Top topProg gx.loose gx.r6 gx.mg gx.mb gx.hb)(C:sV gx.K gx.hb)(HL:∀fd,hM gx.K 427=some fd->lC je fd)
 (B:Below callerA gx.hb [] gx.hb){name:Str}{scope:Scope}{L fa a:Addr}{cd:Value}{body:k07}{s:Shared}{vs:k04}{ns:k23}{n:Nat}(F6:s9 ns)(F:Fr gx.hb L s.heap (λy=>([("script",.ref a)]:List (Str×Value)).reverse.lookup y))
 (N:News gx.hb L s.heap [(674,tabObj #[]),(707,tabObj #[])])(hg:s.gens=#[])(ho:s.os=gx.os)(ha:gx.hb.get? a=some (listOf (List.toArray vs) n))(hi:IntsAre vs ns)
 (hY:dj scope kF.body body=true)(uo:scope.kind=.function)(yq:scope.names.all (λx=> !(x.2== .cell))=true):
 wpAny gM (callerA.deeper (envX name scope L fa cd [])) (execs body (envX name scope L fa cd []))
  (λf s'=>f=.ret (.bool true)/\(∀b o,gx.hb.get? b=some o->s'.heap.get? b=some o)/\s'.os=gx.os/\s'.gens=#[]/\GrownAll [(678,674),(709,707)] s'.heap) (λU U=>False) s:=by
 have PO:=WI X T C.c0 C.c1 C.c2 C.c3 C.c4 C.NS HL;have ai:=Oe X C.c6;have ax:=Od C.c7;have Q:=PG X C.NS C.c5;obtain X0:Cx (callerA.deeper (envX name scope L fa cd [])) gx.hb L (envX name scope L fa cd []) []:=#[#[callerA,B],Around.frames_deeper B.stack,rfl,uo];obtain rm:Rm (callerA.deeper (envX name scope L fa cd [])) 41:=#[rfl,by show 1+claimMargin+1+2*41+10<recursionLimit;decide+kernel,by show 4+3+8*41+400<cLine;decide+kernel];have d:=Zj (G:=λU=>none) ai ax PO X0 (λU U e=>e) rm Q (st:=kF.body) (ps:=body) hY (by decide+kernel) (λf x J=>by rw[xn kF.body body (by decide+kernel)]at J;exact nomatch J);obtain pD:nm 180=("script":Str):=by decide+kernel
 refine bj (d _ Ce (λU=>.fresh) s _ _ _ #[#[uo,rfl,rfl,λU U=>no,λx J=> ?_],rfl,rfl,λx v e=> ?_] #[F,#[_,N,Xs C],hg,ho] F6) (λf s' z=> ?_) λU U z=> ?_
 .have:=gy.mp yq _ (n8 (show scope.names.lookup x=some .cell from J));exact aQ this
 .by_cases J:x=180
  .subst J;exact#[by decide+kernel,.ref a,by rw[pD];rfl,aL ((al rfl).symm.trans e)▸(λU y9=>y9 a vs n rfl (.inr ha) (TQ hi))]
  .exact no ((ak J).symm.trans e)
 .clear d F6 ax Q ai PO hi ha N F;refine z _ λm' W' h' l' fl le u O' hr e=> ?_;subst e;obtain⟨pv,e1,e2⟩:=hr;obtain⟨D,N',R'⟩:=u.nw;refine#[e1.trans (aq Flow.ret e2),λb o e=>u.fr.keep _ _ e,u.os,u.gens,?_];refine(vc C.NS) _ λN1 N2 cP O1 O2=> ?_;have tab:∀O,O∈d8 gx.K->GrownAt O.P s'.heap:=λO hN=>by
   induction (R'.tabs O hN).t with
   |no h=>exact#[_,(N' _ h).1]
   |yes _ _ _ _ h _ _ _=>exact#[_,(N' _ h).1]
  exact#[O1.p▸tab N1 (by rw[cP];exact .head _),O2.p▸tab N2 (by rw[cP];exact .tail _ (.head _)),trivial]
 .exact z _ λU U U U U U U U q=>q
end
def MO{fd:FuncData}(y:fd.params.posonlyargs=[])(z:fd.params.vararg=none)(D:fd.params.kwonlyargs=[])(h4:fd.params.kwarg=none)(u:fd.params.args.map (·.arg)=LN)(hd:fd.defaults=.ref T)
 {s:Shared}{o:Obj}(ho:s.heap.get? T=some o)(hs:o.data=.seq #[d1,d2,d3,d4,d5,d6,d7,] n):BindsTo s fd #[[v],[]] (LN.zip [v,d1,d2,d3,d4,d5,d6,d7]):=by
 obtain⟨name,d,params,body,scope,O,cl,G,P,e,pm,an,cd,B,x⟩:=fd;obtain⟨po,args,va,ko,Uh,Up,J⟩:=params;dsimp only at y z D h4 hd u;subst y z D h4 hd;have hL:LN=([Str.ofString "self",Str.ofString "width",Str.ofString "steps",Str.ofString "depth",Str.ofString "members",Str.ofString "text",Str.ofString "tasks",Str.ofString "heap"]:List Str):=by decide+kernel
 intro M A E Q h;rw[hL]at h u;unfold bindArgs;dsimp only;rw[u];refine av (aJ ?_);refine av (wpAny_seqItems ho hs ?_);exact aJ h
def Yd{af:Type}{a:Array af}(h:a.toList.length=7):∃u y z D Q d6 d7,a=#[u,y,z,D,Q,d6,d7,]:=by obtain⟨l⟩:=a;obtain⟨k,r,e,d⟩:=m9 (l:=l) h;obtain⟨k0,k1,k2,k3,x,k5,q⟩:=JL d;exact#[k,k0,k1,k2,k3,x,k5,by rw[e,q]]
def VZ{af:Type}{l:List af}(h:l.length=1):∃v,l=[v]:=List.length_eq_one_iff.mp h
def Q7(X:gx.K.In gx.hb)(c:wL gx.K=true):
 ∀fd,hM gx.K 427=some fd->lC je fd:=by
 intro fd hf s args bf W l hs hv hl;refine bJ c λEE yA q=>bJ (an q).2 λT hT h=>bJ h λo ho h=>bJ h λvs nM h=> ?_;cases aL (hf.symm.trans yA);have x:aA W je.dE vs.1.toList:=E9 h;have B:je.dE.length=7:=by decide+kernel
 have G:=CO hl;rw[eV,B,show je.params.length=8 by decide+kernel]at G;obtain⟨v,e⟩:=VZ (hv.length.trans (Nat.add_right_cancel (m:=7) G));obtain⟨O,P,u,y,z,D,Q,hd⟩:=Yd (x.length.trans B);have a:=an (an (an q).1).1;have b:=an a.1;have d:=an a.2;have J:=A4 nM;rw[hd]at J x;refine#[bf++[O,P,u,y,z,D,Q],?_,hv.append x];rw[e];exact MO (cY.mp b.1) (ix.mp b.2) (cY.mp d.1) (ix.mp d.2) (eq_of_beq (an (an q).1).2) (su hT) (hs _ _ (X _ _ ho)) J
def Ux(x:Gx):Claim x:=Nz (λX T C c B U U U U U U U U U U U J F N e O h G P hk d=>Uz X T C (Q7 X c) B J F N e O h G P hk d) x
end
section
@[simp]def acB(h:H)(a:Nm)(f:Nat):jT h (.ref a) f=aT (h a) f:=rfl
@[simp]def agU(h:H)(a:Nm)(f:Nat)(x:V):ml h (.ref a) f x=(aZ (h a) f x).map (h.set a):=rfl
@[simp]def fw{af:Type}(a:af)(k:af->Prop):ay (some a) k=k a:=rfl
def H.set_set(h:H)(a:Nm)(s s':Slot):(h.set a s).set a s'=h.set a s':=by funext b;unfold H.set;split<;>rfl
def Ky:∃F:Nat->Fn,F=bQ az:=#[_,rfl]
def wG:Nat->Fn:=Ky.choose
def sN:wG=bQ az:=Ky.choose_spec
def xW{d:aB}(hd:az.fns k=some d)(hf:d.frees=[])(q:ei az (wG n) d [] args h Q X):wG (n+1) (.fn k) args h Q X:=by rw[sN]at q⊢;show ay (az.fns k) _;rw[hd];exact#[hf,q]
def done{Q:QV}(q:Q v h):∃h',i6 h h'/\Q v h':=#[h,λU=>.inl rfl,q]
def CS{d:aB}{clo:k31}{Q X:QV}(hd:d.dE=[])(hc:d.cells=[])(e:gB d.params args (λU=>none)=some l)
 (q:bc az O (λx=>clo.lookup x) d.body (jA d.params l) h (λf U h=>∃h',i6 h h'/\match f with|.ret v=>Q v h'|.next=>Q .none h'|.cont=>False) (λv U h=>∃h',i6 h h'/\X v h')):ei az O d clo args h Q X:=by
 unfold ei;rw[hd,hc];rw[List.append_nil,e];exact q
@[simp]def v3:az.gl=GL:=rfl
@[simp]def aaA:az.rL=qC:=rfl
@[simp]def aaC:az.meths=qE:=rfl
@[simp]def aaB:az.mN=95:=rfl
@[simp]def fA(Q:QV)(v:V)(h:H):tq false Q v h=Q v h:=rfl
@[simp]def Zk(Q:QV)(v:V)(h:H):tq true Q v h=ay (truthy h v) λb=>Q (.bool b) h:=rfl
structure TR where
 number:V
 name:V
 jy:V
 state:V
 bP:V
 bu:V
 wake:V
 call:V
 cK:V
 answer:V
 eu:V
def TR.fs(t:TR):List (Nat×V):=[(17,t.number),(71,t.name),(70,t.jy),(11,t.state),(21,t.bP),(68,t.bu),(67,t.wake),(66,.none),(19,t.call),(65,t.cK),(64,.fz []),(63,.none),(62,t.answer),(61,.bool false),(60,t.eu),(59,.none),(58,.int 0),(57,.bool false),(56,.fz []),(55,.none),(54,.none),(53,.fz []),(52,.fz []),(51,.none),(50,.none),(49,.int 0)]
def oT(t:TR):Slot:=.live (.inst 2 t.fs)
@[simp]def Qw(t:TR):aT (oT t) 17=some t.number:=rfl
@[simp]def afT(t:TR)(v:V):aZ (oT t) 17 v=some (oT {t with number:=v}):=rfl
@[simp]def acA(t:TR):aT (oT t) 71=some t.name:=rfl
@[simp]def agh(t:TR)(v:V):aZ (oT t) 71 v=some (oT {t with name:=v}):=rfl
@[simp]def acz(t:TR):aT (oT t) 70=some t.jy:=rfl
@[simp]def agg(t:TR)(v:V):aZ (oT t) 70 v=some (oT {t with jy:=v}):=rfl
@[simp]def Qv(t:TR):aT (oT t) 11=some t.state:=rfl
@[simp]def afS(t:TR)(v:V):aZ (oT t) 11 v=some (oT {t with state:=v}):=rfl
@[simp]def EY(t:TR):aT (oT t) 21=some t.bP:=rfl
@[simp]def afV(t:TR)(v:V):aZ (oT t) 21 v=some (oT {t with bP:=v}):=rfl
@[simp]def acy(t:TR):aT (oT t) 68=some t.bu:=rfl
@[simp]def agf(t:TR)(v:V):aZ (oT t) 68 v=some (oT {t with bu:=v}):=rfl
@[simp]def acx(t:TR):aT (oT t) 67=some t.wake:=rfl
@[simp]def age(t:TR)(v:V):aZ (oT t) 67 v=some (oT {t with wake:=v}):=rfl
@[simp]def acw(t:TR):aT (oT t) 66=some (.none):=rfl
@[simp]def agd(t:TR):aZ (oT t) 66 (.none)=some (oT t):=rfl
@[simp]def ace(t:TR):aT (oT t) 19=some t.call:=rfl
@[simp]def afU(t:TR)(v:V):aZ (oT t) 19 v=some (oT {t with call:=v}):=rfl
@[simp]def acv(t:TR):aT (oT t) 65=some t.cK:=rfl
@[simp]def agc(t:TR)(v:V):aZ (oT t) 65 v=some (oT {t with cK:=v}):=rfl
@[simp]def acu(t:TR):aT (oT t) 64=some (.fz []):=rfl
@[simp]def agb(t:TR):aZ (oT t) 64 (.fz [])=some (oT t):=rfl
@[simp]def act(t:TR):aT (oT t) 63=some (.none):=rfl
@[simp]def aga(t:TR):aZ (oT t) 63 (.none)=some (oT t):=rfl
@[simp]def acs(t:TR):aT (oT t) 62=some t.answer:=rfl
@[simp]def af9(t:TR)(v:V):aZ (oT t) 62 v=some (oT {t with answer:=v}):=rfl
@[simp]def acr(t:TR):aT (oT t) 61=some (.bool false):=rfl
@[simp]def af8(t:TR):aZ (oT t) 61 (.bool false)=some (oT t):=rfl
@[simp]def acq(t:TR):aT (oT t) 60=some t.eu:=rfl
@[simp]def af7(t:TR)(v:V):aZ (oT t) 60 v=some (oT {t with eu:=v}):=rfl
@[simp]def acp(t:TR):aT (oT t) 59=some (.none):=rfl
@[simp]def af6(t:TR):aZ (oT t) 59 (.none)=some (oT t):=rfl
@[simp]def aco(t:TR):aT (oT t) 58=some (.int 0):=rfl
@[simp]def af5(t:TR):aZ (oT t) 58 (.int 0)=some (oT t):=rfl
@[simp]def acn(t:TR):aT (oT t) 57=some (.bool false):=rfl
@[simp]def af4(t:TR):aZ (oT t) 57 (.bool false)=some (oT t):=rfl
@[simp]def acm(t:TR):aT (oT t) 56=some (.fz []):=rfl
@[simp]def af3(t:TR):aZ (oT t) 56 (.fz [])=some (oT t):=rfl
@[simp]def acl(t:TR):aT (oT t) 55=some (.none):=rfl
@[simp]def af2(t:TR):aZ (oT t) 55 (.none)=some (oT t):=rfl
@[simp]def ack(t:TR):aT (oT t) 54=some (.none):=rfl
@[simp]def af1(t:TR):aZ (oT t) 54 (.none)=some (oT t):=rfl
@[simp]def acj(t:TR):aT (oT t) 53=some (.fz []):=rfl
@[simp]def af0(t:TR):aZ (oT t) 53 (.fz [])=some (oT t):=rfl
@[simp]def aci(t:TR):aT (oT t) 52=some (.fz []):=rfl
@[simp]def afZ(t:TR):aZ (oT t) 52 (.fz [])=some (oT t):=rfl
@[simp]def ach(t:TR):aT (oT t) 51=some (.none):=rfl
@[simp]def afY(t:TR):aZ (oT t) 51 (.none)=some (oT t):=rfl
@[simp]def acg(t:TR):aT (oT t) 50=some (.none):=rfl
@[simp]def afX(t:TR):aZ (oT t) 50 (.none)=some (oT t):=rfl
@[simp]def acf(t:TR):aT (oT t) 49=some (.int 0):=rfl
@[simp]def afW(t:TR):aZ (oT t) 49 (.int 0)=some (oT t):=rfl
structure CR where
 number:V
 caller:V
 target:V
 key:V
 values:V
 state:V
 kG:V
 cond:V
 found:V
def CR.fs(t:CR):List (Nat×V):=[(17,t.number),(16,t.caller),(15,t.target),(14,t.key),(13,t.values),(11,t.state),(10,t.kG),(9,.bool false),(8,t.cond),(7,t.found)]
def oC(t:CR):Slot:=.live (.inst 0 t.fs)
@[simp]def abH(t:CR):aT (oC t) 17=some t.number:=rfl
@[simp]def afj(t:CR)(v:V):aZ (oC t) 17 v=some (oC {t with number:=v}):=rfl
@[simp]def abG(t:CR):aT (oC t) 16=some t.caller:=rfl
@[simp]def afi(t:CR)(v:V):aZ (oC t) 16 v=some (oC {t with caller:=v}):=rfl
@[simp]def abF(t:CR):aT (oC t) 15=some t.target:=rfl
@[simp]def afh(t:CR)(v:V):aZ (oC t) 15 v=some (oC {t with target:=v}):=rfl
@[simp]def abE(t:CR):aT (oC t) 14=some t.key:=rfl
@[simp]def afg(t:CR)(v:V):aZ (oC t) 14 v=some (oC {t with key:=v}):=rfl
@[simp]def abD(t:CR):aT (oC t) 13=some t.values:=rfl
@[simp]def aff(t:CR)(v:V):aZ (oC t) 13 v=some (oC {t with values:=v}):=rfl
@[simp]def abC(t:CR):aT (oC t) 11=some t.state:=rfl
@[simp]def afe(t:CR)(v:V):aZ (oC t) 11 v=some (oC {t with state:=v}):=rfl
@[simp]def abB(t:CR):aT (oC t) 10=some t.kG:=rfl
@[simp]def afd(t:CR)(v:V):aZ (oC t) 10 v=some (oC {t with kG:=v}):=rfl
@[simp]def abK(t:CR):aT (oC t) 9=some (.bool false):=rfl
@[simp]def afm(t:CR):aZ (oC t) 9 (.bool false)=some (oC t):=rfl
@[simp]def abJ(t:CR):aT (oC t) 8=some t.cond:=rfl
@[simp]def afl(t:CR)(v:V):aZ (oC t) 8 v=some (oC {t with cond:=v}):=rfl
@[simp]def abI(t:CR):aT (oC t) 7=some t.found:=rfl
@[simp]def afk(t:CR)(v:V):aZ (oC t) 7 v=some (oC {t with found:=v}):=rfl
structure GR where
 number:V
 bP:V
 i0:V
def GR.fs(t:GR):List (Nat×V):=[(17,t.number),(112,.fz [.str 189]),(21,t.bP),(111,t.i0),(110,.fz []),(49,.fz []),(109,.none),(55,.none),(108,.none),(107,.bool false)]
def oG(t:GR):Slot:=.live (.inst 3 t.fs)
@[simp]def Qu(t:GR):aT (oG t) 17=some t.number:=rfl
@[simp]def afv(t:GR)(v:V):aZ (oG t) 17 v=some (oG {t with number:=v}):=rfl
@[simp]def abR(t:GR):aT (oG t) 112=some (.fz [.str 189]):=rfl
@[simp]def afu(t:GR):aZ (oG t) 112 (.fz [.str 189])=some (oG t):=rfl
@[simp]def EX(t:GR):aT (oG t) 21=some t.bP:=rfl
@[simp]def afw(t:GR)(v:V):aZ (oG t) 21 v=some (oG {t with bP:=v}):=rfl
@[simp]def abQ(t:GR):aT (oG t) 111=some t.i0:=rfl
@[simp]def aft(t:GR)(v:V):aZ (oG t) 111 v=some (oG {t with i0:=v}):=rfl
@[simp]def abP(t:GR):aT (oG t) 110=some (.fz []):=rfl
@[simp]def afs(t:GR):aZ (oG t) 110 (.fz [])=some (oG t):=rfl
@[simp]def abS(t:GR):aT (oG t) 49=some (.fz []):=rfl
@[simp]def afx(t:GR):aZ (oG t) 49 (.fz [])=some (oG t):=rfl
@[simp]def abO(t:GR):aT (oG t) 109=some (.none):=rfl
@[simp]def afr(t:GR):aZ (oG t) 109 (.none)=some (oG t):=rfl
@[simp]def abT(t:GR):aT (oG t) 55=some (.none):=rfl
@[simp]def afy(t:GR):aZ (oG t) 55 (.none)=some (oG t):=rfl
@[simp]def abN(t:GR):aT (oG t) 108=some (.none):=rfl
@[simp]def afq(t:GR):aZ (oG t) 108 (.none)=some (oG t):=rfl
@[simp]def abM(t:GR):aT (oG t) 107=some (.bool false):=rfl
@[simp]def afo(t:GR):aZ (oG t) 107 (.bool false)=some (oG t):=rfl
structure KR where
 rX:V
 choose:V
 eX:V
 aY:V
 cJ:V
 settled:V
 nZ:V
 dR:V
def KR.fs(t:KR):List (Nat×V):=[(140,t.rX),(167,t.choose),(34,t.eX),(130,t.aY),(165,t.cJ),(161,t.settled),(148,t.nZ),(99,t.dR),(163,.none)]
def oK(t:KR):Slot:=.live (.inst 6 t.fs)
@[simp]def abV(t:KR):aT (oK t) 140=some t.rX:=rfl
@[simp]def afA(t:KR)(v:V):aZ (oK t) 140 v=some (oK {t with rX:=v}):=rfl
@[simp]def ab0(t:KR):aT (oK t) 167=some t.choose:=rfl
@[simp]def afF(t:KR)(v:V):aZ (oK t) 167 v=some (oK {t with choose:=v}):=rfl
@[simp]def ab1(t:KR):aT (oK t) 34=some t.eX:=rfl
@[simp]def afG(t:KR)(v:V):aZ (oK t) 34 v=some (oK {t with eX:=v}):=rfl
@[simp]def abU(t:KR):aT (oK t) 130=some t.aY:=rfl
@[simp]def afz(t:KR)(v:V):aZ (oK t) 130 v=some (oK {t with aY:=v}):=rfl
@[simp]def abZ(t:KR):aT (oK t) 165=some t.cJ:=rfl
@[simp]def afE(t:KR)(v:V):aZ (oK t) 165 v=some (oK {t with cJ:=v}):=rfl
@[simp]def abX(t:KR):aT (oK t) 161=some t.settled:=rfl
@[simp]def afC(t:KR)(v:V):aZ (oK t) 161 v=some (oK {t with settled:=v}):=rfl
@[simp]def abW(t:KR):aT (oK t) 148=some t.nZ:=rfl
@[simp]def afB(t:KR)(v:V):aZ (oK t) 148 v=some (oK {t with nZ:=v}):=rfl
@[simp]def ab2(t:KR):aT (oK t) 99=some t.dR:=rfl
@[simp]def afH(t:KR)(v:V):aZ (oK t) 99 v=some (oK {t with dR:=v}):=rfl
@[simp]def abY(t:KR):aT (oK t) 163=some (.none):=rfl
@[simp]def afD(t:KR):aZ (oK t) 163 (.none)=some (oK t):=rfl
structure MR where
 bC:V
 ended:V
def MR.fs(t:MR):List (Nat×V):=[(17,.int 0),(138,.none),(137,t.bC),(136,t.ended)]
def oM(t:MR):Slot:=.live (.inst 5 t.fs)
@[simp]def ab6(t:MR):aT (oM t) 17=some (.int 0):=rfl
@[simp]def afL(t:MR):aZ (oM t) 17 (.int 0)=some (oM t):=rfl
@[simp]def ab5(t:MR):aT (oM t) 138=some (.none):=rfl
@[simp]def afK(t:MR):aZ (oM t) 138 (.none)=some (oM t):=rfl
@[simp]def ab4(t:MR):aT (oM t) 137=some t.bC:=rfl
@[simp]def afJ(t:MR)(v:V):aZ (oM t) 137 v=some (oM {t with bC:=v}):=rfl
@[simp]def ab3(t:MR):aT (oM t) 136=some t.ended:=rfl
@[simp]def afI(t:MR)(v:V):aZ (oM t) 136 v=some (oM {t with ended:=v}):=rfl
@[simp]def acO:GL 12=some (.str 241):=rfl
@[simp]def adq:GL 20=some (.str 242):=rfl
@[simp]def ady:GL 22=some (.fn 1):=rfl
@[simp]def adH:GL 25=some (.fn 2):=rfl
@[simp]def adI:GL 27=some (.fn 3):=rfl
@[simp]def adJ:GL 28=some (.fn 4):=rfl
@[simp]def adK:GL 29=some (.fn 5):=rfl
@[simp]def adL:GL 32=some (.fn 6):=rfl
@[simp]def adM:GL 36=some (.fn 8):=rfl
@[simp]def adN:GL 40=some (.fn 9):=rfl
@[simp]def adO:GL 41=some (.fn 10):=rfl
@[simp]def adP:GL 42=some (.fn 11):=rfl
@[simp]def adQ:GL 48=some (.fn 12):=rfl
@[simp]def adR:GL 69=some (.str 142):=rfl
@[simp]def adS:GL 73=some (.str 251):=rfl
@[simp]def adT:GL 74=some (.str 250):=rfl
@[simp]def adU:GL 75=some (.fn 14):=rfl
@[simp]def adV:GL 76=some (.str 173):=rfl
@[simp]def adW:GL 77=some (.fn 15):=rfl
@[simp]def adX:GL 79=some (.str 244):=rfl
@[simp]def adY:GL 80=some (.fn 16):=rfl
@[simp]def adZ:GL 82=some (.str 246):=rfl
@[simp]def ad0:GL 83=some (.str 243):=rfl
@[simp]def ad1:GL 84=some (.fn 17):=rfl
@[simp]def ad2:GL 85=some (.fn 18):=rfl
@[simp]def ad3:GL 86=some (.str 247):=rfl
@[simp]def ad4:GL 87=some (.fn 19):=rfl
@[simp]def ad5:GL 88=some (.fn 20):=rfl
@[simp]def ad6:GL 89=some (.fn 21):=rfl
@[simp]def ad7:GL 90=some (.fn 23):=rfl
@[simp]def ad8:GL 94=some (.cls 0):=rfl
@[simp]def ad9:GL 96=some (.fn 22):=rfl
@[simp]def aea:GL 97=some (.str 245):=rfl
@[simp]def aeb:GL 98=some (.fn 24):=rfl
@[simp]def acD:GL 100=some (.fn 25):=rfl
@[simp]def acE:GL 101=some (.fn 27):=rfl
@[simp]def acF:GL 103=some (.fn 26):=rfl
@[simp]def acG:GL 104=some (.str 248):=rfl
@[simp]def acH:GL 105=some (.fn 28):=rfl
@[simp]def acI:GL 106=some (.fn 29):=rfl
@[simp]def acJ:GL 115=some (.fn 31):=rfl
@[simp]def acK:GL 116=some (.fn 32):=rfl
@[simp]def acL:GL 117=some (.fn 33):=rfl
@[simp]def acM:GL 118=some (.fn 35):=rfl
@[simp]def acN:GL 119=some (.fn 34):=rfl
@[simp]def acP:GL 121=some (.str 249):=rfl
@[simp]def acQ:GL 122=some (.fn 36):=rfl
@[simp]def acR:GL 123=some (.fn 37):=rfl
@[simp]def acS:GL 124=some (.fn 39):=rfl
@[simp]def acT:GL 125=some (.fn 38):=rfl
@[simp]def acU:GL 127=some (.fn 40):=rfl
@[simp]def acV:GL 128=some (.fn 41):=rfl
@[simp]def acW:GL 139=some (.cls 2):=rfl
@[simp]def acX:GL 141=some (.fn 44):=rfl
@[simp]def acY:GL 143=some (.fn 45):=rfl
@[simp]def acZ:GL 144=some (.fn 46):=rfl
@[simp]def ac0:GL 145=some (.fn 47):=rfl
@[simp]def ac1:GL 146=some (.fn 48):=rfl
@[simp]def ac2:GL 147=some (.fn 49):=rfl
@[simp]def ac3:GL 149=some (.fn 50):=rfl
@[simp]def ac4:GL 152=some (.fn 51):=rfl
@[simp]def ac5:GL 153=some (.str 50):=rfl
@[simp]def ac6:GL 154=some (.fn 52):=rfl
@[simp]def ac7:GL 156=some (.fn 53):=rfl
@[simp]def ac8:GL 157=some (.fn 54):=rfl
@[simp]def ac9:GL 158=some (.fn 55):=rfl
@[simp]def ada:GL 159=some (.fn 56):=rfl
@[simp]def adb:GL 160=some (.fn 57):=rfl
@[simp]def adc:GL 162=some (.fn 58):=rfl
@[simp]def ade:GL 164=some (.cls 5):=rfl
@[simp]def adf:GL 166=some (.cls 1):=rfl
@[simp]def adg:GL 168=some (.fn 61):=rfl
@[simp]def adh:GL 169=some (.fn 62):=rfl
@[simp]def adi:GL 170=some (.fn 63):=rfl
@[simp]def adj:GL 171=some (.fn 64):=rfl
@[simp]def adk:GL 172=some (.fn 65):=rfl
@[simp]def adl:GL 175=some (.fn 66):=rfl
@[simp]def QM:GL 176=some (.fn 67):=rfl
@[simp]def adm:GL 177=some (.tup [.int 0,.int 1,.int 0,.int 3,.int 0,.int 0,.int 0,.int 0,.int 4,.int 0,.int 0,.int 1,.int 1,.int 0,.int 0,.int 1,.int 0,.int 0,.int 0]):=rfl
@[simp]def adn:GL 181=some (.fn 68):=rfl
@[simp]def ado:GL 192=some (.fn 69):=rfl
@[simp]def adp:GL 199=some (.fn 70):=rfl
@[simp]def adr:GL 201=some (.gk 189):=rfl
@[simp]def ads:GL 202=some (.gk 186):=rfl
@[simp]def adt:GL 203=some (.fn 71):=rfl
@[simp]def adu:GL 205=some (.fn 72):=rfl
@[simp]def adv:GL 210=some (.fn 73):=rfl
@[simp]def adw:GL 214=some (.fn 74):=rfl
@[simp]def adx:GL 216=some (.fn 75):=rfl
@[simp]def adz:GL 221=some (.fn 76):=rfl
@[simp]def adA:GL 225=some (.cls 3):=rfl
@[simp]def adB:GL 227=some (.cls 6):=rfl
@[simp]def adC:GL 229=some (.cls 4):=rfl
@[simp]def adD:GL 231=some (.fn 77):=rfl
@[simp]def adE:GL 235=some (.fn 78):=rfl
@[simp]def adF:GL 236=some (.fn 79):=rfl
@[simp]def QN:GL 238=some (.tup [.int 2,.int 2,.int 2,.int 1,.int 0,.int 0,.int 0,.int 0,.int 0,.int 1,.int 1,.int 0]):=rfl
@[simp]def adG:GL 240=some (.fn 80):=rfl
section
variable(P:Y)(O:Fn)(G:Ka)
def GX(f:Nat)(t:Bool)(Q:QV):QV:=λv h=>ay (jT h v f) λu=>tq t Q u h
def gK(t:Bool)(Q:QV):QV:=λv h=>tq t Q v h
def nV(t:Bool)(Q:QV)(h:H):V->Prop:=λu=>tq t Q u h
def zL(v:V)(t:Bool)(Q:QV):QV:=λk h=>ay (bM h v k) λu=>tq t Q u h
def Hb(i:E)(t:Bool)(l:Lc)(Q X:QV):QV:=λv h=>au P O G i false l h (zL v t Q) X
def z0(v:V)(t:Bool)(Q:QV):QV:=λk h=>ay (v.rf some) λxs=>ay (k.eK some) λn=>(0<=n/\xs.length<=1000)/\tq t Q (.fz (xs.drop n.toNat)) h
def Hn(i:E)(t:Bool)(l:Lc)(Q X:QV):QV:=λv h=>au P O G i false l h (z0 v t Q) X
def z8(k:Nat)(t:Bool)(Q:QV):QV:=λv h=>ay (v.mw some) λxs=>(0<k/\k<xs.length/\xs.length<=1000)/\tq t Q (.tup (xs.take k)) h
def zG(d:mD)(x:V)(Q:QV):QV:=λy h=>ay (gC h d x y) λr=>Q (.bool r) h
def G2(Q:QV)(h:H):Bool->Prop:=λr=>Q (.bool r) h
def G6(d:mD)(b:E)(l:Lc)(Q X:QV):QV:=λx h=>au P O G b false l h (zG d x Q) X
def uM(b:E)(t:Bool)(l:Lc)(Q X:QV)(x:V)(h:H):Bool->Prop:=λc=>if c then au P O G b t l h Q X else Q x h
def GW(b:E)(t:Bool)(l:Lc)(Q X:QV):QV:=λx h=>ay (truthy h x) (uM P O G b t l Q X x h)
def uQ(b:E)(t:Bool)(l:Lc)(Q X:QV)(x:V)(h:H):Bool->Prop:=λc=>if c then Q x h else au P O G b t l h Q X
def Hi(b:E)(t:Bool)(l:Lc)(Q X:QV):QV:=λx h=>ay (truthy h x) (uQ P O G b t l Q X x h)
def zT(Q:QV)(h:H):Bool->Prop:=λc=>Q (.bool (!c)) h
def Hh(Q:QV):QV:=λx h=>ay (truthy h x) (zT Q h)
def zE(d:eS)(x:V)(t:Bool)(Q:QV):QV:=λy h=>ay (f5 d x y) (nV t Q h)
def G1(d:eS)(b:E)(t:Bool)(l:Lc)(Q X:QV):QV:=λx h=>au P O G b false l h (zE d x t Q) X
def zM(a b:E)(t:Bool)(l:Lc)(Q X:QV):QV:=λx h=>ay (x.jO some) λc=>if c then au P O G a t l h Q X else au P O G b t l h Q X
def iF(z t:Bool)(Q:QV):List V->H->Prop:=λvs h=>jz z vs h (gK t Q)
def Hr(t:Bool)(Q:QV):List V->H->Prop:=λvs h=>vs.length<=1000/\tq t Q (.tup vs) h
def Hm(d:k06)(t:Bool)(Q:QV):List V->H->Prop:=λvs h=>d.length=vs.length/\alloc h (.dp (d.zip vs)) (gK t Q)
def kC(e:E)(ts:k06)(cs:Es):V->H->(Option V->H->Prop)->Prop:=λx h K=>ay (f6 ts x λU=>none) λD=>my P O G cs D h (λb h=>if b then au P O G e false D h (λu h=>K (some u) h) (λU U=>False)else K none h) (λU U=>False)
def pI(z:Bool)(e:E)(ts:k06)(d:Bool)(cs:Es)(t:Bool)(Q:QV):QV:=λv h=>ay (eA d v h) λxs=>xs.length<=1000/\gZ (cE d v xs) (kC P O G e ts cs) xs [] h (iF z t Q)
def zY(z:Bool)(v:V)(t:Bool)(Q:QV):QV:=λk h=>ay (k.eK some) λi=> -200<i/\i<200/\jz z (List.replicate i.toNat v) h (gK t Q)
def Hk(z:Bool)(n:E)(t:Bool)(l:Lc)(Q X:QV):QV:=λv h=>au P O G n false l h (zY z v t Q) X
def uP(c:V)(t:Bool)(Q X:QV):List V->H->Prop:=λvs h=>O c vs h (gK t Q) X
def G3(as:Es)(t:Bool)(l:Lc)(Q X:QV):QV:=λc h=>cM P O G as l h (uP O c t Q X) X
def He(a:Nm)(g:Nat)(t:Bool)(Q X:QV):List V->H->Prop:=λvs h=>O (.fn g) (.ref a::vs) h (gK t Q) X
def zS(t:Bool)(Q:QV):V×H->Prop:=λr=>tq t Q r.1 r.2
def zQ(g:Bool)(a:Nm)(m:Nat)(t:Bool)(Q:QV):List V->H->Prop:=λvs h=>ay (j7 g h a m vs) (zS t Q)
def Hg(t:Bool)(Q:QV):List V->H->Prop:=λvs h=>vs=[.fz []]/\tq t Q .none h
def Ug(as:Es)(l:Lc)(h:H)(X:QV):(List V->H->Prop)->Prop:=λR=>cM P O G as l h R X
def Hf(m:Nat)(as:Es)(t:Bool)(l:Lc)(Q X:QV)(h:H):qH->Prop:=Ai P O m X (gK t Q) (Ug P O G as l h X)
def zR(m:Nat)(as:Es)(t:Bool)(l:Lc)(Q X:QV):QV:=λv h=>ay (A0 h m v) (Hf P O G m as t l Q X h)
def zN(t:Bool)(Q:QV)(h:H):List V->Prop:=λxs=>xs.length<=1000/\tq t Q (.int xs.length) h
def j5(t:Bool)(Q:QV):QV:=λv h=>ay (eL h v) (zN t Q h)
def zP(x:V)(t:Bool)(Q:QV):QV:=λy h=>ay (kY (λi j=>some (if j>i then j else i)) x y) λr=>tq t Q (.int r) h
def Hc(b:E)(t:Bool)(l:Lc)(Q X:QV):QV:=λx h=>au P O G b false l h (zP x t Q) X
def z7(t:Bool)(Q:QV)(h:H):List V->Prop:=λxs=>tq t Q (.fz xs) h
def Hp(t:Bool)(Q:QV):QV:=λv h=>ay (ot h v) (z7 t Q h)
def zK(v:V)(Q:k21):List V->H->Prop:=λvs h=>Q (v::vs) h
def G9(r:Es)(l:Lc)(Q:k21)(X:QV):QV:=λv h=>cM P O G r l h (zK v Q) X
def ju(r:Ss)(Q:k02)(X:k08):Fl->Lc->H->Prop:=λf l h=>match f with|.next=>bc P O G r l h Q X|.cont=>Q .cont l h|.ret v=>Q (.ret v) l h
def cH(X:k08)(l:Lc):QV:=λv h=>X v l h
def uN(c:Bool)(x:Nat)(l:Lc)(Q:k02):QV:=λv h=>ez G [(c,x)] [v] l h (Q .next)
def pJ(ts:k28)(l:Lc)(Q:k02):QV:=λv h=>ay v.seq? λxs=>ez G ts xs l h (Q .next)
def z9(x y:Nat)(u:V)(l:Lc)(Q:k02):QV:=λv h=>Q .next (upd (upd l y v) x u) h
def Hq(x y:Nat)(b:E)(l:Lc)(Q:k02)(X:k08):QV:=λu h=>au P O G b false l h (z9 x y u l Q) (cH X l)
def k6(l:Lc)(Q:k02):H->Prop:=λh=>Q .next l h
def zZ(f:Nat)(v:V)(l:Lc)(Q:k02):QV:=λa h=>ay (ml h a f v) (k6 l Q)
def rT(o:E)(f:Nat)(l:Lc)(Q:k02)(X:k08):QV:=λv h=>au P O G o false l h (zZ f v l Q) (cH X l)
def z6(v a:V)(l:Lc)(Q:k02):QV:=λk h=>ay (ki h a k v) (k6 l Q)
def z5(i:E)(v:V)(l:Lc)(Q:k02)(X:k08):QV:=λa h=>au P O G i false l h (z6 v a l Q) (cH X l)
def Ho(o i:E)(l:Lc)(Q:k02)(X:k08):QV:=λv h=>au P O G o false l h (z5 P O G i v l Q X) (cH X l)
def zx(a:V)(f:Nat)(l:Lc)(h:H)(Q:k02):V->Prop:=λr=>ay (ml h a f r) (k6 l Q)
def zw(a:V)(f:Nat)(d:eS)(u:V)(l:Lc)(Q:k02):QV:=λv h=>ay (f5 d u v) (zx a f l h Q)
def zv(a:V)(f:Nat)(d:eS)(e:E)(l:Lc)(h:H)(Q:k02)(X:k08):V->Prop:=λu=>au P O G e false l h (zw a f d u l Q) (cH X l)
def GS(f:Nat)(d:eS)(e:E)(l:Lc)(Q:k02)(X:k08):QV:=λa h=>ay (jT h a f) (zv P O G a f d e l h Q X)
def zC(a k:V)(l:Lc)(h:H)(Q:k02):V->Prop:=λr=>ay (ki h a k r) (k6 l Q)
def zB(a k:V)(d:eS)(u:V)(l:Lc)(Q:k02):QV:=λv h=>ay (f5 d u v) (zC a k l h Q)
def zA(a k:V)(d:eS)(e:E)(l:Lc)(h:H)(Q:k02)(X:k08):V->Prop:=λu=>au P O G e false l h (zB a k d u l Q) (cH X l)
def zz(a:V)(d:eS)(e:E)(l:Lc)(Q:k02)(X:k08):QV:=λk h=>ay (bM h a k) (zA P O G a k d e l h Q X)
def GV(i:E)(d:eS)(e:E)(l:Lc)(Q:k02)(X:k08):QV:=λa h=>au P O G i false l h (zz P O G a d e l Q X) (cH X l)
def Ha(l:Lc)(Q:k02):QV:=λU h=>Q .next l h
def uR(a b:Ss)(l:Lc)(Q:k02)(X:k08):QV:=λx h=>ay (x.jO some) λc=>if c then bc P O G a l h Q X else bc P O G b l h Q X
def dY(c:E)(X:k08):Lc->H->(Bool->H->Prop)->Prop:=λl h K=>au P O G c true l h (λx h=>ay (x.jO some) λr=>K r h) (λv h=>X v l h)
def en(b:Ss)(X:k08):Lc->H->(Fl->Lc->H->Prop)->Prop:=λl h K=>bc P O G b l h K X
def gX(ts:k06)(b:Ss):V->Lc->H->(Fl->Lc->H->Prop)->Prop:=λx l h K=>ay (f6 ts x l) λl=>bc P O G b l h K (λU U U=>False)
def rR(ts:k06)(d:Bool)(b:Ss)(l:Lc)(Q:k02):QV:=λv h=>match pinned d v h with
 |some p=>p.2.length<=1000/\cF (λh=>pins (h p.1) p.2) (gX P O G ts b) (p.2.map λp=>.gk p.1) l (h.set p.1 (.pin p.2))
  (λf l h=>f=.next/\Q .next l (h.set p.1 (.live (.aU p.2))))
 |none=>ay (eA d v h) λxs=>xs.length<=1000/\cF (cE d v xs) (gX P O G ts b) xs l h Q
def Hl(l:Lc)(Q:k02):QV:=λv h=>Q (.ret v) l h
def zX(l:Lc)(X:k08):QV:=λv h=>X v l h
def uS(x:Nat)(Q:k02):V->Lc->H->Prop:=λv l h=>Q .next (upd l x v) h
@[simp]def aeP:(!true)=false:=rfl
@[simp]def aeK:(!false)=true:=rfl
@[simp]def aeO(b:Bool):(true&&b)=b:=rfl
@[simp]def aeJ(b:Bool):(false&&b)=false:=rfl
@[simp]def aeL(b:Bool):(false||b)=b:=rfl
@[simp]def aeM{af aK:Type}(f:af->aK)(a:af)(l:List af):(a::l).map f=f a::l.map f:=rfl
@[simp]def aeN{af aK:Type}(f:af->aK):([]:List af).map f=[]:=rfl
@[simp]def I3(t l h Q X):au P O G .none t l h Q X=tq t Q .none h:=rfl
@[simp]def WZ(t l h Q X):au P O G .tt t l h Q X=tq t Q (.bool true) h:=rfl
@[simp]def ae1(t l h Q X):au P O G .ff t l h Q X=tq t Q (.bool false) h:=rfl
@[simp]def AW(i t l h Q X):au P O G (.int i) t l h Q X=tq t Q (.int i) h:=rfl
@[simp]def afa(n t l h Q X):au P O G (.str n) t l h Q X=tq t Q (.str n) h:=rfl
@[simp]def oj(x t l h Q X):au P O G (.loc x) t l h Q X=ay (l x) (nV t Q h):=rfl
@[simp]def AV(x t l h Q X):au P O G (.ba x) t l h Q X=ay (P.gl x) (nV t Q h):=rfl
@[simp]def aeX(e f t l h Q X):au P O G (.attr e f) t l h Q X=au P O G e false l h (GX f t Q) X:=rfl
@[simp]def AX(e i t l h Q X):au P O G (.item e i) t l h Q X=au P O G e false l h (Hb P O G i t l Q X) X:=rfl
@[simp]def I6(e i t l h Q X):au P O G (.oq e i) t l h Q X=au P O G e false l h (Hn P O G i t l Q X) X:=rfl
@[simp]def ae9(e k t l h Q X):au P O G (.qk e k) t l h Q X=au P O G e false l h (z8 k t Q) X:=rfl
@[simp]def I0(d a b t l h Q X):au P O G (.cmp d a b) t l h Q X=au P O G a false l h (G6 P O G d b l Q X) X:=rfl
@[simp]def aeW(a b t l h Q X):au P O G (.mT a b) t l h Q X=au P O G a t l h (GW P O G b t l Q X) X:=rfl
@[simp]def I4(a b t l h Q X):au P O G (.eP a b) t l h Q X=au P O G a t l h (Hi P O G b t l Q X) X:=rfl
@[simp]def ae5(a t l h Q X):au P O G (.not a) t l h Q X=au P O G a t l h (Hh Q) X:=rfl
@[simp]def WT(d a b t l h Q X):au P O G (.bin d a b) t l h Q X=au P O G a false l h (G1 P O G d b t l Q X) X:=rfl
@[simp]def ae2(c a b t l h Q X):au P O G (.ite c a b) t l h Q X=au P O G c true l h (zM P O G a b t l Q X) X:=rfl
@[simp]def WY(z xs t l h Q X):au P O G (.lst z xs) t l h Q X=cM P O G xs l h (iF z t Q) X:=rfl
@[simp]def afb(xs t l h Q X):au P O G (.tup xs) t l h Q X=cM P O G xs l h (Hr t Q) X:=rfl
@[simp]def aeZ(t l h Q X):au P O G (.kI true) t l h Q X=alloc h (.aU []) (gK t Q):=rfl
@[simp]def ae0(t l h Q X):au P O G (.kI false) t l h Q X=alloc h (.fc []) (gK t Q):=rfl
@[simp]def ae7(d vs t l h Q X):au P O G (.dp d vs) t l h Q X=cM P O G vs l h (Hm d t Q) X:=rfl
@[simp]def WV(z e ts d u cs t l h Q X):au P O G (.comp z e ts d u cs) t l h Q X=au P O G u false l h (pI P O G z e ts d cs t Q) X:=rfl
@[simp]def ae6(z x n t l h Q X):au P O G (.rep z x n) t l h Q X=au P O G x false l h (Hk P O G z n t l Q X) X:=rfl
@[simp]def WU(f as t l h Q X):au P O G (.call f as) t l h Q X=au P O G f false l h (G3 P O G as t l Q X) X:=rfl
@[simp]def ae4(o m as t l h Q X):au P O G (.gj o m as) t l h Q X=au P O G o false l h (zR P O G m as t l Q X) X:=rfl
@[simp]def WX(e t l h Q X):au P O G (.len e) t l h Q X=au P O G e false l h (j5 t Q) X:=rfl
@[simp]def ae3(a b t l h Q X):au P O G (.max a b) t l h Q X=au P O G a false l h (Hc P O G b t l Q X) X:=rfl
@[simp]def ae8(e t l h Q X):au P O G (.sorted e) t l h Q X=au P O G e false l h (Hp t Q) X:=rfl
@[simp]def I1(l h Q X):cM P O G .nil l h Q X=Q [] h:=rfl
@[simp]def WW(e r l h Q X):cM P O G (.cons e r) l h Q X=au P O G e false l h (G9 P O G r l Q X) X:=rfl
@[simp]def aaJ(f t Q v h):GX f t Q v h=ay (jT h v f) (nV t Q h):=rfl
@[simp]def mR(t Q v h):gK t Q v h=tq t Q v h:=rfl
@[simp]def kz(t Q v h):nV t Q h v=tq t Q v h:=rfl
@[simp]def wi(i t l Q X v h):Hb P O G i t l Q X v h=au P O G i false l h (zL v t Q) X:=rfl
@[simp]def wj(v t Q k h):zL v t Q k h=ay (bM h v k) (nV t Q h):=rfl
@[simp]def Co(i t l Q X v h):Hn P O G i t l Q X v h=au P O G i false l h (z0 v t Q) X:=rfl
@[simp]def Cp(xs t Q n h):z0 (.fz xs) t Q (.int n) h=((0<=n/\xs.length<=1000)/\tq t Q (.fz (xs.drop n.toNat)) h):=rfl
@[simp]def Mi(k t Q xs h):z8 k t Q (.tup xs) h=((0<k/\k<xs.length/\xs.length<=1000)/\tq t Q (.tup (xs.take k)) h):=rfl
@[simp]def Cg(d b l Q X x h):G6 P O G d b l Q X x h=au P O G b false l h (zG d x Q) X:=rfl
@[simp]def Ch(d x Q y h):zG d x Q y h=ay (gC h d x y) (G2 Q h):=rfl
@[simp]def Cf(Q h r):G2 Q h r=Q (.bool r) h:=rfl
@[simp]def aaI(b t l Q X x h):GW P O G b t l Q X x h=ay (truthy h x) (uM P O G b t l Q X x h):=rfl
@[simp]def aaH(b t l Q X x h):uM P O G b t l Q X x h true=au P O G b t l h Q X:=rfl
@[simp]def aaG(b t l Q X x h):uM P O G b t l Q X x h false=Q x h:=rfl
@[simp]def Cm(b t l Q X x h):Hi P O G b t l Q X x h=ay (truthy h x) (uQ P O G b t l Q X x h):=rfl
@[simp]def Mh(b t l Q X x h):uQ P O G b t l Q X x h true=Q x h:=rfl
@[simp]def Mg(b t l Q X x h):uQ P O G b t l Q X x h false=au P O G b t l h Q X:=rfl
@[simp]def aaW(Q x h):Hh Q x h=ay (truthy h x) (zT Q h):=rfl
@[simp]def aaV(Q h c):zT Q h c=Q (.bool (!c)) h:=rfl
@[simp]def L8(d b t l Q X x h):G1 P O G d b t l Q X x h=au P O G b false l h (zE d x t Q) X:=rfl
@[simp]def wh(d x t Q y h):zE d x t Q y h=ay (f5 d x y) (nV t Q h):=rfl
@[simp]def aaL(a b t l Q X h):zM P O G a b t l Q X (.bool true) h=au P O G a t l h Q X:=rfl
@[simp]def aaK(a b t l Q X h):zM P O G a b t l Q X (.bool false) h=au P O G b t l h Q X:=rfl
@[simp]def Me(t Q vs h):iF false t Q vs h=(vs.length<=1000/\alloc h (.list vs) (gK t Q)):=rfl
@[simp]def wl(t Q vs h):iF true t Q vs h=(vs.length<=1000/\tq t Q (.fz vs) h):=rfl
@[simp]def aa1(t Q vs h):Hr t Q vs h=(vs.length<=1000/\tq t Q (.tup vs) h):=rfl
@[simp]def aaY(d t Q vs h):Hm d t Q vs h=(d.length=vs.length/\alloc h (.dp (d.zip vs)) (gK t Q)):=rfl
@[simp]def aaX(z n t l Q X v h):Hk P O G z n t l Q X v h=au P O G n false l h (zY z v t Q) X:=rfl
@[simp]def Cn(z v t Q i h):zY z v t Q (.int i) h=(-200<i/\i<200/\iF z t Q (List.replicate i.toNat v) h):=rfl
@[simp]def Ma(as t l Q X c h):G3 P O G as t l Q X c h=cM P O G as l h (uP O c t Q X) X:=rfl
@[simp]def L9(c t Q X vs h):uP O c t Q X vs h=O c vs h (gK t Q) X:=rfl
@[simp]def aaR(a g t Q X vs h):He O a g t Q X vs h=O (.fn g) (.ref a::vs) h (gK t Q) X:=rfl
@[simp]def aaS(t Q v h):zS t Q (v,h)=tq t Q v h:=rfl
@[simp]def aaO(g a m t Q vs h):zQ g a m t Q vs h=ay (j7 g h a m vs) (zS t Q):=rfl
def Mf(t Q vs h):Hg t Q vs h=(vs=[.fz []]/\tq t Q .none h):=rfl
def rS(m:Nat)(as:Es)(t:Bool)(l:Lc)(Q X:QV)(a:Nm)(h:H)(s:Slot):Prop:=ay (AZ a m s) (Hf P O G m as t l Q X h)
@[simp]def aaP(m as t l Q X a h):zR P O G m as t l Q X (.ref a) h=rS P O G m as t l Q X a h (h a):=rfl
@[simp]def aaQ(m as t l Q X xs h):zR P O G m as t l Q X (.fz xs) h=((m=3/\xs.length<=1000)/\cM P O G as l h (Hg t Q) X):=rfl
@[simp]def aaU(m as t l Q X a h xs):rS P O G m as t l Q X a h (.live (.list xs))=(m<3/\cM P O G as l h (zQ false a m t Q) X):=rfl
@[simp]def aaT(m as t l Q X a h es):rS P O G m as t l Q X a h (.live (.aU es))=((m=1\/m=4\/m=5)/\cM P O G as l h (zQ true a m t Q) X):=rfl
@[simp]def Md(t Q xs h):j5 t Q (.fz xs) h=(xs.length<=1000/\tq t Q (.int xs.length) h):=rfl
@[simp]def Ck(t Q xs h):j5 t Q (.tup xs) h=(xs.length<=1000/\tq t Q (.int xs.length) h):=rfl
@[simp]def Cj(t Q a h):j5 t Q (.ref a) h=ay (fR h (.ref a)) (zN t Q h):=rfl
@[simp]def Ci(t Q h xs):zN t Q h xs=(xs.length<=1000/\tq t Q (.int xs.length) h):=rfl
@[simp]def aaN(b t l Q X x h):Hc P O G b t l Q X x h=au P O G b false l h (zP x t Q) X:=rfl
@[simp]def aaM(i j t Q h):zP (.int i) t Q (.int j) h=tq t Q (.int (if j>i then j else i)) h:=rfl
@[simp]def aa0(t Q v h):Hp t Q v h=ay (ot h v) (z7 t Q h):=rfl
@[simp]def aaZ(t Q h xs):z7 t Q h xs=tq t Q (.fz xs) h:=rfl
@[simp]def Mb(r l Q X v h):G9 P O G r l Q X v h=cM P O G r l h (zK v Q) X:=rfl
@[simp]def Mc(v Q vs h):zK v Q vs h=Q (v::vs) h:=rfl
@[simp]def vy(l h Q X):bc P O G .nil l h Q X=Q .next l h:=rfl
@[simp]def iN(s r l h Q X):bc P O G (.cons s r) l h Q X=wpS P O G s l h (ju P O G r Q X) X:=rfl
@[simp]def iO(r Q X l h):ju P O G r Q X .next l h=bc P O G r l h Q X:=rfl
@[simp]def vz(r Q X v l h):ju P O G r Q X (.ret v) l h=Q (.ret v) l h:=rfl
@[simp]def agP(r Q X l h):ju P O G r Q X .cont l h=Q .cont l h:=rfl
@[simp]def sy(c x e l h Q X):wpS P O G (.asg c x e) l h Q X=au P O G e false l h (uN G c x l Q) (cH X l):=rfl
@[simp]def om(x l Q v h):uN G false x l Q v h=Q .next (upd l x v) h:=rfl
@[simp]def agT(ts e l h Q X):wpS P O G (.im ts e) l h Q X=au P O G e false l h (pJ G ts l Q) (cH X l):=rfl
@[simp]def agE(ts l Q xs h):pJ G ts l Q (.tup xs) h=ez G ts xs l h (Q .next):=rfl
@[simp]def agF(ts l Q xs h):pJ G ts l Q (.fz xs) h=ez G ts xs l h (Q .next):=rfl
@[simp]def agK(l h K):ez G [] [] l h K=K l h:=rfl
@[simp]def agL(x r v vs l h K):ez G ((false,x)::r) (v::vs) l h K=ez G r vs (upd l x v) h K:=rfl
@[simp]def agS(x y a b l h Q X):wpS P O G (.swap x y a b) l h Q X=au P O G a false l h (Hq P O G x y b l Q X) (cH X l):=rfl
@[simp]def agC(x y b l Q X u h):Hq P O G x y b l Q X u h=au P O G b false l h (z9 x y u l Q) (cH X l):=rfl
@[simp]def agD(x y u l Q v h):z9 x y u l Q v h=Q .next (upd (upd l y v) x u) h:=rfl
@[simp]def agQ(o f e l h Q X):wpS P O G (.fg o f e) l h Q X=au P O G e false l h (rT P O G o f l Q X) (cH X l):=rfl
@[simp]def agw(o f l Q X v h):rT P O G o f l Q X v h=au P O G o false l h (zZ f v l Q) (cH X l):=rfl
@[simp]def agx(f v l Q a h):zZ f v l Q a h=ay (ml h a f v) (k6 l Q):=rfl
@[simp]def agu(l Q h):k6 l Q h=Q .next l h:=rfl
@[simp]def agR(o i e l h Q X):wpS P O G (.ig o i e) l h Q X=au P O G e false l h (Ho P O G o i l Q X) (cH X l):=rfl
@[simp]def agy(o i l Q X v h):Ho P O G o i l Q X v h=au P O G o false l h (z5 P O G i v l Q X) (cH X l):=rfl
@[simp]def agz(i v l Q X a h):z5 P O G i v l Q X a h=au P O G i false l h (z6 v a l Q) (cH X l):=rfl
@[simp]def agA(v a l Q k h):z6 v a l Q k h=ay (ki h a k v) (k6 l Q):=rfl
@[simp]def agG(o f d e l h Q X):wpS P O G (.kB o f d e) l h Q X=au P O G o false l h (GS P O G f d e l Q X) (cH X l):=rfl
@[simp]def agi(f d e l Q X a h):GS P O G f d e l Q X a h=ay (jT h a f) (zv P O G a f d e l h Q X):=rfl
@[simp]def agj(a f d e l h Q X u):zv P O G a f d e l h Q X u=au P O G e false l h (zw a f d u l Q) (cH X l):=rfl
@[simp]def agk(a f d u l Q v h):zw a f d u l Q v h=ay (f5 d u v) (zx a f l h Q):=rfl
@[simp]def agl(a f l h Q r):zx a f l h Q r=ay (ml h a f r) (k6 l Q):=rfl
@[simp]def agH(o i d e l h Q X):wpS P O G (.mW o i d e) l h Q X=au P O G o false l h (GV P O G i d e l Q X) (cH X l):=rfl
@[simp]def agm(i d e l Q X a h):GV P O G i d e l Q X a h=au P O G i false l h (zz P O G a d e l Q X) (cH X l):=rfl
@[simp]def agn(a d e l Q X k h):zz P O G a d e l Q X k h=ay (bM h a k) (zA P O G a k d e l h Q X):=rfl
@[simp]def ago(a k d e l h Q X u):zA P O G a k d e l h Q X u=au P O G e false l h (zB a k d u l Q) (cH X l):=rfl
@[simp]def agp(a k d u l Q v h):zB a k d u l Q v h=ay (f5 d u v) (zC a k l h Q):=rfl
@[simp]def agq(a k l h Q r):zC a k l h Q r=ay (ki h a k r) (k6 l Q):=rfl
@[simp]def agJ(e l h Q X):wpS P O G (.ex e) l h Q X=au P O G e false l h (Ha l Q) (cH X l):=rfl
@[simp]def XI(l Q v h):Ha l Q v h=Q .next l h:=rfl
@[simp]def XP(c a b l h Q X):wpS P O G (.ite c a b) l h Q X=au P O G c true l h (uR P O G a b l Q X) (cH X l):=rfl
@[simp]def agB(a b l Q X h):uR P O G a b l Q X (.bool true) h=bc P O G a l h Q X:=rfl
@[simp]def XM(a b l Q X h):uR P O G a b l Q X (.bool false) h=bc P O G b l h Q X:=rfl
@[simp]def vA(c b l h Q X):wpS P O G (.gT c b) l h Q X=∃n,dJ (dY P O G c X) (en P O G b X) n l h Q:=rfl
@[simp]def XQ(ts d e b l h Q X):wpS P O G (.loop ts d e b) l h Q X=au P O G e false l h (rR P O G ts d b l Q) (cH X l):=rfl
@[simp]def agt(ts b l Q xs h):rR P O G ts false b l Q (.fz xs) h=(xs.length<=1000/\cF (cE false (.fz xs) xs) (gX P O G ts b) xs l h Q):=rfl
@[simp]def ags(ts b l Q xs h):rR P O G ts false b l Q (.tup xs) h=(xs.length<=1000/\cF (cE false (.tup xs) xs) (gX P O G ts b) xs l h Q):=rfl
@[simp]def XJ(ts b l Q n h):rR P O G ts true b l Q (.int n) h=ay (eA true (.int n) h) λxs=>xs.length<=1000/\cF (cE true (.int n) xs) (gX P O G ts b) xs l h Q:=rfl
@[simp]def agN(e l h Q X):wpS P O G (.ret e) l h Q X=au P O G e false l h (Hl l Q) (cH X l):=rfl
@[simp]def XK(l Q v h):Hl l Q v h=Q (.ret v) l h:=rfl
@[simp]def agO(l h Q X):wpS P O G .gP l h Q X=Q (.ret .none) l h:=rfl
@[simp]def agI(l h Q X):wpS P O G .cont l h Q X=Q .cont l h:=rfl
@[simp]def agM(e l h Q X):wpS P O G (.qa e) l h Q X=au P O G e false l h (zX l X) (zX l X):=rfl
@[simp]def agv(l X v h):zX l X v h=X v l h:=rfl
@[simp]def XO(l X v h):cH X l v h=X v l h:=rfl
@[simp]def XS(b x l h Q X):wpS P O G (.gR b x) l h Q X=bc P O G b l h Q (uS x Q):=rfl
@[simp]def XN(x Q v l h):uS x Q v l h=Q .next (upd l x v) h:=rfl
end
@[simp]def jg(l:Lc)(x:Nat)(v:V)(y:Nat):upd l x v y=if y=x then some v else l y:=rfl
def dP(Q:QV):Fl->Lc->H->Prop:=λf U h=>∃h',i6 h h'/\match f with|.ret v=>Q v h'|.next=>Q .none h'|.cont=>False
def kX(X:QV):V->Lc->H->Prop:=λv U h=>∃h',i6 h h'/\X v h'
def aR{Q:QV}(q:Q v h):dP Q (.ret v) l h:=#[h,λU=>.inl rfl,q]
def bt{Q:QV}(q:Q .none h):dP Q .next l h:=#[h,λU=>.inl rfl,q]
def KY{X:QV}(q:X v h):kX X v l h:=#[h,λU=>.inl rfl,q]
def bx:Ka:=λU=>none
def AI{ps:k28}(hp:(ps.all λp=> !p.1)=true)(l:Lc):jA ps l=l:=by funext x;unfold jA;rw[ak];intro h;obtain⟨p,D,G⟩:=List.any_eq_true.mp h;have:=gy.mp hp p D;simp_all
def rd{d:aB}(hd:az.fns k=some d)(hb:(d.frees.isEmpty&&(d.dE.isEmpty&&(d.cells.isEmpty&&d.params.all λp=> !p.1)))=true)
 (e:gB d.params args (λU=>none)=some l)(q:bc az (wG n) bx d.body l h (dP Q) (kX X)):wG (n+1) (.fn k) args h Q X:=by
 simp only[ja,cY]at hb;obtain⟨D,G,O,P⟩:=hb;refine xW hd D (CS G O e ?_);rw[AI P];exact q
def re{k n x:Nat}{d:aB}{h:H}{l:Lc}(a:Nm)(hd:az.fns k=some d)(hb:(d.frees.isEmpty&&d.dE.isEmpty)=true)(hx:d.cells=[x])
 (u:gB d.params args (λU=>none)=some l)(e:h a=.fresh)(q:bc az (wG n) (λy=>if y=x then some a else none) d.body (jA d.params l) (h.set a (.live (.cell (l x)))) (dP Q) (kX X)):wG (n+1) (.fn k) args h Q X:=by
 simp only[ja,cY]at hb;refine xW hd hb.1 ?_;unfold ei;rw[hb.2,hx];rw[List.append_nil,u];exact#[a,e,q]
def EM{k n x y:Nat}{d:aB}{h:H}{l:Lc}(a b:Nm)(hd:az.fns k=some d)(hb:(d.frees.isEmpty&&d.dE.isEmpty)=true)(hx:d.cells=[x,y])
 (B:gB d.params args (λU=>none)=some l)(u:h a=.fresh)(e:b≠a/\h b=.fresh)(q:bc az (wG n) (λz=>if z=y then some b else if z=x then some a else none) d.body (jA d.params l) ((h.set a (.live (.cell (l x)))).set b (.live (.cell (l y)))) (dP Q) (kX X)):wG (n+1) (.fn k) args h Q X:=by
 simp only[ja,cY]at hb;refine xW hd hb.1 ?_;unfold ei;rw[hb.2,hx];rw[List.append_nil,B];exact#[a,u,b,(ak e.1).trans e.2,q]
def Dh{c:H->Prop}{B:V->H->(Option V->H->Prop)->Prop}(f:V->Option V){Q:k21}(hc:c h):∀(xs:k00) (acc:k00),(∀x∈xs,∀K:Option V->H->Prop,K (f x) h->B x h K)->Q (acc++xs.filterMap f) h->gZ c B xs acc h Q
 |[],acc,_,q=>#[hc,by simpa using q]
 |x::xs,acc,hB,q=>#[hc,hB x (.head _) _ (Dh f hc xs _ (λy G=>hB y (.tail _ G)) (by
  cases D:f x<;>simp only[List.filterMap_cons,D]at q⊢
  .exact q
  .simpa using q))]
structure SR where
 nb:V
 q6:V
 pP:V
 bb:V
 cw:V
 cg:V
def oS(s:SR):Slot:=.live (.dp [(182,s.nb),(204,s.q6),(208,s.pP),(212,s.bb),(178,s.cw),(209,s.cg)])
structure BR where
 dU:V
 srv:V
 aC:V
 sound:V
 iC:Option V
def BR.fs(t:BR):List (Nat×V):=[(93,t.dU),(211,t.srv),(194,t.aC),(198,t.sound)]++(match t.iC with|some v=>[(185,v)]|none=>[])
def oB(t:BR):Slot:=.live (.dp t.fs)
def oZ(z:Option (List V)):Slot:=match z with|some h=>.live (.list h)|none=>.fresh
@[simp]def acC(h:H)(a:Nm)(n:Nat):bM h (.ref a) (.str n)=hV (h a) n:=rfl
@[simp]def agV(h:H)(a:Nm)(n:Nat)(x:V):ki h (.ref a) (.str n) x=(ik (h a) n x).map (h.set a):=rfl
@[simp]def ab8(t:SR):hV (oS t) 182=some t.nb:=rfl
@[simp]def afN(t:SR)(v:V):ik (oS t) 182 v=some (oS {t with nb:=v}):=rfl
@[simp]def ab9(t:SR):hV (oS t) 204=some t.q6:=rfl
@[simp]def afO(t:SR)(v:V):ik (oS t) 204 v=some (oS {t with q6:=v}):=rfl
@[simp]def aca(t:SR):hV (oS t) 208=some t.pP:=rfl
@[simp]def afP(t:SR)(v:V):ik (oS t) 208 v=some (oS {t with pP:=v}):=rfl
@[simp]def acd(t:SR):hV (oS t) 212=some t.bb:=rfl
@[simp]def afR(t:SR)(v:V):ik (oS t) 212 v=some (oS {t with bb:=v}):=rfl
@[simp]def ab7(t:SR):hV (oS t) 178=some t.cw:=rfl
@[simp]def afM(t:SR)(v:V):ik (oS t) 178 v=some (oS {t with cw:=v}):=rfl
@[simp]def acb(t:SR):hV (oS t) 209=some t.cg:=rfl
@[simp]def afQ(t:SR)(v:V):ik (oS t) 209 v=some (oS {t with cg:=v}):=rfl
@[simp]def abA(t:BR):hV (oB t) 93=some t.dU:=rfl
def XG(t:BR)(v:V):ik (oB t) 93 v=some (oB {t with dU:=v}):=by obtain⟨a,b,c,d,e⟩:=t;cases e<;>rfl
@[simp]def abz(t:BR):hV (oB t) 211=some t.srv:=rfl
def XF(t:BR)(v:V):ik (oB t) 211 v=some (oB {t with srv:=v}):=by obtain⟨a,b,c,d,e⟩:=t;cases e<;>rfl
@[simp]def abx(t:BR):hV (oB t) 194=some t.aC:=rfl
def XD(t:BR)(v:V):ik (oB t) 194 v=some (oB {t with aC:=v}):=by obtain⟨a,b,c,d,e⟩:=t;cases e<;>rfl
@[simp]def aby(t:BR):hV (oB t) 198=some t.sound:=rfl
def XE(t:BR)(v:V):ik (oB t) 198 v=some (oB {t with sound:=v}):=by obtain⟨a,b,c,d,e⟩:=t;cases e<;>rfl
def Qt(t:BR):hV (oB t) 185=t.iC:=by obtain⟨a,b,c,d,e⟩:=t;cases e<;>rfl
def XB(t:BR)(v:V):ik (oB t) 185 v=some (oB {t with iC:=some v}):=by obtain⟨a,b,c,d,e⟩:=t;cases e<;>rfl
structure Jk where
 g:Nat->Slot
 n:Nat
 fr:∀m,n<=m->g m=.fresh
def Jk.put(j:Jk)(s:Slot):Jk:=#[λm=>if m=j.n then s else j.g m,j.n+1,λm h=>by rw[ak (by lia)];exact j.fr m (by lia)]
def Jk.wr(j:Jk)(i:Nat)(s:Slot):Jk:=#[λm=>if m=i/\i<j.n then s else j.g m,j.n,λm h=>by rw[ak (by lia)];exact j.fr m (by lia)]
def Jk.le(j j':Jk):Prop:=j.n<=j'.n/\∀m,m<j.n->j'.g m=j.g m
def Jk.le_rfl(j:Jk):j.le j:=#[bG _,λU U=>rfl]
def Jk.le_trans{a b c:Jk}(h:a.le b)(k:b.le c):a.le c:=#[bk h.1 k.1,λm D=>(k.2 m (bU D h.1)).trans (h.2 m D)]
def Jk.jv(j:Jk)(s:Slot):j.le (j.put s):=#[Nat.le_succ _,λm h=>ak (Nat.ne_of_lt h)]
def Jk.mj(j:Jk)(s:Slot):(j.put s).g j.n=s:=al rfl
def Jk.vr(j:Jk)(s:Slot)(m:Nat)(h:m≠j.n):(j.put s).g m=j.g m:=ak h
def Jk.iZ(j:Jk)(i:Nat)(s:Slot)(h:i<j.n):(j.wr i s).g i=s:=al #[rfl,h]
def Jk.gn(j:Jk)(i:Nat)(s:Slot)(m:Nat)(h:m≠i):(j.wr i s).g m=j.g m:=ak (λk=>h k.1)
def uF{af:Type}(F:Nat->af)(i:Nat)(t:af):Nat->af:=λk=>if k=i then t else F k
def aD{af:Type}(F:Nat->af)(i:Nat)(t:af):uF F i t i=t:=al rfl
def aO{af:Type}(F:Nat->af)(i k:Nat)(t:af)(h:k≠i):uF F i t k=F k:=ak h
def fh{af:Type}(F:Nat->af)(i:Nat)(t u:af):uF (uF F i t) i u=uF F i u:=by funext k;unfold uF;split<;>rfl
def lw{af:Type}(F:Nat->af)(i:Nat):uF F i (F i)=F:=by funext k;unfold uF;split<;>simp_all
structure Lm where
 cl:Nat->CR
 nC:Nat
structure Lq where
 tq:Nat->List (Nat×V)
 ql:Nat->List V
 nQ:Nat
structure Ln where
 st:Nat->SR
 dl:Nat->List V
 mn:Nat->List V
structure Lp where
 ls:Nat->List V
 nL:Nat
 steps:List V
 now:Int
 zs:Option (List V)
structure Fso where
 nT:Nat
 nG:Nat
 nS:Nat
 gr:Nat->GR
 lim:Slot
 M:MR
 tb:BR
 aY:List V
 bC:List V
 o:H
structure Lr extends Lm,Lq
structure Ls extends Ln,Lp,Fso
structure Fs extends Lr,Ls where
 tk:Nat->TR
 sv:Nat->List V
 K:KR
 aC:List V
def tab(p:Nat->Prop)[DecidablePred p](g:Nat->Slot):Nat->Slot:=λi=>if p i then g i else .fresh
def bW(s:Slot):Nat->Slot
 |0=>s
 |_+1=>.fresh
def iL:List (Nat->Slot)->Nat->Nat->Slot
 |[]=>λU U=>.fresh
 |c::r=>λk=>match k with|0=>c|k+1=>iL r k
def Au:∀{l:k32} {k:Nat},k<l.length->iL (l.set k c) k=c
 |[],_,h=>absurd h (Nat.not_lt_zero _)
 |_::_,0,_=>rfl
 |_::r,k+1,h=>Au (l:=r) (Nat.lt_of_succ_lt_succ (show k+1<r.length+1 from h))
def H8:∀{l:k32} {k y:Nat},y≠k->iL (l.set k c) y=iL l y
 |[],_,_,_=>rfl
 |_::_,0,0,h=>absurd rfl h
 |_::_,0,_+1,_=>rfl
 |_::_,_+1,0,_=>rfl
 |_::r,_+1,_+1,h=>H8 (l:=r) λe=>h (aq _ e)
def fU{af:Type}{p:Nat->Prop}[DecidablePred p]{o:af->Slot}{F:Nat->af}{t:af}(h:p i):tab p (λz=>o (uF F i t z)) i=o t:=(al h).trans (aq o (aD F i t))
def gQ{af:Type}{p:Nat->Prop}[DecidablePred p]{o:af->Slot}{F:Nat->af}{t:af}(z:Nat)(h:z≠i):tab p (λz=>o (uF F i t z)) z=tab p (λz=>o (F z)) z:=by show(if p z then o (uF F i t z)else Slot.fresh)=_;rw[aO F i z t h];rfl
def lr{p p':Nat->Prop}[DecidablePred p][DecidablePred p'](h:∀z,z≠i->(p' z↔p z))(z:Nat)(hz:z≠i):tab p' g z=tab p g z:=by
 unfold tab;by_cases e:p z
 .rw[al e,al ((h z hz).mpr e)]
 .rw[ak e,ak (λk=>e ((h z hz).mp k))]
def jx(z:Nat)(h:z≠n):z<n+1↔z<n:=#[λk=>Nat.lt_of_le_of_ne (Nat.le_of_lt_succ k) h,λk=>Nat.lt_succ_of_lt k]
def lm(z:Nat)(h:z≠0):bW s z=bW s' z:=by
 cases z with
 |zero=>exact absurd rfl h
 |succ z=>rfl
def cv(D:Fs):List (Nat->Slot):=[tab (λi=>i<D.nC) (λi=>oC (D.cl i)),bW (.live (.inst 1 [(33,.int D.now)])),tab (λi=>i<D.nT) (λi=>oT (D.tk i)),tab (λi=>i<D.nG) (λi=>oG (D.gr i)),bW (D.lim),bW (oM D.M),bW (oK D.K),tab (λi=>i<D.nT\/(50<=i/\i<50+D.nG)) (λi=>.live (.aU (D.tq i))),λU=>.fresh,tab (λi=>i<D.nQ) (λi=>.live (.list (D.ql i))),tab (λi=>i<D.nT) (λi=>.live (.list (D.sv i))),tab (λi=>i<D.nS) (λi=>oS (D.st i)),tab (λi=>i<D.nS) (λi=>.live (.list (D.dl i))),tab (λi=>i<D.nS) (λi=>.live (.list (D.mn i))),bW (oB D.tb),bW (.live (.list D.aC)),bW (.live (.list D.steps)),bW (.live (.list D.aY)),bW (.live (.list D.bC)),tab (λi=>i<D.nL) (λi=>.live (.list (D.ls i))),bW (oZ D.zs)]
def er(f:Nat)(l:k32)(j:Jk)(o:H):H:=λa=>if a.f=f then iL l a.k a.i else if a.f=f+2/\a.k=0 then j.g a.i else o a
def cL{l:k32}(k:Nat)(c:Nat->Slot)(hk:k<l.length)(d:c i=s)(u:∀z,z≠i->c z=iL l k z):(er f l j o).set #[f,k,i] s=er f (l.set k c) j o:=by
 funext #[x,y,z];by_cases e:(#[x,y,z]:Nm)=#[f,k,i]
 .cases e;exact(al rfl).trans (((al rfl).trans ((congrFun (Au hk) _).trans d)).symm)
 .refine(ak e).trans ?_;unfold er;by_cases h:x=f
  .cases h;rw[al rfl,al rfl];by_cases D:y=k
   .cases D;rw[Au hk];exact(u z λhz=>e (by rw[hz])).symm
   .rw[H8 D]
  .rw[ak h,ak h]
def cp(D:Fs)(k i:Nat):Slot:=iL (cv D) k i
def hp(f:Nat)(D:Fs)(j:Jk):H:=er f (cv D) j D.o
def cy(f:Nat)(D:Fs)(j:Jk)(k i:Nat):hp f D j #[f,k,i]=cp D k i:=al rfl
def qc(f:Nat)(D:Fs)(j:Jk)(m:Nat):hp f D j #[f+2,0,m]=j.g m:=by unfold hp er;rw[ak (by simp),al #[rfl,rfl]]
def kO(f:Nat)(D:Fs)(j:Jk):hp f D j #[f+2,0,j.n]=.fresh:=by rw[qc];exact j.fr _ (bG _)
def JC(f:Nat)(D:Fs)(j j':Jk)(m:Nat)(s:Slot)(d:j'.g m=s)(u:∀z,z≠m->j'.g z=j.g z):(hp f D j).set #[f+2,0,m] s=hp f D j':=by
 funext #[x,y,z];by_cases e:(#[x,y,z]:Nm)=#[f+2,0,m]
 .cases e;exact(al rfl).trans ((qc f D j' m).trans d).symm
 .refine(ak e).trans ?_;unfold hp er;by_cases G:x=f
  .rw[al G,al G]
  .rw[ak G,ak G];by_cases h:x=f+2/\y=0
   .rw[al h,al h];exact(u z λhz=>e (by rw[hz,h.1,h.2])).symm
   .rw[ak h,ak h]
def Cw(f:Nat)(D:Fs)(j:Jk)(s:Slot):(hp f D j).set #[f+2,0,j.n] s=hp f D (j.put s):=JC f D j (j.put s) j.n s (j.mj s) λz hz=>j.vr s z hz
def sR(f:Nat)(D:Fs)(j:Jk)(s:Slot)(m:Nat)(d:m<j.n):(hp f D j).set #[f+2,0,m] s=hp f D (j.wr m s):=JC f D j (j.wr m s) m s (j.iZ m s d) λz hz=>j.gn m s z hz
def Xe{f:Nat}{D:Fs}{j:Jk}{i:Nat}(h:i<D.nC):hp f D j #[f,0,i]=oC (D.cl i):=by rw[cy];exact al h
def Z5{f:Nat}{D:Fs}{j:Jk}{i:Nat}(h:i<D.nC)(t:CR):(hp f D j).set #[f,0,i] (oC t)=hp f {D with cl:=uF D.cl i t} j:=cL (f:=f) (l:=cv D) (j:=j) (o:=D.o) (s:=oC t) 0 (tab (λi=>i<D.nC) λz=>(λx:CR=>(oC x:Slot)) (uF D.cl i t z)) (aP rfl) (fU (p:=λi=>i<D.nC) (o:=λx:CR=>(oC x:Slot)) h) (gQ (p:=λi=>i<D.nC) (o:=λx:CR=>(oC x:Slot)) (F:=D.cl))
def ES(f:Nat)(D:Fs)(j:Jk):hp f D j #[f,0,D.nC]=.fresh:=by rw[cy];exact ak (fK _)
def Cv(f:Nat)(D:Fs)(j:Jk)(t:CR):(hp f D j).set #[f,0,D.nC] (oC t)=hp f {D with cl:=uF D.cl D.nC t,nC:=D.nC+1} j:=cL (f:=f) (l:=cv D) (j:=j) (o:=D.o) (s:=oC t) 0 (tab (λi=>i<D.nC+1) λz=>(λx:CR=>(oC x:Slot)) (uF D.cl D.nC t z)) (aP rfl) (fU (p:=λi=>i<D.nC+1) (o:=λx:CR=>(oC x:Slot)) (bA _)) λz hz=>(gQ (p:=λi=>i<D.nC+1) (o:=λx:CR=>(oC x:Slot)) (F:=D.cl) z hz).trans (lr (jx) z hz)
def sr{f:Nat}{D:Fs}{j:Jk}{i:Nat}(h:i<D.nT):hp f D j #[f,2,i]=oT (D.tk i):=by rw[cy];exact al h
def C'{f:Nat}{D:Fs}{j:Jk}{i:Nat}(h:i<D.nT)(t:TR):(hp f D j).set #[f,2,i] (oT t)=hp f {D with tk:=uF D.tk i t} j:=cL (f:=f) (l:=cv D) (j:=j) (o:=D.o) (s:=oT t) 2 (tab (λi=>i<D.nT) λz=>(λx:TR=>(oT x:Slot)) (uF D.tk i t z)) (aP rfl) (fU (p:=λi=>i<D.nT) (o:=λx:TR=>(oT x:Slot)) h) (gQ (p:=λi=>i<D.nT) (o:=λx:TR=>(oT x:Slot)) (F:=D.tk))
def vv{f:Nat}{D:Fs}{j:Jk}{i:Nat}(h:i<D.nG):hp f D j #[f,3,i]=oG (D.gr i):=by rw[cy];exact al h
def G'{f:Nat}{D:Fs}{j:Jk}{i:Nat}(h:i<D.nG)(t:GR):(hp f D j).set #[f,3,i] (oG t)=hp f {D with gr:=uF D.gr i t} j:=cL (f:=f) (l:=cv D) (j:=j) (o:=D.o) (s:=oG t) 3 (tab (λi=>i<D.nG) λz=>(λx:GR=>(oG x:Slot)) (uF D.gr i t z)) (aP rfl) (fU (p:=λi=>i<D.nG) (o:=λx:GR=>(oG x:Slot)) h) (gQ (p:=λi=>i<D.nG) (o:=λx:GR=>(oG x:Slot)) (F:=D.gr))
def Xq{f:Nat}{D:Fs}{j:Jk}{i:Nat}(h:i<D.nT\/(50<=i/\i<50+D.nG)):hp f D j #[f,7,i]=.live (.aU (D.tq i)):=by rw[cy];exact al h
def J'{f:Nat}{D:Fs}{j:Jk}{i:Nat}(h:i<D.nT\/(50<=i/\i<50+D.nG))(t:k16):(hp f D j).set #[f,7,i] (.live (.aU t))=hp f {D with tq:=uF D.tq i t} j:=cL (f:=f) (l:=cv D) (j:=j) (o:=D.o) (s:=.live (.aU t)) 7 (tab (λi=>i<D.nT\/(50<=i/\i<50+D.nG)) λz=>(λx:List (Nat×V)=>(.live (.aU x):Slot)) (uF D.tq i t z)) (aP rfl) (fU (p:=λi=>i<D.nT\/(50<=i/\i<50+D.nG)) (o:=λx:List (Nat×V)=>(.live (.aU x):Slot)) h) (gQ (p:=λi=>i<D.nT\/(50<=i/\i<50+D.nG)) (o:=λx:List (Nat×V)=>(.live (.aU x):Slot)) (F:=D.tq))
def Jf{f:Nat}{D:Fs}{j:Jk}{i:Nat}(h:i<D.nQ):hp f D j #[f,9,i]=.live (.list (D.ql i)):=by rw[cy];exact al h
def M'{f:Nat}{D:Fs}{j:Jk}{i:Nat}(h:i<D.nQ)(t:k00):(hp f D j).set #[f,9,i] (.live (.list t))=hp f {D with ql:=uF D.ql i t} j:=cL (f:=f) (l:=cv D) (j:=j) (o:=D.o) (s:=.live (.list t)) 9 (tab (λi=>i<D.nQ) λz=>(λx:List V=>(.live (.list x):Slot)) (uF D.ql i t z)) (aP rfl) (fU (p:=λi=>i<D.nQ) (o:=λx:List V=>(.live (.list x):Slot)) h) (gQ (p:=λi=>i<D.nQ) (o:=λx:List V=>(.live (.list x):Slot)) (F:=D.ql))
def xY(f:Nat)(D:Fs)(j:Jk):hp f D j #[f,9,D.nQ]=.fresh:=by rw[cy];exact ak (fK _)
def Mn(f:Nat)(D:Fs)(j:Jk)(t:k00):(hp f D j).set #[f,9,D.nQ] (.live (.list t))=hp f {D with ql:=uF D.ql D.nQ t,nQ:=D.nQ+1} j:=cL (f:=f) (l:=cv D) (j:=j) (o:=D.o) (s:=.live (.list t)) 9 (tab (λi=>i<D.nQ+1) λz=>(λx:List V=>(.live (.list x):Slot)) (uF D.ql D.nQ t z)) (aP rfl) (fU (p:=λi=>i<D.nQ+1) (o:=λx:List V=>(.live (.list x):Slot)) (bA _)) λz hz=>(gQ (p:=λi=>i<D.nQ+1) (o:=λx:List V=>(.live (.list x):Slot)) (F:=D.ql) z hz).trans (lr (jx) z hz)
def Xg{f:Nat}{D:Fs}{j:Jk}{i:Nat}(h:i<D.nT):hp f D j #[f,10,i]=.live (.list (D.sv i)):=by rw[cy];exact al h
def Z7{f:Nat}{D:Fs}{j:Jk}{i:Nat}(h:i<D.nT)(t:k00):(hp f D j).set #[f,10,i] (.live (.list t))=hp f {D with sv:=uF D.sv i t} j:=cL (f:=f) (l:=cv D) (j:=j) (o:=D.o) (s:=.live (.list t)) 10 (tab (λi=>i<D.nT) λz=>(λx:List V=>(.live (.list x):Slot)) (uF D.sv i t z)) (aP rfl) (fU (p:=λi=>i<D.nT) (o:=λx:List V=>(.live (.list x):Slot)) h) (gQ (p:=λi=>i<D.nT) (o:=λx:List V=>(.live (.list x):Slot)) (F:=D.sv))
def Xh{f:Nat}{D:Fs}{j:Jk}{i:Nat}(h:i<D.nS):hp f D j #[f,11,i]=oS (D.st i):=by rw[cy];exact al h
def Z8{f:Nat}{D:Fs}{j:Jk}{i:Nat}(h:i<D.nS)(t:SR):(hp f D j).set #[f,11,i] (oS t)=hp f {D with st:=uF D.st i t} j:=cL (f:=f) (l:=cv D) (j:=j) (o:=D.o) (s:=oS t) 11 (tab (λi=>i<D.nS) λz=>(λx:SR=>(oS x:Slot)) (uF D.st i t z)) (aP rfl) (fU (p:=λi=>i<D.nS) (o:=λx:SR=>(oS x:Slot)) h) (gQ (p:=λi=>i<D.nS) (o:=λx:SR=>(oS x:Slot)) (F:=D.st))
def Xi{f:Nat}{D:Fs}{j:Jk}{i:Nat}(h:i<D.nS):hp f D j #[f,12,i]=.live (.list (D.dl i)):=by rw[cy];exact al h
def Z9{f:Nat}{D:Fs}{j:Jk}{i:Nat}(h:i<D.nS)(t:k00):(hp f D j).set #[f,12,i] (.live (.list t))=hp f {D with dl:=uF D.dl i t} j:=cL (f:=f) (l:=cv D) (j:=j) (o:=D.o) (s:=.live (.list t)) 12 (tab (λi=>i<D.nS) λz=>(λx:List V=>(.live (.list x):Slot)) (uF D.dl i t z)) (aP rfl) (fU (p:=λi=>i<D.nS) (o:=λx:List V=>(.live (.list x):Slot)) h) (gQ (p:=λi=>i<D.nS) (o:=λx:List V=>(.live (.list x):Slot)) (F:=D.dl))
def Jd{f:Nat}{D:Fs}{j:Jk}{i:Nat}(h:i<D.nS):hp f D j #[f,13,i]=.live (.list (D.mn i)):=by rw[cy];exact al h
def a'{f:Nat}{D:Fs}{j:Jk}{i:Nat}(h:i<D.nS)(t:k00):(hp f D j).set #[f,13,i] (.live (.list t))=hp f {D with mn:=uF D.mn i t} j:=cL (f:=f) (l:=cv D) (j:=j) (o:=D.o) (s:=.live (.list t)) 13 (tab (λi=>i<D.nS) λz=>(λx:List V=>(.live (.list x):Slot)) (uF D.mn i t z)) (aP rfl) (fU (p:=λi=>i<D.nS) (o:=λx:List V=>(.live (.list x):Slot)) h) (gQ (p:=λi=>i<D.nS) (o:=λx:List V=>(.live (.list x):Slot)) (F:=D.mn))
def Xm{f:Nat}{D:Fs}{j:Jk}{i:Nat}(h:i<D.nL):hp f D j #[f,19,i]=.live (.list (D.ls i)):=by rw[cy];exact al h
def A'{f:Nat}{D:Fs}{j:Jk}{i:Nat}(h:i<D.nL)(t:k00):(hp f D j).set #[f,19,i] (.live (.list t))=hp f {D with ls:=uF D.ls i t} j:=cL (f:=f) (l:=cv D) (j:=j) (o:=D.o) (s:=.live (.list t)) 19 (tab (λi=>i<D.nL) λz=>(λx:List V=>(.live (.list x):Slot)) (uF D.ls i t z)) (aP rfl) (fU (p:=λi=>i<D.nL) (o:=λx:List V=>(.live (.list x):Slot)) h) (gQ (p:=λi=>i<D.nL) (o:=λx:List V=>(.live (.list x):Slot)) (F:=D.ls))
def EU(f:Nat)(D:Fs)(j:Jk):hp f D j #[f,19,D.nL]=.fresh:=by rw[cy];exact ak (fK _)
def Mm(f:Nat)(D:Fs)(j:Jk)(t:k00):(hp f D j).set #[f,19,D.nL] (.live (.list t))=hp f {D with ls:=uF D.ls D.nL t,nL:=D.nL+1} j:=cL (f:=f) (l:=cv D) (j:=j) (o:=D.o) (s:=.live (.list t)) 19 (tab (λi=>i<D.nL+1) λz=>(λx:List V=>(.live (.list x):Slot)) (uF D.ls D.nL t z)) (aP rfl) (fU (p:=λi=>i<D.nL+1) (o:=λx:List V=>(.live (.list x):Slot)) (bA _)) λz hz=>(gQ (p:=λi=>i<D.nL+1) (o:=λx:List V=>(.live (.list x):Slot)) (F:=D.ls) z hz).trans (lr (jx) z hz)
def Xf{f:Nat}{D:Fs}{j:Jk}:hp f D j #[f,1,0]=.live (.inst 1 [(33,.int D.now)]):=cy _ _ _ _ _
def Z6{f:Nat}{D:Fs}{j:Jk}(t:Int):(hp f D j).set #[f,1,0] (.live (.inst 1 [(33,.int t)]))=hp f {D with now:=t} j:=cL (f:=f) (l:=cv D) (j:=j) (o:=D.o) (s:=.live (.inst 1 [(33,.int t)])) 1 (bW (.live (.inst 1 [(33,.int t)]))) (aP rfl) rfl lm
def Xn{D:Fs}:hp f D j #[f,4,0]=D.lim:=cy _ _ _ _ _
def Xo{f:Nat}{D:Fs}{j:Jk}:hp f D j #[f,5,0]=oM D.M:=cy _ _ _ _ _
def H'{f:Nat}{D:Fs}{j:Jk}(t:MR):(hp f D j).set #[f,5,0] (oM t)=hp f {D with M:=t} j:=cL (f:=f) (l:=cv D) (j:=j) (o:=D.o) (s:=oM t) 5 (bW (oM t)) (aP rfl) rfl lm
def Xp{f:Nat}{D:Fs}{j:Jk}:hp f D j #[f,6,0]=oK D.K:=cy _ _ _ _ _
def I'{f:Nat}{D:Fs}{j:Jk}(t:KR):(hp f D j).set #[f,6,0] (oK t)=hp f {D with K:=t} j:=cL (f:=f) (l:=cv D) (j:=j) (o:=D.o) (s:=oK t) 6 (bW (oK t)) (aP rfl) rfl lm
def Xj{f:Nat}{D:Fs}{j:Jk}:hp f D j #[f,14,0]=oB D.tb:=cy _ _ _ _ _
def b'{f:Nat}{D:Fs}{j:Jk}(t:BR):(hp f D j).set #[f,14,0] (oB t)=hp f {D with tb:=t} j:=cL (f:=f) (l:=cv D) (j:=j) (o:=D.o) (s:=oB t) 14 (bW (oB t)) (aP rfl) rfl lm
def Xk{f:Nat}{D:Fs}{j:Jk}:hp f D j #[f,15,0]=.live (.list D.aC):=cy _ _ _ _ _
def r'{f:Nat}{D:Fs}{j:Jk}(t:k00):(hp f D j).set #[f,15,0] (.live (.list t))=hp f {D with aC:=t} j:=cL (f:=f) (l:=cv D) (j:=j) (o:=D.o) (s:=.live (.list t)) 15 (bW (.live (.list t))) (aP rfl) rfl lm
def Xl{f:Nat}{D:Fs}{j:Jk}:hp f D j #[f,16,0]=.live (.list D.steps):=cy _ _ _ _ _
def u'{f:Nat}{D:Fs}{j:Jk}(t:k00):(hp f D j).set #[f,16,0] (.live (.list t))=hp f {D with steps:=t} j:=cL (f:=f) (l:=cv D) (j:=j) (o:=D.o) (s:=.live (.list t)) 16 (bW (.live (.list t))) (aP rfl) rfl lm
def iM{f:Nat}{D:Fs}{j:Jk}:hp f D j #[f,17,0]=.live (.list D.aY):=cy _ _ _ _ _
def y'{f:Nat}{D:Fs}{j:Jk}(t:k00):(hp f D j).set #[f,17,0] (.live (.list t))=hp f {D with aY:=t} j:=cL (f:=f) (l:=cv D) (j:=j) (o:=D.o) (s:=.live (.list t)) 17 (bW (.live (.list t))) (aP rfl) rfl lm
def qb{f:Nat}{D:Fs}{j:Jk}:hp f D j #[f,18,0]=.live (.list D.bC):=cy _ _ _ _ _
def z'{f:Nat}{D:Fs}{j:Jk}(t:k00):(hp f D j).set #[f,18,0] (.live (.list t))=hp f {D with bC:=t} j:=cL (f:=f) (l:=cv D) (j:=j) (o:=D.o) (s:=.live (.list t)) 18 (bW (.live (.list t))) (aP rfl) rfl lm
def Je{f:Nat}{D:Fs}{j:Jk}:hp f D j #[f,20,0]=oZ D.zs:=cy _ _ _ _ _
def KL{f:Nat}{D:Fs}{j:Jk}(t:k00):(hp f D j).set #[f,20,0] (.live (.list t))=hp f {D with zs:=some t} j:=cL (f:=f) (l:=cv D) (j:=j) (o:=D.o) (s:=.live (.list t)) 20 (bW (.live (.list t))) (aP rfl) rfl lm
@[simp]def aa3(h a b):gC h .eq a b=eh h a b:=rfl
@[simp]def aba(h a b):gC h .ne a b=(eh h a b).map (!·):=rfl
@[simp]def aa7(h a):gC h .is a .none=some (ev a):=rfl
@[simp]def CW(h a):gC h .dy a .none=some (!ev a):=rfl
@[simp]def aa9(h x y):gC h .lt (.int x) (.int y)=some (decide (x<y)):=rfl
@[simp]def aa8(h x y):gC h .le (.int x) (.int y)=some (decide (x<=y)):=rfl
@[simp]def aa5(h x y):gC h .gt (.int x) (.int y)=some (decide (x>y)):=rfl
@[simp]def aa4(h x y):gC h .ge (.int x) (.int y)=some (decide (x>=y)):=rfl
@[simp]def aa6(h a):gC h .rM a (.fz [])=some false:=rfl
@[simp]def Vg:ev .none=true:=rfl
@[simp]def Vh(a):ev (.ref a)=false:=rfl
@[simp]def n_i(a):ev (.int a)=false:=rfl
@[simp]def n_s(a):ev (.str a)=false:=rfl
@[simp]def oa(a):ev (.tup a)=false:=rfl
@[simp]def abp(h a b):eh h (.str a) (.str b)=some (decide (a=b)):=rfl
@[simp]def abf(h a b):eh h (.int a) (.int b)=some (decide (a=b)):=rfl
@[simp]def abj(h):eh h .none .none=some true:=rfl
@[simp]def abi(h a):eh h .none (.int a)=some false:=rfl
@[simp]def abg(h a):eh h (.int a) .none=some false:=rfl
@[simp]def abk(h a):eh h .none (.str a)=some false:=rfl
@[simp]def abo(h a):eh h (.str a) .none=some false:=rfl
@[simp]def abn(h a b):eh h (.str a) (.int b)=some false:=by rfl
@[simp]def abh(h a b):eh h (.int a) (.str b)=some false:=rfl
@[simp]def abe(h a b):eh h (.gk a) (.gk b)=some (decide (a=b)):=rfl
@[simp]def abq(h a b):eh h (.tup a) (.tup b)=eZ a b:=rfl
@[simp]def abu(h a b):eh h (.fz a) (.fz b)=da a b:=rfl
@[simp]def Hz(h:H)(a:Nm):fR h (.ref a)=gL (h a):=rfl
@[simp]def Hy(xs):gL (.live (.list xs))=some xs:=rfl
@[simp]def abl(h x b):eh h (.ref x) (.fz b)=JR (gL (h x)) b:=rfl
@[simp]def abm(xs y):JR (some xs) y=da xs y:=rfl
@[simp]def abr(h x b):eh h (.fz b) (.ref x)=(gL (h x)).bind (da b):=rfl
@[simp]def abt(y b):(some y).bind (da b)=da b y:=rfl
@[simp]def aeU:da [] []=some true:=rfl
@[simp]def aeY(x xs):da (x::xs) []=some false:=rfl
@[simp]def aeV(x xs):da [] (x::xs)=some false:=rfl
@[simp]def Y1(h b):truthy h (.bool b)=some b:=rfl
@[simp]def t_n(h):truthy h .none=some false:=rfl
@[simp]def Y3(h):truthy h (.fz [])=some false:=rfl
@[simp]def agZ(h x xs):truthy h (.fz (x::xs))=ia (x::xs):=rfl
@[simp]def t_r(h a):truthy h (.ref a)=Bq (h a):=rfl
@[simp]def agY(xs):Bq (.live (.list xs))=ia xs:=rfl
@[simp]def agX:ia []=some false:=rfl
def Y2{x:V}{xs:k00}(d:xs.length+1<=1000):ia (x::xs)=some true:=by unfold ia;rw[al (by simpa using d)];rfl
@[simp]def CJ(x y):f5 .add (.int x) (.int y)=some (.int (x+y)):=rfl
@[simp]def MF(x y):f5 .sub (.int x) (.int y)=some (.int (x-y)):=rfl
@[simp]def aeq(h x xs):bM h (.tup (x::xs)) (.int 0)=some x:=rfl
@[simp]def aer(h x y xs):bM h (.tup (x::y::xs)) (.int 1)=some y:=rfl
@[simp]def aes(h x y z xs):bM h (.tup (x::y::z::xs)) (.int 2)=some z:=rfl
@[simp]def aet(h x xs):bM h (.fz (x::xs)) (.int 0)=some x:=rfl
@[simp]def aeu(h x y xs):bM h (.fz (x::y::xs)) (.int 1)=some y:=rfl
@[simp]def aei(h n):bM h (.gk n) (.int 0)=some (.str n):=rfl
@[simp]def aej(h n):bM h (.gk n) (.int 1)=some .none:=rfl
@[simp]def bq:qE 6 95=some 60:=rfl
@[simp]def aeH(P O G as t l Q X a h)(K:KR):rS P O G 95 as t l Q X a h (oK K)=ay (P.meths 6 95) λg=>cM P O G as l h (He O a g t Q X) X:=rfl
@[simp]def aeI(P O G as t l Q X a h)(K:KR):rS P O G 167 as t l Q X a h (oK K)=(6<=167/\167≠P.mN/\cM P O G as l h (uP O K.choose t Q X) X):=rfl
@[simp]def m_L(h a m args):j7 false h a m args=(n9 (h a) m args).map (oi h a):=rfl
def UU{xs x}(d:xs.length<1000):n9 (.live (.list xs)) 0 [x]=some (.none,.live (.list (xs++[x]))):=by show la xs 0 x=_;unfold la;rw[al rfl,al d]
def UX{y:V}{r:k00}(d:r.length<1000):n9 (.live (.list (y::r))) 1 [.int 0]=some (y,.live (.list r)):=by show la (y::r) 1 (.int 0)=_;unfold la;rw[ak (by decide),al rfl];exact al #[rfl,Nat.succ_lt_succ d]
def UW{xs:k00}(d:xs.length<1000):n9 (.live (.list xs)) 1 []=vo xs xs.getLast?:=al #[rfl,d]
@[simp]def aeD(xs y):vo xs (some y)=some (y,.live (.list xs.dropLast)):=rfl
@[simp]def aeE(h a v s):oi h a (v,s)=(v,h.set a s):=rfl
@[simp]def aeA(h a n d):j7 true h a 4 [.gk n,d]=(t7 (h a) n d).map (vq h):=rfl
@[simp]def aeB(es n d):t7 (.live (.aU es)) n d=some ((bh n es).getD d):=rfl
@[simp]def aeF(h v):vq h v=(v,h):=rfl
@[simp]def aeC(h a n d):j7 true h a 1 [.gk n,d]=(t6 (h a) n).map (oi h a):=rfl
def EZ(n:Nat)(x:V):bh n [(n,x)]=some x:=oQ (p:=(n,x)) rfl
def UV(x n):t6 (.live (.aU [(n,x)])) n=some (x,.live (.aU [])):=by show(if 1<1000 then(bh n [(n,x)]).map _ else none)=_;rw[al (by decide),EZ,Cr (p:=(n,x)) rfl];rfl
@[simp]def aez(h a):j7 true h a 5 []=if oX (h a)then some (.none,h)else none:=rfl
@[simp]def aey:oX (.live (.aU []))=true:=rfl
@[simp]def aek(h:H)(a:Nm)(n:Nat):bM h (.ref a) (.gk n)=pn (h a) n:=rfl
@[simp]def ael(es n):pn (.live (.aU es)) n=bh n es:=rfl
@[simp]def aem(es n):pn (.pin es) n=bh n es:=rfl
@[simp]def uD(h a i):bM h (.ref a) (.int i)=uG (h a) i:=rfl
@[simp]def uE(xs i):uG (.live (.list xs)) i=eg xs i:=rfl
@[simp]def aen(es i):uG (.live (.fc es)) i=bh i es:=rfl
@[simp]def aep(h a i x):ki h (.ref a) (.int i) x=(sE (h a) i x).map (h.set a):=rfl
def TE{xs:k00}{i:Nat}(hi:i<xs.length)(B:i<1000)(x):sE (.live (.list xs)) (i:Int) x=some (.live (.list (xs.set i x))):=by exact al #[by lia,by lia,by lia]
@[simp]def aeo(h a n x):ki h (.ref a) (.gk n) x=(A6 (h a) n x).map (h.set a):=rfl
def TB{es:k16}(d:es.length<=1000)(n x):A6 (.live (.aU es)) n x=some (.live (.aU (cc n x es))):=al d
@[simp]def abb(h d n):gC h .sf (.gk n) (.ref d)=Ak (h d) n:=rfl
@[simp]def abc(es n):Ak (.live (.aU es)) n=some (bh n es).isNone:=rfl
def dI{xs:k00}{i:Nat}{x:V}(hx:xs[i]? =some x)(hi:i<1000):eg xs (i:Int)=some x:=by unfold eg iP;rw[ak (by lia),al #[by lia,by lia]];exact hx
@[simp]def sC(x xs):eg (x::xs) 0=some x:=rfl
def Qx(n m:Nat)(x:V)(r:k16)(h:(n=m)=False):bh m ((n,x)::r)=bh m r:=mS (p:=(n,x)) (of_eq_false h)
@[simp]def g_0(n:Nat):bh n ([]:List (Nat×V))=none:=rfl
def tZ(n:Nat)(x:V):bh n [(n,x)]=some x:=EZ n x
@[simp]def g_d(d x:V):(some x:Option V).getD d=x:=rfl
@[simp]def p_0(n:Nat)(x:V):cc n x ([]:List (Nat×V))=[(n,x)]:=rfl
def Wj(n:Nat)(x y:V):cc n x [(n,y)]=[(n,x)]:=tz (p:=(n,y)) rfl
@[simp]def aeG{af aK:Type}(f:af->aK)(a:af):Option.map f (some a)=some (f a):=rfl
def Be(h a):ot h (.ref a)=qi (h a):=rfl
def Bf:qi (.live (.fc []))=some []:=rfl
def Bg(p):qi (.live (.fc [p]))=some [.int p.1]:=rfl
def X7(c fs f x):aZ (.live (.inst c fs)) f x=if(cc f x fs).length<=100 then some (.live (.inst c (cc f x fs)))else none:=rfl
@[simp]def abL(n:Int):aT (.live (.inst 1 [(33,.int n)])) 33=some (.int n):=rfl
@[simp]def afn(n m:Int):aZ (.live (.inst 1 [(33,.int n)])) 33 (.int m)=some (.live (.inst 1 [(33,.int m)])):=rfl
section
variable(P:Y)(O:Fn)(G:Ka)
def kFor(c:H->Prop)(B:k36)(xs:k00)(Q:k02):Fl->Lc->H->Prop:=λf l h=>match f with
 |.ret v=>Q (.ret v) l h
 |.next=>cF c B xs l h Q
 |.cont=>cF c B xs l h Q
@[simp]def ahq(c B l h Q):cF c B [] l h Q=(c h/\Q .next l h):=rfl
@[simp]def ahr(c B x xs l h Q):cF c B (x::xs) l h Q=(c h/\B x l h (kFor c B xs Q)):=rfl
@[simp]def ahx(c B xs Q l h):kFor c B xs Q .next l h=cF c B xs l h Q:=rfl
@[simp]def ahw(c B xs Q l h):kFor c B xs Q .cont l h=cF c B xs l h Q:=rfl
@[simp]def ahy(c B xs Q v l h):kFor c B xs Q (.ret v) l h=Q (.ret v) l h:=rfl
def mx(xs h):cE false (.fz xs) xs h=True:=eq_true (Or.inr (rfl:eL h (.fz xs)=some xs))
def kn(v xs h):cE true v xs h=True:=by simp[cE]
def lx{h:H}(d:h a=.live (.list xs)):cE false (.ref a) xs h=True:=by
 have e:((false=true)\/gL (h a)=some xs)=True:=by rw[d];exact propext #[λU=>trivial,λU=>.inr rfl]
 exact e
def GZ(b:Ss)(h:H)(K:k02):Lc->Prop:=λl=>bc P O G b l h K (λU U U=>False)
@[simp]def aho(ts b x l h K):gX P O G ts b x l h K=ay (f6 ts x l) (GZ P O G b h K):=rfl
@[simp]def ag9(b h K l):GZ P O G b h K l=bc P O G b l h K (λU U U=>False):=rfl
def zF(t:Bool)(Q:QV)(h:H)(s:Slot):Prop:=ay ((oY s).bind id) λv=>tq t Q v h
def G4(t:Bool)(Q:QV)(h:H):Nm->Prop:=λa=>zF t Q h (h a)
@[simp]def ZN(x t l h Q X):au P O G (.cf x) t l h Q X=ay (G x) (G4 t Q h):=rfl
@[simp]def ZH(t Q h a):G4 t Q h a=zF t Q h (h a):=rfl
@[simp]def ZI(t Q h v):zF t Q h (.live (.cell (some v)))=tq t Q v h:=rfl
def zy(a:Nm)(v:V)(l:Lc)(Q:k02)(h:H)(s:Slot):Prop:=ay (oY s) λU=>Q .next l (h.set a (.live (.cell (some v))))
def GU(v:V)(l:Lc)(Q:k02)(h:H):Nm->Prop:=λa=>zy a v l Q h (h a)
@[simp]def ag4(x l Q v h):uN G true x l Q v h=ay (G x) (GU v l Q h):=rfl
@[simp]def ag2(v l Q h a):GU v l Q h a=zy a v l Q h (h a):=rfl
@[simp]def ag3(a v l Q h u):zy a v l Q h (.live (.cell u))=Q .next l (h.set a (.live (.cell (some v)))):=rfl
def zU(r:k28)(v:V)(vs:k00)(l:Lc)(h:H)(K:Lc->H->Prop)(a:Nm)(s:Slot):Prop:=ay (oY s) λU=>ez G r vs l (h.set a (.live (.cell (some v)))) K
def Hj(r:k28)(v:V)(vs:k00)(l:Lc)(h:H)(K:Lc->H->Prop):Nm->Prop:=λa=>zU G r v vs l h K a (h a)
@[simp]def ahz(x r v vs l h K):ez G ((true,x)::r) (v::vs) l h K=ay (G x) (Hj G r v vs l h K):=rfl
@[simp]def ahi(r v vs l h K a):Hj G r v vs l h K a=zU G r v vs l h K a (h a):=rfl
@[simp]def ahj(r v vs l h K a u):zU G r v vs l h K a (.live (.cell u))=ez G r vs l (h.set a (.live (.cell (some v)))) K:=rfl
def zJ(x f:Nat)(l:Lc)(h:H)(Q:k02):List (Nat×Nm)->Prop:=λD=>Q .next (upd l x (.clo f D)) h
def G8(x f:Nat)(l:Lc)(h:H)(Q:k02):aB->Prop:=λd=>ay (mZ G d.frees) (zJ x f l h Q)
@[simp]def ahp(x f l h Q X):wpS P O G (.kH x f) l h Q X=ay (P.fns f) (G8 G x f l h Q):=rfl
@[simp]def ahd(x f l h Q d):G8 G x f l h Q d=ay (mZ G d.frees) (zJ x f l h Q):=rfl
@[simp]def ahe(x f l h Q cs):zJ x f l h Q cs=Q .next (upd l x (.clo f cs)) h:=rfl
def zD(K:Option V->H->Prop):QV:=λu h=>K (some u) h
def uO(e:E)(l:Lc)(K:Option V->H->Prop):Bool->H->Prop:=λb h=>if b then au P O G e false l h (zD K) (λU U=>False)else K none h
def GY(e:E)(cs:Es)(h:H)(K:Option V->H->Prop):Lc->Prop:=λl=>my P O G cs l h (uO P O G e l K) (λU U=>False)
def G7(Q:Bool->H->Prop):QV:=λv h=>ay (v.jO some) λb=>Q b h
@[simp]def ahn(e ts cs x h K):kC P O G e ts cs x h K=ay (f6 ts x λU=>none) (GY P O G e cs h K):=rfl
@[simp]def ag5(e cs h K l):GY P O G e cs h K l=my P O G cs l h (uO P O G e l K) (λU U=>False):=rfl
@[simp]def ag7(e l K h):uO P O G e l K true h=au P O G e false l h (zD K) (λU U=>False):=rfl
@[simp]def ag6(e l K h):uO P O G e l K false h=K none h:=rfl
@[simp]def ag8(K u h):zD K u h=K (some u) h:=rfl
@[simp]def ahb(l h Q X):my P O G .nil l h Q X=Q true h:=rfl
@[simp]def ahc(e r l h Q X):my P O G (.cons e r) l h Q X=au P O G e true l h (G7 Q) X:=rfl
@[simp]def ahs(Q b h):G7 Q (.bool b) h=Q b h:=rfl
def l7(xs:k00)(v:V)(d:Bool)(e:E)(ts:k06)(cs:Es)(z t:Bool)(Q:QV)(h:H):Prop:=gZ (cE d v xs) (kC P O G e ts cs) xs [] h (iF z t Q)
@[simp]def ZL(z e ts cs t Q xs h):pI P O G z e ts false cs t Q (.fz xs) h=(xs.length<=1000/\l7 P O G xs (.fz xs) false e ts cs z t Q h):=rfl
def KA{n:Nat}(z e ts cs t Q h):pI P O G z e ts true cs t Q (.int n) h=((aX n).length<=1000/\l7 P O G (aX n) (.int n) true e ts cs z t Q h):=by obtain e:eA true (.int n) h=some (aX n):=(al rfl).trans (show(if(-1000:Int)<=(n:Int)then some (aX n)else none)=some (aX n)from al (by lia));unfold pI;rw[e];rfl
def set_same(h:H)(a:Nm)(s:Slot):(h.set a s) a=s:=al rfl
def dT(h:H)(a b:Nm)(s:Slot)(hb:(b=a)=False):(h.set a s) b=h b:=ak (by rw[hb];exact id)
@[simp]def abw(ps l x):jA ps l x=if(ps.any λp=>p.1&&p.2==x)then none else l x:=rfl
@[simp]def ahl(x v l):f6 [x] v l=some (upd l x v):=rfl
@[simp]def ahm(x y z a b c l):f6 [x,y,z] (.tup [a,b,c]) l=some (upd (upd (upd l x a) y b) z c):=rfl
def rU(C:Lc->H->(Bool->H->Prop)->Prop)(B:Lc->H->(Fl->Lc->H->Prop)->Prop)(n:Nat)(l:Lc)(Q:k02):Bool->H->Prop:=λb h=>if b then B l h (λf l h=>match f with
 |.ret v=>Q (.ret v) l h
 |.next=>dJ C B n l h Q
 |.cont=>dJ C B n l h Q)else Q .next l h
def l8(C:Lc->H->(Bool->H->Prop)->Prop)(B:Lc->H->(Fl->Lc->H->Prop)->Prop)(n:Nat)(Q:k02):Fl->Lc->H->Prop:=λf l h=>match f with
 |.ret v=>Q (.ret v) l h
 |.next=>dJ C B n l h Q
 |.cont=>dJ C B n l h Q
@[simp]def BD(C B n l h Q):dJ C B (n+1) l h Q=C l h (rU C B n l Q):=rfl
@[simp]def KE(C B n l Q h):rU C B n l Q true h=B l h (l8 C B n Q):=rfl
@[simp]def ZQ(C B n l Q h):rU C B n l Q false h=Q .next l h:=rfl
@[simp]def ahu(C B n Q l h):l8 C B n Q .next l h=dJ C B n l h Q:=rfl
@[simp]def aht(C B n Q l h):l8 C B n Q .cont l h=dJ C B n l h Q:=rfl
@[simp]def ahv(C B n Q v l h):l8 C B n Q (.ret v) l h=Q (.ret v) l h:=rfl
def Aa(K:Bool->H->Prop):QV:=λx h=>ay (x.jO some) λr=>K r h
@[simp]def BB(c X l h K):dY P O G c X l h K=au P O G c true l h (Aa K) (cH X l):=rfl
@[simp]def BC(K r h):Aa K (.bool r) h=K r h:=rfl
@[simp]def KC(b X l h K):en P O G b X l h K=bc P O G b l h K X:=rfl
def zV(a:Nm)(es:k16)(Q:k02):Fl->Lc->H->Prop:=λf l h=>f=.next/\Q .next l (h.set a (.live (.aU es)))
def zW(a:Nm)(es:k16):H->Prop:=λh=>pins (h a) es
def ZM(a es Q l h):zV a es Q .next l h=Q .next l (h.set a (.live (.aU es))):=propext #[And.right,λq=>#[rfl,q]]
@[simp]def ahk(a es h):zW a es h=pins (h a) es:=rfl
def vM(es):pins (.pin es) es=True:=by simp[pins]
def Uf(ts:k06)(b:Ss)(l:Lc)(Q:k02)(v:V)(h:H)(xs:Option (List V))(o:Option (Nm×List (Nat×V))):Prop:=match o with
 |some p=>p.2.length<=1000/\cF (zW p.1 p.2) (gX P O G ts b) (p.2.map λp=>.gk p.1) l (h.set p.1 (.pin p.2)) (zV p.1 p.2 Q)
 |none=>ay xs λxs=>xs.length<=1000/\cF (cE false v xs) (gX P O G ts b) xs l h Q
def zO(ts:k06)(b:Ss)(l:Lc)(Q:k02)(a:Nm)(h:H)(s:Slot):Prop:=Uf P O G ts b l Q (.ref a) h (gL s) ((nf s).map λes=>(a,es))
@[simp]def ahf(ts b l Q a h):rR P O G ts false b l Q (.ref a) h=zO P O G ts b l Q a h (h a):=rfl
@[simp]def ahg(ts b l Q a h es):zO P O G ts b l Q a h (.live (.aU es))=(es.length<=1000/\cF (zW a es) (gX P O G ts b) (es.map λp=>.gk p.1) l (h.set a (.pin es)) (zV a es Q)):=rfl
@[simp]def ahh(ts b l Q a h xs):zO P O G ts b l Q a h (.live (.list xs))=(xs.length<=1000/\cF (cE false (.ref a) xs) (gX P O G ts b) xs l h Q):=rfl
@[simp]def aha(v d e ts cs z t Q h):l7 P O G [] v d e ts cs z t Q h=(cE d v [] h/\iF z t Q [] h):=rfl
def G5(z:Bool)(e:E)(ts:k06)(cs:Es)(t:Bool)(Q:QV)(a:Nm)(h:H)(s:Slot):Prop:=ay (gL s) λxs=>xs.length<=1000/\l7 P O G xs (.ref a) false e ts cs z t Q h
@[simp]def ZK(z e ts cs t Q a h):pI P O G z e ts false cs t Q (.ref a) h=G5 P O G z e ts cs t Q a h (h a):=rfl
@[simp]def ZJ(z e ts cs t Q a h xs):G5 P O G z e ts cs t Q a h (.live (.list xs))=(xs.length<=1000/\l7 P O G xs (.ref a) false e ts cs z t Q h):=rfl
end
variable{P:Y}{O:Fn}{G:Ka}
def pH{xs:k00}(g:V->Option V)(hc:cE d v xs h)(hB:∀x∈xs,∀K:Option V->H->Prop,K (g x) h->kC P O G e ts cs x h K)(q:iF z t Q (xs.filterMap g) h):l7 P O G xs v d e ts cs z t Q h:=
 Dh g hc xs [] hB (by rw[List.nil_append];exact q)
def C9{cs:k31}{d:aB}(hd:az.fns k=some d)(hb:(d.dE.isEmpty&&(d.cells.isEmpty&&d.params.all λp=> !p.1))=true)
 (e:gB d.params args (λU=>none)=some l)(q:bc az (wG n) (λx=>cs.lookup x) d.body l h (dP Q) (kX X)):wG (n+1) (.clo k cs) args h Q X:=by
 simp only[ja,cY]at hb;obtain⟨D,G,O⟩:=hb;rw[sN]at q⊢;show ay (az.fns k) _;rw[hd];refine CS D G e ?_;rw[AI O];exact q
def Cu{j:Jk}{k:V->H->Prop}(q:∀(j':Jk) (m:Nat),j.le j'->j.n<=m->m<j'.n->j'.g m=.live o->k (.ref #[f+2,0,m]) (hp f D j')):alloc (hp f D j) o k:=
 #[#[f+2,0,j.n],kO _ _ _,by rw[Cw];exact q _ _ (j.jv _) (bG _) (bA _) (j.mj _)]
def sQ(j:Jk)(d:Jk)(m:Nat)(s:Slot)(h:d.le j)(e:d.n<=m):d.le (j.wr m s):=#[h.1,λk hk=>by rw[Jk.gn _ _ _ _ (by lia)];exact h.2 k hk]
def ow{Q:k02}{X:k08}(q:au P O G c true l h (Aa (rU (dY P O G c X) (en P O G b X) 0 l Q)) (cH X l)):∃n,dJ (dY P O G c X) (en P O G b X) n l h Q:=#[1,q]
def RU:=aG @aD<|aG @fh<|aG @lw<|aG @Y2<|aG @UU<|aG @UX<|aG @UW<|aG @tZ<|aG @UV<|aG @TE<|aG @TB<|aG @Wj<|aG @mx<|aG @kn<|aG @KA<|aG @set_same<|aG @ZM<|aG @vM<|aG @XG<|aG @XF<|aG @XD<|aG @XE<|aG @Qt<|aG @XB<|aG @Xe<|aG @Z5<|aG @sr<|aG @C'<|aG @vv<|aG @G'<|aG @Xq<|aG @J'<|aG @Jf<|aG @M'<|aG @Xg<|aG @Z7<|aG @Xh<|aG @Z8<|aG @Xi<|aG @Z9<|aG @Jd<|aG @a'<|aG @Xm<|aG @A'<|aG @Xf<|aG @Z6<|aG @Xo<|aG @H'<|aG @Xp<|aG @I'<|aG @Xj<|aG @b'<|aG @Xk<|aG @r'<|aG @Xl<|aG @u'<|aG @iM<|aG @y'<|aG @qb<|aG @z'<|aG @Je<|aG @KL<|aG @Cv<|aG @ES<|aG @Mn<|aG @xY<|aG @Mm<|aG @EU<|aG @Cw<|aG @kO<|aG @qc<|aG @Jk.mj<|aG @true_and<|aG @and_true<|aG @not_true_eq_false<|aG @not_false_eq_true<|aG @cD<|aG @oR<|aG @and_self<|aG @decide_true<|aG @decide_false<|aG @Nat.zero_add<|aG @Bool.true_and<|aG @Bool.false_and<|aG @Bool.or_false @Bool.false_or
def qg(h:H)(a b:Nm)(s s':Slot)(d:a≠b):(h.set a s).set b s'=(h.set b s').set a s:=by funext x;unfold H.set;by_cases D:x=a<;>by_cases G:x=b<;>simp_all
def Iz.v(l:Lc)(b:Nm)(x:Iz):Option V:=Iz.casesOn (motive:=λU=>Option V) x l (some .none) (some (.bool false)) (λk=>some (.int k)) az.gl (some (.fz [])) (some (.ref b)) (some (.ref b))
def Iz.a(x:Iz):Option aa:=Iz.casesOn (motive:=λU=>Option aa) x (λU=>none) none none (λU=>none) (λU=>none) none (some (.list [])) (some (.aU []))
def zk(l:Lc)(nm:Nat->Nm)(a:Nm)(k:H->List (Nat×V)->Prop):List (Nat×Iz)->H->List (Nat×V)->Prop
 |[]=>k
 |x::t=>λh fs=>ay (x.2.v l (nm x.1)) λv=>Option.rec (zk l nm a k t h (cc x.1 v fs)) (λo=>(nm x.1≠a/\h (nm x.1)=.fresh)/\zk l nm a k t (h.set (nm x.1) (.live o)) (cc x.1 v fs)) x.2.a
def Ir{af:Type}{o:Option af}{k k':af->Prop}(h:ay o k)(f:∀a,k a->k' a):ay o k':=bo h λa e q=>e▸f a q
def ws(f:Nat)(v:V):∀fs:List (Nat×V),(cc f v fs).length<=fs.length+1
 |[]=>bG _
 |p::r=>by
  show(if p.1=f then(f,v)::r else p::cc f v r).length<=_;split
  .exact Nat.le_succ _
  .exact Nat.succ_le_succ (ws f v r)
@[irreducible]def iW(n:Nat)(a:Nm)(c:Nat)(l:Lc)(Q X:QV)(b:Ss)(h:H)(fs:k16):Prop:=bc az (wG n) bx b l (h.set a (.live (.inst c fs))) (dP λr h=>r=V.none/\Q (.ref a) h) (kX X)
variable{n:Nat}{a:Nm}{c:Nat}{l:Lc}{h:H}{Q X:QV}{f:Nat}{r:Ss}{fs:k16}{nm:Nat->Nm}
def rK:iW n a c l Q X b h fs=bc az (wG n) bx b l (h.set a (.live (.inst c fs))) (dP λr h=>r=V.none/\Q (.ref a) h) (kX X):=by unfold iW;rfl
def lZ(d:l 6=some (.ref a))(e:fs.length+1<=100)(q:iW n a c l Q X r h (cc f v fs)):
 rT az (wG n) bx (.loc 6) f l (ju az (wG n) bx r (dP λr h=>r=V.none/\Q (.ref a) h) (kX X)) (kX X) v (h.set a (.live (.inst c fs))):=by
 show AH _ (l 6);rw[d];show AH _ (Option.map ((h.set a (.live (.inst c fs))).set a) (aZ ((h.set a (.live (.inst c fs))) a) f v));rw[set_same,X7,al (bk (ws f v fs) e)];show bc _ _ _ r l ((h.set a _).set a _) _ _;rw[H.set_set];exact rK.mp q
def Gz(d:l 6=some (.ref a))(e:fs.length+1<=100)(q:(b≠a/\h b=.fresh)/\iW n a c l Q X r (h.set b (.live o)) (cc f (.ref b) fs)):
 ∃b,(h.set a (.live (.inst c fs))) b=.fresh/\rT az (wG n) bx (.loc 6) f l (ju az (wG n) bx r (dP λr h=>r=V.none/\Q (.ref a) h) (kX X)) (kX X) (.ref b) ((h.set a (.live (.inst c fs))).set b (.live o)):=
 #[b,(ak q.1.1).trans q.1.2,(aq (rT az (wG n) bx (.loc 6) f l _ _ (.ref b)) (qg h a b _ _ q.1.1.symm)).mpr (lZ d e q.2)]
def ft(e:l 6=some (.ref a)):∀{xs:List (Nat×Iz)} {h:H} {fs:k16},fs.length+xs.length<=100->zk l nm a (iW n a c l Q X r) xs h fs->iW n a c l Q X (jt r xs) h fs
 |[],_,_=>λU q=>q
 |(f,x)::t,h,fs=>λO=>by
  have D:fs.length+1<=100:=bk (fL (Nat.succ_le_succ (cD _)) _) O;have G:∀v,(cc f v fs).length+t.length<=100:=λv=>bk (Nat.add_le_add_right (ws f v fs) _) (by rw[Nat.succ_add];exact O);intro q;refine rK.mpr ?_;revert q;cases x with
  |n=>exactλq=>lZ e D (ft e (G _) q)
  |b=>exactλq=>lZ e D (ft e (G _) q)
  |i=>exactλq=>lZ e D (ft e (G _) q)
  |z=>exactλq=>#[cD _,lZ e D (ft e (G _) q)]
  |p y=>exactλq=>Ir (o:=l y) q λv q=>lZ e D (ft e (G _) q)
  |g y=>exactλq=>Ir (o:=az.gl y) q λv q=>lZ e D (ft e (G _) q)
  |m=>exactλq=>#[cD _,Gz e D #[q.1,ft e (G _) q.2]]
  |d=>exactλq=>Gz e D #[q.1,ft e (G _) q.2]
def nP(e:Slot.live (.inst c fs)=s)(q:Q (.ref a) (h.set a s)):iW n a c l Q X .nil h fs:=by rw[rK,e];show dP (λr h=>r=V.none/\Q (.ref a) h) .next l (h.set a s);exact bt #[rfl,q]
def m5{d:aB}{h:H}(a:Nm)(hi:az.rL c=some k)(hd:az.fns k=some d)(hb:(d.frees.isEmpty&&(d.cells.isEmpty&&d.params.all λp=> !p.1))=true)
 (e:h a=.fresh)(u:gB d.params ((.ref a::args)++d.dE) (λU=>none)=some l)(q:iW n a c l Q X d.body h []):wG (n+1) (.cls c) args h Q X:=by
 simp only[ja,cY]at hb;obtain⟨D,G,O⟩:=hb;rw[rK]at q;rw[sN]at q⊢;show ay (az.rL c) _;rw[hi];show ay (az.fns k) _;rw[hd];refine#[D,a,e,?_];show ay (gB d.params (.ref a::args++d.dE) λx=>none) _;rw[u,G];show bc az (bQ az n) bx d.body (jA d.params l) _ (dP λr h=>r=V.none/\Q (.ref a) h) (kX X);rw[AI O];exact q
end
local macro_rules | `(tactic| erw [$[$ts:term],*]) => `(tactic| ((try dsimp [-Int.natCast_emod]); repeat (simp only [RU, Mf, ↓reduceIte, implies_true, ne_eq, List.length_nil, List.length_cons, List.zip_nil_right, Nat.reduceEqDiff, reduceCtorEq, Nat.reduceLeDiff, Nat.reduceLT, $[$ts:term],*]; try dsimp [-Int.natCast_emod])))
local macro_rules | `(tactic| lk) => `(tactic| erw[])
local macro_rules | `(tactic| k_lt $d:ident) => `(tactic| (refine rd (d := $d) rfl rfl rfl ?_; unfold $d))
section
variable{n f:Nat}{D:Fs}{j:Jk}{Q X:QV}
def vN(hi:i<D.nT)(q:Q .none (hp f {D with tk:=uF D.tk i {D.tk i with state:=.str 173,bu:=.fz [],wake:=.none,answer:=a}} j)):
 wG (n+1) (.fn 15) [.ref #[f,2,i],a,.none] (hp f D j) Q X:=by
 k_lt Ee;erw[hi];exact bt q
def EK(hc:c<D.nC)(hi:i<D.nT)(d:(D.cl c).caller=.ref #[f,2,i])
 (q:Q .none (hp f {D with cl:=uF D.cl c {D.cl c with state:=.str 244,found:=.tup [.tup [.str 78],.none]},tk:=uF D.tk i {D.tk i with state:=.str 173,bu:=.fz [],wake:=.none,answer:=.tup [.str 78],call:=.none}} j)):
 wG (n+2) (.fn 16) [.ref #[f,0,c],.none] (hp f D j) Q X:=by
 k_lt DM;erw[hi,hc,d];refine vN hi ?_;erw[hi];exact bt (by simpa only[d]using q)
def CK(e:s<D.nT)(hc:c<D.nC)(hi:i<D.nT)(u:s≠i)(d:(D.cl c).caller=.ref #[f,2,i])(y:(D.tk s).cK=.ref #[f,10,s])(z:(D.sv s).length<1000)
 (q:Q .none (hp f {D with cl:=uF D.cl c {D.cl c with state:=.str 243},tk:=uF (uF D.tk i {D.tk i with state:=.str 246,wake:=.none}) s {D.tk s with state:=.str 173,bu:=.fz [],wake:=.none,answer:=.tup [.str 81,x,.ref #[f,0,c]]},sv:=uF D.sv s (D.sv s++[.ref #[f,0,c]])} j)):
 wG (n+2) (.fn 17) [.ref #[f,2,s],x,.ref #[f,0,c]] (hp f D j) Q X:=by
 k_lt Dy;erw[hi,hc,d,e,aO _ i s _ u,y,z];refine vN e ?_;erw[aO _ i s _ u];exact bt (by simpa only[d,y]using q)
def xt(x:s<D.nT)(hc:c<D.nC)(hi:i<D.nT)(d:(D.cl c).caller=.ref #[f,2,i])(e:(D.tk s).cK=.ref #[f,10,s])(u:D.sv s=[.ref #[f,0,c]])
 (q:Q .none (hp f {D with cl:=uF D.cl c {D.cl c with state:=.str 244,found:=.tup [.tup [.str 78],.none]},tk:=uF D.tk i {D.tk i with state:=.str 173,bu:=.fz [],wake:=.none,answer:=.tup [.str 78],call:=.none},sv:=uF D.sv s []} j)):
 wG (n+3) (.fn 18) [.ref #[f,2,s],.none] (hp f D j) Q X:=by
 k_lt DK;erw[hi,hc,d,x,e,u,List.getLast?_singleton,List.dropLast_singleton];refine EK hc hi d ?_;lk;exact bt (by simpa only[d,e]using q)
def PV(d:t<D.nT\/(50<=t/\t<50+D.nG))(he:bh k (D.tq t)=none)(q:Q .none (hp f D j)):wG (n+1) (.fn 3) [.ref #[f,7,t],.gk k] (hp f D j) Q X:=by k_lt w7;erw[d,he,Nat.reduceEqDiff,or_false,false_or];exact aR q
def PW{xs:k00}(u:t<D.nT\/(50<=t/\t<50+D.nG))(he:bh k (D.tq t)=some (.ref #[f,9,p]))(e:p<D.nQ)(hx:D.ql p=x::xs)(d:xs.length+1<=1000)(q:Q x (hp f D j)):wG (n+1) (.fn 3) [.ref #[f,7,t],.gk k] (hp f D j) Q X:=by k_lt w7;erw[u,he,or_false,false_or,e,hx,d];exact aR q
def NW(d:t<D.nT\/(50<=t/\t<50+D.nG))(he:bh k (D.tq t)=none)(q:Q (.int 0) (hp f D j)):wG (n+1) (.fn 4) [.ref #[f,7,t],.gk k] (hp f D j) Q X:=by k_lt wY;erw[d,he,Nat.reduceEqDiff,or_false,false_or];exact aR q
def NX(u:t<D.nT\/(50<=t/\t<50+D.nG))(he:bh k (D.tq t)=some (.ref #[f,9,p]))(e:p<D.nQ)(d:(D.ql p).length<=1000)(q:Q (.int (D.ql p).length) (hp f D j)):wG (n+1) (.fn 4) [.ref #[f,7,t],.gk k] (hp f D j) Q X:=by k_lt wY;erw[u,he,or_false,false_or,e,d];exact aR q
def T9(d:t<D.nT\/(50<=t/\t<50+D.nG))(hc:c<D.nC)(hk:(D.cl c).key=.gk 189)(he:D.tq t=[])
 (q:Q .none (hp f {D with tq:=uF D.tq t [(189,.ref #[f,9,D.nQ])],ql:=uF D.ql D.nQ [.ref #[f,0,c]],nQ:=D.nQ+1,cl:=uF D.cl c {D.cl c with state:=.str 242}} j)):
 wG (n+1) (.fn 1) [.ref #[f,7,t],.ref #[f,0,c]] (hp f D j) Q X:=by
 k_lt w9;erw[d,hc,hk,he,or_false,false_or];refine#[#[f,9,D.nQ],xY _ _ _,?_];erw[d,hc,hk,he,or_false,false_or,bA];exact bt (by simpa only[hk]using q)
def T8(u:t<D.nT\/(50<=t/\t<50+D.nG))(hc:c<D.nC)(hk:(D.cl c).key=.gk 189)(he:D.tq t=[(189,.ref #[f,9,p])])(e:p<D.nQ)(d:(D.ql p).length<1000)
 (q:Q .none (hp f {D with ql:=uF D.ql p (D.ql p++[.ref #[f,0,c]]),cl:=uF D.cl c {D.cl c with state:=.str 242}} j)):
 wG (n+1) (.fn 1) [.ref #[f,7,t],.ref #[f,0,c]] (hp f D j) Q X:=by
 k_lt w9;erw[u,hc,hk,he,or_false,false_or,e,d];exact bt (by simpa only[hk]using q)
def restOf(num:Nat->Int)(c:Nat)(cs:k06):List Nat:=cs.filter λd=>decide (num d≠num c)
def vw{af:Type}(F:Nm->Option af)(a:Nm):(V.ref a).gO F=F a:=rfl
def Jn(f:Nat)(num:Nat->Int)(c:Nat):∀cs:List Nat,List.filterMap (λv:V=>v.gO λa=>if num a.i≠num c then some v else none) (cs.map λd=>V.ref #[f,0,d])=(restOf num c cs).map λd=>V.ref #[f,0,d]
 |[]=>rfl
 |d::r=>by
  have D:=Jn f num c r;unfold restOf at D⊢;by_cases h:num d=num c
  .rw[List.map_cons,List.filterMap_cons_none (by simp[vw,h]),D,List.filter_cons_of_neg (by simp[h])]
  .rw[List.map_cons,List.filterMap_cons_some (b:=V.ref #[f,0,d]) (by simp[vw,h]),D,List.filter_cons_of_pos (by simp[h])];rfl
def UE{cs:k06}{num:Nat->Int}(e:t<D.nT\/(50<=t/\t<50+D.nG))(hc:c<D.nC)(hk:(D.cl c).key=.gk 189)(he:D.tq t=[(189,.ref #[f,9,p])])(B:p<D.nQ)
 (y:D.ql p=cs.map λd=>V.ref #[f,0,d])(u:∀d∈cs,d<D.nC)(z:∀d,d<D.nC->(D.cl d).number=.int (num d))(bl:cs.length<900)
 (q:∀j',j.le j'->Q .none (hp f {D with tq:=uF D.tq t (if restOf num c cs=[]then[]else[(189,.ref #[f,9,D.nQ])]),ql:=uF D.ql D.nQ ((restOf num c cs).map λd=>V.ref #[f,0,d]),nQ:=D.nQ+1} j')):
 wG (n+1) (.fn 2) [.ref #[f,7,t],.ref #[f,0,c]] (hp f D j) Q X:=by
 refine re (d:=xc) #[f+2,0,j.n] rfl rfl rfl rfl (kO _ _ _) ?_;unfold xc;obtain P:(List.map (λd=>V.ref #[f,0,d]) cs).length<=1000:=by rw[be];lia
 erw[e,hc,hk,he,or_false,false_or,B,y,P];refine pH (λv=>v.gO λa=>if num a.i≠num c then some v else none) (by simp[cE,eL,V.k,Jf B,y]) (λx hx K q=> ?_) ?_
 .obtain⟨d,hd,rfl⟩:=bv.mp hx;erw[e,hc,u d hd,z d (u d hd),z c hc];by_cases h:num d=num c
  .erw[h];simpa[vw,h]using q
  .erw[h];simpa[vw,h]using q
 .rw[Jn];obtain J:((restOf num c cs).map λd=>V.ref #[f,0,d]).length<=1000:=by rw[be];have:=List.length_filter_le (λd=>decide (num d≠num c)) cs;unfold restOf;lia
  erw[J];refine#[#[f,9,D.nQ],xY _ _ _,?_];have G:=q (j.put (.live (.cell (some (.ref #[f,0,c]))))) (j.jv _);cases O:restOf num c cs with
  |nil=>rw[O]at G;erw[e,hc,hk,he,or_false,false_or,bA];exact bt (by simpa using G)
  |cons d r=>rw[O]at G;erw[e,hc,hk,he,or_false,false_or,bA];exact bt (by simpa using G)
def sJ(hi:i<D.nT)(q:Q (.bool false) (hp f D j)):wG (n+1) (.fn 21) [.ref #[f,2,i]] (hp f D j) Q X:=by k_lt D9;erw[hi];exact aR q
def CX(hi:i<D.nT)(u:(D.tk i).state=.str s)(d:s≠250)(e:s≠251)(q:Q (.bool true) (hp f D j)):wG (n+1) (.fn 14) [.ref #[f,2,i]] (hp f D j) Q X:=by k_lt DO;erw[hi,u,d,e];exact aR q
def Wb(d:s<D.nT)(hx:(D.tk s).state=.str x)(h:x≠247)(q:Q .none (hp f D j)):wG (n+1) (.fn 19) [.ref #[f,2,s],.gk k] (hp f D j) Q X:=by k_lt xf;erw[d,hx,h];exact aR q
def IK{s k k':Nat}(d:s<D.nT)(hx:(D.tk s).state=.str 247)(ho:(D.tk s).bu=.fz [.tup [.int 0,.str 81,.gk k'],.tup [.int 1,.str 155,.none]])(q:Q (if k'=k then .int 0 else .none) (hp f D j)):
 wG (n+1) (.fn 19) [.ref #[f,2,s],.gk k] (hp f D j) Q X:=by
 k_lt xf;by_cases hk:k'=k
 .rw[al hk]at q;erw[d,hx,ho,hk];exact aR q
 .rw[ak hk]at q;erw[d,hx,ho,hk];exact aR q
def VO(hc:c<D.nC)(e:(D.cl c).target=.ref #[f,2,s])(hk:(D.cl c).key=.gk k)(d:s<D.nT)(hx:(D.tk s).state=.str x)(h:x≠247)(q:Q (.bool false) (hp f D j)):wG (n+3) (.fn 20) [.ref #[f,0,c]] (hp f D j) Q X:=by k_lt tJ;erw[hc,e,hk];refine Wb d hx h ?_;lk;exact aR q
def VS(hc:c<D.nC)(u:(D.cl c).target=.ref #[f,2,s])(hk:(D.cl c).key=.gk k)(e:s<D.nT)(hx:(D.tk s).state=.str 247)(ho:(D.tk s).bu=.fz [.tup [.int 0,.str 81,.gk k'],.tup [.int 1,.str 155,.none]])(d:k'≠k)(q:Q (.bool false) (hp f D j)):wG (n+3) (.fn 20) [.ref #[f,0,c]] (hp f D j) Q X:=by k_lt tJ;erw[hc,u,hk];refine IK e hx ho ?_;erw[d];exact aR q
def VQ(hc:c<D.nC)(e:(D.cl c).target=.ref #[f,2,s])(hk:(D.cl c).key=.gk k)(d:s<D.nT)(hx:(D.tk s).state=.str 247)(ho:(D.tk s).bu=.fz [.tup [.int 0,.str 81,.gk k],.tup [.int 1,.str 155,.none]])
 (hi:i<D.nT)(y:s≠i)(u:(D.cl c).caller=.ref #[f,2,i])(z:(D.tk s).cK=.ref #[f,10,s])(x:(D.sv s).length<1000)
 (q:Q (.bool true) (hp f {D with cl:=uF D.cl c {D.cl c with state:=.str 243},tk:=uF (uF D.tk i {D.tk i with state:=.str 246,wake:=.none}) s {D.tk s with state:=.str 173,bu:=.fz [],wake:=.none,answer:=.tup [.str 81,.int 0,.ref #[f,0,c]]},sv:=uF D.sv s (D.sv s++[.ref #[f,0,c]])} j)):wG (n+3) (.fn 20) [.ref #[f,0,c]] (hp f D j) Q X:=by
 k_lt tJ;erw[hc,e,hk];refine IK d hx ho ?_;erw[hc,e];refine CK d hc hi y u z x ?_;lk;exact aR (by simpa only[]using q)
def Ct(hw:0<=w)(q:Q (.int (D.now+w)) (hp f D j)):wG (n+1) (.fn 8) [.ref #[f,1,0],.int w] (hp f D j) Q X:=by
 k_lt Ea;have:¬(0>w):=by lia
 erw[this];exact aR q
def vd(d:D.K.cJ=.int m)(q:Q (.int (m+1)) (hp f {D with K:={D.K with cJ:=.int (m+1)}} j)):wG (n+1) (.fn 60) [.ref #[f,6,0]] (hp f D j) Q X:=by k_lt Du;erw[d];exact aR q
def xv(q:Q (.ref #[f,0,D.nC]) (hp f {D with cl:=uF D.cl D.nC #[num,e,x,u,y,.str 241,.none,.bool false,.none],nC:=D.nC+1} j)):
 wG (n+1) (.cls 0) [num,e,x,u,y] (hp f D j) Q X:=by
 refine m5 (d:=Dp) #[f,0,D.nC] rfl rfl rfl (ES _ _ _) rfl (ft (nm:=λU=>#[f,0,0]) rfl (aP rfl) (nP (s:=oC #[num,e,x,u,y,.str 241,.none,.bool false,.none]) rfl ?_));have:(hp f D j).set #[f,0,D.nC] (oC #[num,e,x,u,y,.str 241,.none,.bool false,.none])=_:=Cv f D j _;show Q _ ((hp f D j).set #[f,0,D.nC] (oC #[num,e,x,u,y,.str 241,.none,.bool false,.none]));rw[this];exact q
def Qs(f:Nat)(tq:Nat->List (Nat×V))(e:Nat->List V)(d:Nat)(qs:k30):Prop:=
 ∃own:Nat->Nat,∀t,(qs t=[]/\tq t=[])\/(qs t≠[]/\∃p,p<d/\own p=t/\tq t=[(189,.ref #[f,9,p])]/\e p=(qs t).map λc=>V.ref #[f,0,c])
def Qs.nil{f tq u e qs}(h:Qs f tq u e qs)(d:qs t=[]):tq t=[]:=by
 obtain⟨own,h⟩:=h;rcases h t with h|h
 .exact h.2
 .exact absurd d h.1
def Qs.some{f tq u e qs}(h:Qs f tq u e qs)(d:qs t=c::r):∃p,p<e/\tq t=[(189,.ref #[f,9,p])]/\u p=(c::r).map λc=>V.ref #[f,0,c]:=by
 obtain⟨own,h⟩:=h;rcases h t with h|h
 .rw[d]at h;cases h.1
 .obtain⟨_,p,D,_,G,O⟩:=h;exact#[p,D,G,by rw[O,d]]
def Qs.join{f tq x u qs}(h:Qs f tq x u qs)(hp:p<u)(d:tq t=[(189,.ref #[f,9,p])]):Qs f tq (uF x p (x p++[.ref #[f,0,c]])) u (uF qs t (qs t++[c])):=by
 obtain⟨own,h⟩:=h;rcases h t with O|⟨_,p',k1,k2,k3,z⟩
 .rw[d]at O;cases O.2
 .rw[k3]at d;cases d;refine#[own,λs=> ?_];by_cases D:s=t
  .subst D;right;rw[aD];exact#[by simp,p,hp,k2,k3,by rw[aD,z,List.map_append];rfl]
  .rw[aO _ _ _ _ D];rcases h s with a|⟨a,p',P,G,Q,y⟩
   .exact .inl a
   .exact .inr #[a,p',P,G,Q,by rw[aO _ _ _ _ (by intro e;subst e;exact D (G.symm.trans k2)),y]]
def Qs.new{f tq e d qs}(h:Qs f tq e d qs)(cs:k06)(hc:cs≠[]):Qs f (uF tq t [(189,.ref #[f,9,d])]) (uF e d (cs.map λc=>V.ref #[f,0,c])) (d+1) (uF qs t cs):=by
 obtain⟨own,h⟩:=h;refine#[uF own d t,λs=> ?_];by_cases D:s=t
 .subst D;right;exact#[by rw[aD];exact hc,d,bA _,by rw[aD],by rw[aD],by rw[aD,aD]]
 .rw[aO _ _ _ _ D,aO _ _ _ _ D];rcases h s with a|⟨a,p',Q,G,O,P⟩
  .exact .inl a
  .exact .inr #[a,p',by lia,by rw[aO _ _ _ _ (by lia)];exact G,O,by rw[aO _ _ _ _ (by lia),P]]
def Qs.gone{f tq e d qs}(h:Qs f tq e d qs)(x:k00):Qs f (uF tq t []) (uF e d x) (d+1) (uF qs t []):=by
 obtain⟨own,h⟩:=h;refine#[own,λs=> ?_];by_cases D:s=t
 .subst D;exact .inl #[aD _ _ _,aD _ _ _]
 .rw[aO _ _ _ _ D,aO _ _ _ _ D];rcases h s with a|⟨a,p',Q,G,O,P⟩
  .exact .inl a
  .exact .inr #[a,p',by lia,G,O,by rw[aO _ _ _ _ (by lia),P]]
variable{qs:k30}
def I8(e:Qs f D.tq D.ql D.nQ qs)(u:t<D.nT\/(50<=t/\t<50+D.nG))(hc:c<D.nC)(hk:(D.cl c).key=.gk 189)(B:(qs t).length<900)
 (q:∀z y x,Qs f z y x (uF qs t (qs t++[c]))->Q .none (hp f {D with tq:=z,ql:=y,nQ:=x,cl:=uF D.cl c {D.cl c with state:=.str 242}} j)):
 wG (n+1) (.fn 1) [.ref #[f,7,t],.ref #[f,0,c]] (hp f D j) Q X:=by
 cases h:qs t with
 |nil=>refine T9 u hc hk (e.nil h) (q _ _ _ ?_);rw[h];exact e.new [c] (by simp)
 |cons d r=>obtain⟨p,G,O,P⟩:=e.some h;refine T8 u hc hk O G ?_ (q D.tq _ _ (e.join G O));rw[P,be,←h];lia
def AY{num:Nat->Int}(e:Qs f D.tq D.ql D.nQ qs)(ht:t<D.nT\/(50<=t/\t<50+D.nG))(hc:c<D.nC)(hk:(D.cl c).key=.gk 189)(nF:qs t≠[])(B:∀d∈qs t,d<D.nC)(hn:∀d,d<D.nC->(D.cl d).number=.int (num d))(hl:(qs t).length<900)
 (q:∀j' y x u,j.le j'->Qs f y x u (uF qs t (restOf num c (qs t)))->Q .none (hp f {D with tq:=y,ql:=x,nQ:=u} j')):
 wG (n+1) (.fn 2) [.ref #[f,7,t],.ref #[f,0,c]] (hp f D j) Q X:=by
 cases h:qs t with
 |nil=>exact absurd h nF
 |cons d r=>
  obtain⟨p,O,P,z⟩:=e.some h;refine UE ht hc hk P O z (by rw[←h];exact B) hn (by rw[←h];exact hl) λj' J=>q j' _ _ _ J ?_;rw[h];by_cases G:restOf num c (d::r)=[]
  .rw[al G,G];exact e.gone _
  .rw[ak G];exact e.new _ G
def W6(e:Qs f D.tq D.ql D.nQ qs)(x:t<D.nT\/(50<=t/\t<50+D.nG))(u:k≠189\/qs t=[])(q:Q .none (hp f D j)):wG (n+1) (.fn 3) [.ref #[f,7,t],.gk k] (hp f D j) Q X:=by
 refine PV x ?_ q;cases G:qs t with
 |nil=>rw[e.nil G];rfl
 |cons d r=>
  obtain⟨p,P,O,y⟩:=e.some G;obtain hk:k≠189:=by rcases u with h|h;exact h;rw[G]at h;cases h
  rw[O,Qx _ _ _ _ (by simp[Ne.symm hk])];rfl
def I7(u:Qs f D.tq D.ql D.nQ qs)(x:t<D.nT\/(50<=t/\t<50+D.nG))(d:qs t=c::r)(e:(qs t).length<900)(q:Q (.ref #[f,0,c]) (hp f D j)):wG (n+1) (.fn 3) [.ref #[f,7,t],.gk 189] (hp f D j) Q X:=by obtain⟨p,h,G,O⟩:=u.some d;rw[d,gu]at e;exact PW x (by rw[G,tZ]) h O (by rw[be];lia) q
def W5(e:Qs f D.tq D.ql D.nQ qs)(u:t<D.nT\/(50<=t/\t<50+D.nG))(x:(qs t).length<900)(q:Q (.int (qs t).length) (hp f D j)):wG (n+1) (.fn 4) [.ref #[f,7,t],.gk 189] (hp f D j) Q X:=by
 cases h:qs t with
 |nil=>rw[h]at q;exact NW u (by rw[e.nil h];rfl) q
 |cons d r=>
  obtain⟨p,O,P,G⟩:=e.some h;rw[←h]at G;refine NX u (by rw[P,tZ]) O ?_ ?_
  .rw[G,be];lia
  .rw[G,be];exact q
inductive WD(now:Int):V->V->Bool->Prop
 |none:WD now .none .none false
 |bB:WD now (.str 91) .none true
 |int (w:Int) (h:0<w):WD now (.int w) (.int (now+w)) false
def sO{now:Int}{d dl:V}{cond:Bool}(hw:WD now d dl cond){t:Bool}{l:Lc}{h:H}(e:l 35=some d):au az (wG n) bx oP t l h Q X=Q (.bool cond) h:=by
 unfold oP;cases hw with
 |none=>erw[e]
 |bB=>erw[e]
 |int w h=>erw[e]
def KD{now:Int}{d dl:V}{cond:Bool}(hw:WD now d dl cond){l:Lc}{h:H}(e:l 35=some d):au az (wG n) bx tl true l h Q X=Q (.bool cond) h:=by
 unfold tl;cases hw with
 |none=>erw[e]
 |bB=>erw[e,sO .bB (now:=0) e]
 |int w h=>erw[e,sO (.int w h (now:=0)) e,Int.not_le.mpr h]
def Aj{c:Nat}{r:Ss}{l:Lc}{x dl:V}{cond:Bool}{K:k02}{ax:k08}(hw:WD D.now x dl cond)(u:D.K.eX=.ref #[f,1,0])(hc:c<D.nC)(d:l 35=some x)(e:l 19=some (.ref #[f,0,c]))(y:l 93=some (.ref #[f,6,0]))(hd:(D.cl c).kG=.none)
 (q:bc az (wG (n+1)) bx r l (hp f {D with cl:=uF D.cl c {D.cl c with cond:=.bool cond,kG:=dl}} j) K ax):bc az (wG (n+1)) bx (tu r) l (hp f D j) K ax:=by
 unfold tu;erw[sO hw d,e,hc];cases hw with
 |none=>erw[d];rw[←hd]at q;exact q
 |bB=>erw[d];rw[←hd]at q;exact q
 |int w hw=>erw[d,y,u];refine Ct (Int.le_of_lt hw) ?_;erw[e,hc];simpa only[u]using q
def VP(hc:c<D.nC)(e:(D.cl c).target=.ref #[f,2,s])(hk:(D.cl c).key=.gk k)(d:s<D.nT)
 (u:(∃x,(D.tk s).state=.str x/\x≠247)\/((D.tk s).state=.str 247/\∃k',k'≠k/\(D.tk s).bu=.fz [.tup [.int 0,.str 81,.gk k'],.tup [.int 1,.str 155,.none]]))(q:Q (.bool false) (hp f D j)):wG (n+3) (.fn 20) [.ref #[f,0,c]] (hp f D j) Q X:=by
 rcases u with⟨x,G,h⟩|⟨G,k',h,O⟩
 .exact VO hc e hk d G h q
 .exact VS hc e hk d G O h q
def KG(J:Qs f D.tq D.ql D.nQ qs)(ht:t<D.nT\/(50<=t/\t<50+D.nG))(hc:c<D.nC)(hk:(D.cl c).key=.gk 189)(B:(qs t).length<900)(u:(D.cl c).target=.ref a)
 (pC:∀aj:Fs,aj.nT=D.nT->aj.nG=D.nG->aj.tk=D.tk->aj.gr=D.gr->aT (hp f aj j a) 21=some (.ref #[f,7,t]))(hi:i<D.nT)(d:(D.cl c).caller=.ref #[f,2,i])(e:(D.cl c).kG=dl)
 (q:∀z y x,Qs f z y x (uF qs t (qs t++[c]))->Q .none (hp f {D with tq:=z,ql:=y,nQ:=x,cl:=uF D.cl c {D.cl c with state:=.str 242},tk:=uF D.tk i {D.tk i with state:=.str 245,wake:=dl}} j))(m:Nat)(hm:m=23\/m=39):
 wG (n+2) (.fn m) [.ref #[f,0,c]] (hp f D j) Q X:=by
 rcases hm with rfl|rfl
 .k_lt Eb;erw[hc,u,pC D rfl rfl rfl rfl];refine I8 J ht hc hk B λz y x h=> ?_;erw[hc,d,hi,e];exact bt (by simpa only[d,u,e,hk]using q _ _ _ h)
 .k_lt D5;erw[hc,u,pC D rfl rfl rfl rfl];refine I8 J ht hc hk B λz y x h=> ?_;erw[hc,d,hi,e];exact bt (by simpa only[d,u,e,hk]using q _ _ _ h)
def cO(f i:Nat)(d:Nm)(k:Nat)(who num:Int)(dl:V)(cond:Bool)(st:Nat):CR:=#[.int num,.ref #[f,2,i],.ref d,.gk k,.fz [.int who],.str st,dl,.bool cond,.none]
def M8{i s k:Nat}{who m:Int}{y dl:V}{cond:Bool}(hi:i<D.nT)(u:s<D.nT)(d:s≠i)(B:D.K.cJ=.int m)(e:D.K.eX=.ref #[f,1,0])(hw:WD D.now y dl cond)
 (hx:(D.tk s).state=.str 247)(ho:(D.tk s).bu=.fz [.tup [.int 0,.str 81,.gk k],.tup [.int 1,.str 155,.none]])(x:(D.tk s).cK=.ref #[f,10,s])(z:(D.sv s).length<1000)
 (q:Q .none (hp f {D with K:={D.K with cJ:=.int (m+1)},cl:=uF D.cl D.nC (cO f i #[f,2,s] k who (m+1) dl cond 243),nC:=D.nC+1,tk:=uF (uF D.tk i {D.tk i with state:=.str 246,wake:=.none,answer:=.none,call:=.ref #[f,0,D.nC]}) s {D.tk s with state:=.str 173,bu:=.fz [],wake:=.none,answer:=.tup [.str 81,.int 0,.ref #[f,0,D.nC]]},sv:=uF D.sv s (D.sv s++[.ref #[f,0,D.nC]])} j)):
 wG (n+5) (.fn 22) [.ref #[f,6,0],.ref #[f,2,i],.ref #[f,2,s],.gk k,.fz [.int who],y] (hp f D j) Q X:=by
 k_lt wX;erw[hi];refine sJ hi ?_;lk;refine CX u (s:=247) (by simpa only[aO _ i s _ d]using hx) (by decide) (by decide) ?_;lk;refine vd B ?_;lk;refine xv ?_;erw[hi];refine Aj (c:=D.nC) hw e (bA _) rfl rfl rfl (by simp only[aD]) ?_;lk;refine VQ (s:=s) (k:=k) (i:=i) (bA _) (by simp only[aD]) (by simp only[aD]) u (by simp only[aO _ i s _ d];exact hx) (by simp only[aO _ i s _ d];exact ho) hi d (by simp only[aD]) (by simp only[aO _ i s _ d];exact x) z ?_;erw[aO _ i s _ d];exact aR (by simpa only[cO,x,e]using q)
def M7{i s k x:Nat}{who m:Int}{iY dl:V}{cond:Bool}(hi:i<D.nT)(e:s<D.nT)(d:s≠i)(hm:D.K.cJ=.int m)(u:D.K.eX=.ref #[f,1,0])(hw:WD D.now iY dl cond)
 (hx:(D.tk s).state=.str x)(lX:x≠250)(nN:x≠251)(kR:x≠247\/(∃k',k'≠k/\(D.tk s).bu=.fz [.tup [.int 0,.str 81,.gk k'],.tup [.int 1,.str 155,.none]]))
 (eI:(D.tk s).bP=.ref #[f,7,s])(hq:Qs f D.tq D.ql D.nQ qs)(hl:(qs s).length<900)(hk:k=189)
 (q1:cond=true->Q .none (hp f {D with K:={D.K with cJ:=.int (m+1)},cl:=uF D.cl D.nC (cO f i #[f,2,s] k who (m+1) dl cond 244),nC:=D.nC+1,tk:=uF D.tk i {D.tk i with answer:=.tup [.str 92],call:=.none}} j))
 (q2:cond=false->∀J B z,Qs f J B z (uF qs s (qs s++[D.nC]))->Q .none (hp f {D with K:={D.K with cJ:=.int (m+1)},cl:=uF D.cl D.nC (cO f i #[f,2,s] k who (m+1) dl cond 242),nC:=D.nC+1,tq:=J,ql:=B,nQ:=z,tk:=uF D.tk i {D.tk i with answer:=.none,call:=.ref #[f,0,D.nC],state:=.str 245,wake:=dl}} j)):
 wG (n+5) (.fn 22) [.ref #[f,6,0],.ref #[f,2,i],.ref #[f,2,s],.gk k,.fz [.int who],iY] (hp f D j) Q X:=by
 k_lt wX;obtain P:∀T:TR,(∃y,(uF D.tk i T s).state=.str y/\y≠247)\/((uF D.tk i T s).state=.str 247/\∃k',k'≠k/\(uF D.tk i T s).bu=.fz [.tup [.int 0,.str 81,.gk k'],.tup [.int 1,.str 155,.none]]):=by
  intro T;rw[aO _ i s _ d];by_cases h:x=247
  .right;subst h;exact#[hx,kR.resolve_left (λh=>h rfl)]
  .exact .inl #[x,hx,h]
 erw[hi];refine sJ hi ?_;lk;refine CX e (s:=x) (by simpa only[aO _ i s _ d]using hx) lX nN ?_;lk;refine vd hm ?_;lk;refine xv ?_;erw[hi];refine Aj (c:=D.nC) hw u (bA _) rfl rfl rfl (by simp only[aD]) ?_;lk;refine VP (s:=s) (k:=k) (bA _) (by simp only[aD]) (by simp only[aD]) e (P _) ?_;erw[KD hw,jg];cases cond with
 |true=>erw[sO hw,jg,aO _ i s _ d,hi,bA];exact aR (by simpa only[cO,fh,aD,u]using q1 rfl)
 |false=>erw[aO _ i s _ d];refine KG (t:=s) (a:=#[f,2,s]) (i:=i) (by exact hq) (by exact .inl e) (by exact bA _) (by simp only[aD,hk]) (by exact hl) (by simp only[aD]) (λaj G h2 O h4=>by rw[sr (by rw[G];exact e),EY,O];simp only[aO _ i s _ d,eI]) (by exact hi) (by simp only[aD]) (dl:=dl) (by simp only[aD]) (λJ B z h=> ?_) 23 (.inl rfl);lk;exact bt (by simpa only[cO,fh,aD,u]using q2 rfl _ _ _ h)
def N8(hi:i<D.nT)(d:D.K.eX=.ref #[f,1,0])(hw:0<w)(q:Q .none (hp f {D with tk:=uF D.tk i {D.tk i with answer:=.none,state:=.str 248,wake:=.int (D.now+w)}} j)):
 wG (n+2) (.fn 28) [.ref #[f,6,0],.ref #[f,2,i],.int w] (hp f D j) Q X:=by
 k_lt DG;erw[hi];refine sJ hi ?_;erw[hw,gt_iff_lt,hi,d];refine Ct (by lia) ?_;erw[hi];exact bt q
def UC(q:Q .none (hp f D j)):wG (n+1) (.fn 12) [.fz [.tup [.int 0,.str 81,.gk k],.tup [.int 1,.str 155,.none]]] (hp f D j) Q X:=by k_lt DV;lk;exact aR q
def ZR(d:s<D.nT)(q:Q .none (hp f {D with tk:=uF D.tk s {D.tk s with state:=.str 247,bu:=.fz [.tup [.int 0,.str 81,.gk k],.tup [.int 1,.str 155,.none]]}} j)):
 wG (n+2) (.fn 27) [.ref #[f,6,0],.ref #[f,2,s],.fz [.tup [.int 0,.str 81,.gk k],.tup [.int 1,.str 155,.none]]] (hp f D j) Q X:=by
 k_lt Ec;lk;refine UC ?_;erw[d];exact bt q
def A3(x:Qs f D.tq D.ql D.nQ qs)(d:s<D.nT)(e:(D.tk s).bP=.ref #[f,7,s])(u:k≠189\/qs s=[])(q:Q .none (hp f {D with tk:=uF D.tk s {D.tk s with answer:=.none,state:=.str 247,bu:=.fz [.tup [.int 0,.str 81,.gk k],.tup [.int 1,.str 155,.none]]}} j)):
 wG (n+3) (.fn 26) [.ref #[f,6,0],.ref #[f,2,s],.fz [.tup [.int 0,.str 81,.gk k],.tup [.int 1,.str 155,.none]],.bool false] (hp f D j) Q X:=by
 k_lt xg;erw[d];refine sJ d ?_;erw[d,e];refine W6 x (.inl d) u ?_;lk;refine ZR d ?_;lk;exact bt (by simpa only[e]using q)
def Jv{num:Nat->Int}(hq:Qs f D.tq D.ql D.nQ qs)(u:s<D.nT)(x:(D.tk s).bP=.ref #[f,7,s])(J:qs s=c::r)(hl:(qs s).length<900)(hk:(D.cl c).key=.gk 189)
 (nv:∀d∈qs s,d<D.nC)(hn:∀d,d<D.nC->(D.cl d).number=.int (num d))(hi:i<D.nT)(uz:s≠i)(jk:(D.cl c).caller=.ref #[f,2,i])(kU:(D.tk s).cK=.ref #[f,10,s])(et:(D.sv s).length<1000)
 (q:∀j' B z y,j.le j'->Qs f B z y (uF qs s (restOf num c (qs s)))->Q .none (hp f {D with tq:=B,ql:=z,nQ:=y,cl:=uF D.cl c {D.cl c with state:=.str 243},tk:=uF (uF D.tk i {D.tk i with state:=.str 246,wake:=.none}) s {D.tk s with state:=.str 173,bu:=.fz [],wake:=.none,answer:=.tup [.str 81,.int 0,.ref #[f,0,c]]},sv:=uF D.sv s (D.sv s++[.ref #[f,0,c]])} j')):
 wG (n+3) (.fn 26) [.ref #[f,6,0],.ref #[f,2,s],.fz [.tup [.int 0,.str 81,.gk 189],.tup [.int 1,.str 155,.none]],.bool false] (hp f D j) Q X:=by
 have O:c<D.nC:=nv c (by rw[J];exact .head _);k_lt xg;erw[u];refine sJ u ?_;erw[u,x];refine I7 hq (.inl u) J hl ?_;erw[u,x];refine AY hq (.inl u) O hk (by rw[J];simp) nv hn hl λj' B z y P cG=> ?_;erw[u,x];refine CK u O hi uz jk (by simp only[aD];exact kU) et ?_;lk;refine aR ?_;have:=q j' B z y P cG;have e:∀T G:TR,uF (uF (uF D.tk s T) i {uF D.tk s T i with state:=.str 246,wake:=.none}) s G=uF (uF D.tk i {D.tk i with state:=.str 246,wake:=.none}) s G:=by intro T G;funext k;unfold uF;have:i≠s:=λh=>uz h.symm;by_cases h1:k=s<;>by_cases h2:k=i<;>simp_all
 simp only[e,aD,jk]at this⊢;simpa only[x]using this
def VC(hi:i<D.nT)(x:(D.tk i).state=.str 245)(d:(D.tk i).call=.ref #[f,0,c])(hc:c<D.nC)(y:(D.cl c).target=.ref a)(kQ:D.K.dR=.ref #[f,19,l])(e:l<D.nL)(u:(D.ls l).length<1000)
 (q:Q .none (hp f {D with ls:=uF D.ls l (D.ls l++[.ref a])} j)):wG (n+1) (.fn 25) [.ref #[f,6,0],.ref #[f,2,i]] (hp f D j) Q X:=by
 k_lt xe;erw[hi,x,d,hc,y,kQ,e,u];exact bt q
def VB(hi:i<D.nT)(d:(D.tk i).state=.str x)(hx:x≠245)(q:Q .none (hp f D j)):wG (n+1) (.fn 25) [.ref #[f,6,0],.ref #[f,2,i]] (hp f D j) Q X:=by k_lt xe;erw[hi,d,hx];exact bt q
def ZB(hi:i<D.nT)(d:(D.tk i).state=.str 248)(q:Q .none (hp f {D with tk:=uF D.tk i {D.tk i with state:=.str 173,bu:=.fz [],wake:=.none,answer:=.none}} j)):wG (n+2) (.fn 29) [.ref #[f,2,i]] (hp f D j) Q X:=by k_lt xj;erw[hi,d];refine vN hi ?_;lk;exact bt q
def Na{num:Nat->Int}(hq:Qs f D.tq D.ql D.nQ qs)(ht:t<D.nT\/(50<=t/\t<50+D.nG))(hc:c<D.nC)(hk:(D.cl c).key=.gk 189)(nF:qs t≠[])(B:∀d∈qs t,d<D.nC)(hn:∀d,d<D.nC->(D.cl d).number=.int (num d))(J:(qs t).length<900)
 (z:(D.cl c).target=.ref a)(pC:aT (hp f D j a) 21=some (.ref #[f,7,t]))(hi:i<D.nT)(y:(D.cl c).caller=.ref #[f,2,i])
 (q:∀j' x u e,j.le j'->Qs f x u e (uF qs t (restOf num c (qs t)))->Q .none (hp f {D with tq:=x,ql:=u,nQ:=e,cl:=uF D.cl c {D.cl c with state:=.str 244},tk:=uF D.tk i {D.tk i with call:=.none}} j')):
 wG (n+2) (.fn 24) [.ref #[f,0,c]] (hp f D j) Q X:=by
 k_lt DB;erw[hc,z,pC];refine AY hq ht hc hk nF B hn J λj' x u e h G=> ?_;erw[hc,y,hi];exact bt (by simpa only[y,z,hk]using q j' x u e h G)
def ZA{num:Nat->Int}(hq:Qs f D.tq D.ql D.nQ qs)(ht:t<D.nT\/(50<=t/\t<50+D.nG))(hc:c<D.nC)(hk:(D.cl c).key=.gk 189)(nF:qs t≠[])(B:∀d∈qs t,d<D.nC)(hn:∀d,d<D.nC->(D.cl d).number=.int (num d))(J:(qs t).length<900)
 (rE:(D.cl c).target=.ref a)(pC:aT (hp f D j a) 21=some (.ref #[f,7,t]))(hi:i<D.nT)(z:(D.cl c).caller=.ref #[f,2,i])(hs:(D.tk i).state=.str 245)(y:(D.tk i).call=.ref #[f,0,c])
 (q:∀j' x u e,j.le j'->Qs f x u e (uF qs t (restOf num c (qs t)))->Q .none (hp f {D with tq:=x,ql:=u,nQ:=e,cl:=uF D.cl c {D.cl c with state:=.str 244},tk:=uF D.tk i {D.tk i with call:=.none,state:=.str 173,bu:=.fz [],wake:=.none,answer:=.tup [.str 66]}} j')):
 wG (n+3) (.fn 29) [.ref #[f,2,i]] (hp f D j) Q X:=by
 k_lt xj;erw[hi,hs,y];refine Na hq ht hc hk nF B hn J rE pC hi z λj' x u e h G=> ?_;lk;refine vN hi ?_;lk;exact bt (by simpa only[fh,aD]using q j' x u e h G)
def TD(i:Int)(x:V):sE (.live (.fc [])) i x=some (.live (.fc [(i,x)])):=rfl
def Xy(h:H)(f t p s):(h.set #[f,7,t] s) #[f,9,p]=h #[f,9,p]:=ak (by simp)
def Xz(h:H)(f t p s):(h.set #[f,7,t] s) #[f+2,0,p]=h #[f+2,0,p]:=ak (by simp)
def XA(h:H)(f t p s s'):(h.set #[f,7,t] s).set #[f+2,0,p] s'=(h.set #[f+2,0,p] s').set #[f,7,t] s:=qg _ _ _ _ _ (by simp)
def WF(hg:g<D.nG)(hw:(D.gr g).i0=.none)(q:Q (.bool true) (hp f D j)):wG (n+1) (.fn 31) [.ref #[f,3,g],.bool true] (hp f D j) Q X:=by k_lt DN;erw[hg,hw];exact aR q
def NO(hg:g<D.nG)(hi:i<D.nT)(d:(D.tk i).eu=.int 0)(q:Q .none (hp f {D with tk:=uF D.tk i {D.tk i with eu:=.int 1},gr:=uF D.gr g {D.gr g with i0:=.ref #[f,2,i]}} j)):
 wG (n+1) (.fn 32) [.ref #[f,3,g],.ref #[f,2,i],.bool true] (hp f D j) Q X:=by
 k_lt DE;erw[hg,hi,d,Int.zero_add,Int.reduceAdd];exact bt q
def Mw(hg:g<D.nG)(hi:i<D.nT)(d:(D.tk i).eu=.int 0)(hw:(D.gr g).i0=.none)(q:Q .none (hp f {D with tk:=uF D.tk i {D.tk i with answer:=.none,eu:=.int 1},gr:=uF D.gr g {D.gr g with i0:=.ref #[f,2,i]}} j)):
 wG (n+2) (.fn 33) [.ref #[f,3,g],.ref #[f,2,i],.bool true] (hp f D j) Q X:=by
 k_lt Dx;erw[hg,hi,hw];refine WF hg hw ?_;lk;refine NO hg hi (by simp only[aD];exact d) ?_;lk;exact bt q
def UF(hg:g<D.nG)(q:Q .none (hp f D j)):wG (n+1) (.fn 35) [.ref #[f,3,g]] (hp f D j) Q X:=by k_lt DW;erw[hg];refine ow ?_;erw[hg];exact bt q
def rh(hg:g<D.nG)(hi:i<D.nT)(u:(D.tk i).eu=.int 1)(hw:(D.gr g).i0=.ref #[f,2,i])(e:(D.tk i).number=.int m)(q:∀j',j.le j'->Q .none (hp f {D with tk:=uF D.tk i {D.tk i with eu:=.int 0},gr:=uF D.gr g {D.gr g with i0:=.none}} j')):
 wG (n+2) (.fn 34) [.ref #[f,3,g],.ref #[f,2,i]] (hp f D j) Q X:=by
 refine re (d:=w8) #[f+2,0,j.n] rfl rfl rfl rfl (kO _ _ _) ?_;unfold w8;erw[hg,hi,u,hw,e,Int.reduceSub];refine UF hg ?_;lk;exact bt (by simpa only[e]using q _ (j.jv _))
def HH{i g:Nat}{who m:Int}{e dl:V}{cond:Bool}(hi:i<D.nT)(u:D.K.cJ=.int m)(d:D.K.eX=.ref #[f,1,0])(hw:WD D.now e dl cond)
 (q:Q (.ref #[f,0,D.nC]) (hp f {D with K:={D.K with cJ:=.int (m+1)},cl:=uF D.cl D.nC (cO f i #[f,3,g] 189 who (m+1) dl cond 241),nC:=D.nC+1,tk:=uF D.tk i {D.tk i with call:=.ref #[f,0,D.nC],answer:=.none}} j)):
 wG (n+2) (.fn 36) [.ref #[f,6,0],.ref #[f,3,g],.ref #[f,2,i],.gk 189,.fz [.int who],e] (hp f D j) Q X:=by
 k_lt DX;lk;refine vd u ?_;lk;refine xv ?_;lk;refine Aj (c:=D.nC) hw d (bA _) rfl rfl rfl (by simp only[aD]) ?_;erw[hi,bA];exact aR (by simpa only[cO,d]using q)
def M9{i g:Nat}{who m:Int}{e dl:V}{cond:Bool}(hi:i<D.nT)(u:D.K.cJ=.int m)(d:D.K.eX=.ref #[f,1,0])(hw:WD D.now e dl cond)
 (q:Q (.ref #[f,0,D.nC]) (hp f {D with K:={D.K with cJ:=.int (m+1)},cl:=uF D.cl D.nC (cO f i #[f,3,g] 189 who (m+1) dl cond 243),nC:=D.nC+1,tk:=uF D.tk i {D.tk i with call:=.ref #[f,0,D.nC],answer:=.none}} j)):
 wG (n+3) (.fn 37) [.ref #[f,6,0],.ref #[f,3,g],.ref #[f,2,i],.gk 189,.fz [.int who],e] (hp f D j) Q X:=by
 k_lt Dz;lk;refine HH hi u d hw ?_;erw[cO,bA];exact aR (by simpa only[cO,d]using q)
def W7{i g:Nat}{who m:Int}{y dl:V}{cond:Bool}(hi:i<D.nT)(hg:g<D.nG)(B:D.K.cJ=.int m)(d:D.K.eX=.ref #[f,1,0])(hw:WD D.now y dl cond)
 (eI:(D.gr g).bP=.ref #[f,7,50+g])(J:Qs f D.tq D.ql D.nQ qs)(z:(qs (50+g)).length<900)
 (q1:cond=true->Q .none (hp f {D with K:={D.K with cJ:=.int (m+1)},cl:=uF D.cl D.nC (cO f i #[f,3,g] 189 who (m+1) dl cond 244),nC:=D.nC+1,tk:=uF D.tk i {D.tk i with answer:=.tup [.str 92],call:=.none}} j))
 (q2:cond=false->∀x u e,Qs f x u e (uF qs (50+g) (qs (50+g)++[D.nC]))->Q .none (hp f {D with K:={D.K with cJ:=.int (m+1)},cl:=uF D.cl D.nC (cO f i #[f,3,g] 189 who (m+1) dl cond 242),nC:=D.nC+1,tq:=x,ql:=u,nQ:=e,tk:=uF D.tk i {D.tk i with answer:=.none,call:=.ref #[f,0,D.nC],state:=.str 245,wake:=dl}} j)):
 wG (n+3) (.fn 38) [.ref #[f,6,0],.ref #[f,3,g],.ref #[f,2,i],.gk 189,.fz [.int who],y] (hp f D j) Q X:=by
 k_lt D3;lk;refine HH hi B d hw ?_;erw[KD hw,jg];cases cond with
 |true=>erw[sO hw,jg,hi,bA,cO];exact bt (by simpa only[cO,fh,aD,d]using q1 rfl)
 |false=>lk;refine KG (t:=50+g) (a:=#[f,3,g]) (i:=i) (by exact J) (.inr #[dL _ _,by exact Nat.add_lt_add_left hg 50]) (by exact bA _) (by simp only[aD,cO]) (by exact z) (by simp only[aD,cO]) (λaj P G h3 O=>by rw[vv (by rw[G];exact hg),EX,O,eI]) (by exact hi) (by simp only[aD,cO]) (dl:=dl) (by simp only[aD,cO]) (λx u e h=> ?_) 39 (.inr rfl);lk;exact bt (by simpa only[cO,fh,aD,d]using q2 rfl _ _ _ h)
def Et(hc:c<D.nC)(hi:i<D.nT)(d:(D.cl c).caller=.ref #[f,2,i])
 (q:Q .none (hp f {D with cl:=uF D.cl c {D.cl c with state:=.str 244,found:=.tup [.tup [.str 78],.none]},tk:=uF D.tk i {D.tk i with state:=.str 173,bu:=.fz [],wake:=.none,answer:=.tup [.str 78],call:=.none}} j)):
 wG (n+3) (.fn 41) [.ref #[f,0,c],.none] (hp f D j) Q X:=by
 k_lt DL;lk;refine EK hc hi d ?_;lk;exact bt q
def Hu(u:Qs f D.tq D.ql D.nQ qs)(ht:t<D.nT\/(50<=t/\t<50+D.nG))(hl:(qs t).length<900)(q:∀j',j.le j'->Q (.fz (if qs t=[]then[]else[.gk 189])) (hp f D j')):
 wG (n+1) (.fn 6) [.ref #[f,7,t],.str 189] (hp f D j) Q X:=by
 refine re (d:=xk) #[f+2,0,j.n] rfl rfl rfl rfl (kO _ _ _) ?_;unfold xk;lk;refine Cu λy m P dG cx F1=> ?_;have ru:(j.put (.live (.cell none))).n=j.n+1:=rfl;have z:y.g j.n=.live (.cell none):=(P.2 _ (by lia)).trans (j.mj _);have O:j.n<y.n:=by lia
 cases G:qs t with
 |nil=>
  rw[G,al rfl]at q;have h:m≠j.n:=by lia
  erw[ht,or_false,false_or,z,u.nil G,sR _ _ _ _ _ O,H.set_set,Jk.iZ _ _ _ O,Jk.gn _ _ _ _ h,F1,Be,Bf,Bg,vM];refine aR ?_;have e:uF D.tq t []=D.tq:=by have:=lw D.tq t;rw[u.nil G]at this;exact this
  rw[e];exact q _ (sQ _ _ _ _ (Jk.le_trans (j.jv _) P) (bG _))
 |cons c r=>
  obtain⟨p,h1,J,h3⟩:=u.some G;rw[G,ak (by simp)]at q;have h:m≠j.n:=by lia
  obtain Sm:r.length+1<=1000:=by rw[G,gu]at hl;lia
  have B:∀s,m<(y.wr j.n s).n:=λU=>cx;erw[ht,or_false,false_or,z,h1,J,h3,sR _ _ _ _ _ O,sR _ _ _ _ _ (B _),H.set_set,Jk.iZ _ _ _ O,Jk.iZ _ _ _ (B _),Jk.gn _ _ _ _ h,Jk.gn _ _ _ _ h.symm,F1,Be,Bf,Bg,vM,Xy,Xz,XA,set_same,tZ,be,Sm,TD];refine pH (λU=>some (.gk 189)) (dh (mx _ _)) (λx hx K q=> ?_) ?_
  .cases cu.mp hx;erw[Jk.iZ _ _ _ O,Jk.iZ _ _ _ (B _),Jk.gn _ _ _ _ h,Jk.gn _ _ _ _ h.symm,bh];exact q
  .erw[List.filterMap_cons,List.filterMap_nil];refine aR ?_;obtain e:uF D.tq t [(189,.ref #[f,9,p])]=D.tq:=by have:=lw D.tq t;rw[J]at this;exact this
   rw[e];exact q _ (sQ _ _ _ _ (sQ _ _ _ _ (Jk.le_trans (j.jv _) P) (bG _)) (by lia))
def AN{k:Nat}{who:Int}(e:D.tb.aC=.ref #[f,15,0])(hk:D.aC[k]? =some .none)(d:k<1000)(q:Q .none (hp f {D with aC:=D.aC.set k (.int who)} j)):wG (n+1) (.fn 70) [.ref #[f,14,0],.int k,.str 189,.int who] (hp f D j) Q X:=by k_lt xb;obtain h:k<D.aC.length:=(eU.mp hk).1;erw[e,dI hk d,h,d];exact bt q
def vm{k:Nat}{who:Int}(e:D.tb.aC=.ref #[f,15,0])(hk:D.aC[k]? =some (.int who))(d:k<1000)(q:Q .none (hp f {D with aC:=D.aC.set k .none} j)):wG (n+1) (.fn 70) [.ref #[f,14,0],.int k,.str 186,.int who] (hp f D j) Q X:=by k_lt xb;obtain h:k<D.aC.length:=(eU.mp hk).1;erw[e,dI hk d,h,d];exact bt q
def uK{k e u:Nat}{x:V}{kk:V}(B:D.tb.aC=.ref #[f,15,0])(hk:D.aC[k]? =some x)(J:k<1000)(y:j.g e=.live (.cell (some (.ref #[f,14,0]))))(z:j.g u=.live (.cell (some (.int k))))(q:Q (.bool (ev x)) (hp f D j)):
 wG (n+1) (.clo 81 [(193,#[f+2,0,e]),(195,#[f+2,0,u])]) [kk] (hp f D j) Q X:=by
 refine C9 (d:=qZ) rfl rfl rfl ?_;unfold qZ;erw[B,dI hk J,List.lookup,y,z];exact aR q
def sD{g k d e:Nat}{x:V}(hq:Qs f D.tq D.ql D.nQ qs)(hg:g<D.nG)(eI:(D.gr g).bP=.ref #[f,7,50+g])(J:(qs (50+g)).length<900)(z:D.tb.aC=.ref #[f,15,0])(hk:D.aC[k]? =some x)(B:k<1000)
 (u:j.g d=.live (.cell (some (.ref #[f,14,0]))))(y:j.g e=.live (.cell (some (.int k))))(dG:d<j.n)(cx:e<j.n)(kR:ev x=false\/qs (50+g)=[])(q:∀j',j.le j'->Q .none (hp f D j')):
 wG (n+3) (.fn 40) [.ref #[f,3,g],.clo 81 [(193,#[f+2,0,d]),(195,#[f+2,0,e])]] (hp f D j) Q X:=by
 k_lt xd;erw[hg,eI];refine Hu hq (.inr #[by lia,by lia]) J λj' h=> ?_;by_cases G:qs (50+g)=[]
 .rw[al G];lk;exact aR (q _ h)
 .rw[ak G];lk;refine uK z hk B ((h.2 _ dG).trans u) ((h.2 _ cx).trans y) ?_;erw[kR.resolve_right G];exact aR (q _ h)
def X5{g k m1 m2 c i:Nat}{r:k06}{num:Nat->Int}(B:Qs f D.tq D.ql D.nQ qs)(hg:g<D.nG)(J:(D.gr g).bP=.ref #[f,7,50+g])(z:(qs (50+g)).length<900)(hh:D.tb.aC=.ref #[f,15,0])(hk:D.aC[k]? =some .none)(eH:k<1000)
 (h1:j.g m1=.live (.cell (some (.ref #[f,14,0]))))(h2:j.g m2=.live (.cell (some (.int k))))(dG:m1<j.n)(cx:m2<j.n)(e:qs (50+g)=c::r)(nB:(D.cl c).key=.gk 189)
 (nv:∀d∈qs (50+g),d<D.nC)(hn:∀d,d<D.nC->(D.cl d).number=.int (num d))(hi:i<D.nT)(jk:(D.cl c).caller=.ref #[f,2,i])
 (q:∀j' y x u,j.le j'->Qs f y x u (uF qs (50+g) (restOf num c (qs (50+g))))->Q (.ref #[f,0,c]) (hp f {D with tq:=y,ql:=x,nQ:=u,cl:=uF D.cl c {D.cl c with state:=.str 243},tk:=uF D.tk i {D.tk i with state:=.str 246,wake:=.none}} j')):
 wG (n+3) (.fn 40) [.ref #[f,3,g],.clo 81 [(193,#[f+2,0,m1]),(195,#[f+2,0,m2])]] (hp f D j) Q X:=by
 have G:c<D.nC:=nv c (by rw[e];exact .head _);k_lt xd;erw[hg,J];refine Hu B (.inr #[by lia,by lia]) z λj' h=> ?_;rw[ak (by rw[e];simp)];lk;refine uK hh hk eH ((h.2 _ dG).trans h1) ((h.2 _ cx).trans h2) ?_;erw[hg,J];refine I7 B (.inr #[by lia,by lia]) e z ?_;erw[hg,J];refine AY B (.inr #[by lia,by lia]) G nB (by rw[e];simp) nv hn z λnU y x u O P=> ?_;erw[G,jk,hi];exact aR (by simpa only[jk,nB]using q nU y x u (Jk.le_trans h O) P)
def Oh(z:t<D.nT\/(50<=t/\t<50+D.nG))(u:D.tq t=[])(q:∀j',j.le j'->Q (.fz []) (hp f D j')):wG (n+1) (.fn 5) [.ref #[f,7,t]] (hp f D j) Q X:=by
 refine re (d:=wZ) #[f+2,0,j.n] rfl rfl rfl rfl (kO _ _ _) ?_;unfold wZ;lk;refine Cu λG m h J cx x=> ?_;have B:(j.put (.live (.cell none))).n=j.n+1:=rfl;obtain P:G.g j.n=.live (.cell none):=(h.2 _ (by lia)).trans (j.mj _);have O:j.n<G.n:=by lia
 obtain y:m≠j.n:=by lia
 erw[z,or_false,false_or,P,u,sR _ _ _ _ _ O,H.set_set,Jk.iZ _ _ _ O,Jk.gn _ _ _ _ y,x,Be,Bf,Bg,vM];refine aR ?_;obtain e:uF D.tq t []=D.tq:=by have:=lw D.tq t;rw[u]at this;exact this
 rw[e];exact q _ (sQ _ _ _ _ (Jk.le_trans (j.jv _) h) (bG _))
def O0(hi:i<D.nT)(q:Q .none (hp f D j)):wG (n+1) (.fn 46) [.ref #[f,2,i],b] (hp f D j) Q X:=by k_lt DI;erw[hi];exact aR q
def Dk(hi:i<D.nT)(u:D.tq i=[])(d:(D.tk i).bP=.ref #[f,7,i])(e:(D.tk i).cK=.ref #[f,10,i])(x:D.sv i=[])(q:∀j',j.le j'->Q .none (hp f {D with tk:=uF D.tk i {D.tk i with bu:=.fz [],wake:=.none,state:=.str 250}} j')):
 wG (n+2) (.fn 49) [.ref #[f,2,i]] (hp f D j) Q X:=by
 k_lt DF;erw[hi,d];refine Oh (.inl hi) u λj' h=> ?_;lk;refine ow ?_;erw[hi,d,e,x];refine O0 hi ?_;lk;exact bt (by simpa only[e,d]using q _ h)
def Zx{af:Type}(F:Nat->af)(i k:Nat)(a b c:af)(h:k≠i):uF (uF (uF F i a) k b) i c=uF (uF F k b) i c:=by funext x;unfold uF;by_cases D:x=i<;>by_cases G:x=k<;>simp_all
structure mJ(f:Nat)(D:Fs)(i k:Nat)(m num:Int):Prop where
 hi:i<D.nT
 hg:k<D.nG
 hk:k<1000
 h0:(D.tk i).eu=.int 0
 hw:(D.gr k).i0=.none
 eI:(D.gr k).bP=.ref #[f,7,50+k]
 hm:D.K.cJ=.int m
 nu:D.K.eX=.ref #[f,1,0]
 hh:D.tb.aC=.ref #[f,15,0]
 pE:D.tb.dU=.ref #[f,6,0]
 jo:(D.tk i).number=.int num
 hf:∃fs,D.tb.iC=some (.fz fs)/\fs[k]? =some (.ref #[f,3,k])
def tA(aa:mJ f D i k m num)
 (q:∀j' e u G l,j.le j'->e<j'.n->u<j'.n->j'.g e=.live (.cell (some (.ref #[f,14,0])))->j'.g u=.live (.cell (some (.int k)))->G 193=some #[f+2,0,e]->G 195=some #[f+2,0,u]->
   l 126=some (.clo 81 [(193,#[f+2,0,e]),(195,#[f+2,0,u])])->l 113=some (.ref #[f,3,k])->l 35=some J->l 196=some (.str w)->l 72=some (.ref #[f,2,i])->l 197=some (.int who)->
   bc az (wG (n+6)) G oO l (hp f {D with tk:=uF D.tk i {D.tk i with answer:=.none,eu:=.int 1},gr:=uF D.gr k {D.gr k with i0:=.ref #[f,2,i]}} j') (dP Q) (kX X)):
 wG (n+7) (.fn 72) [.ref #[f,14,0],.ref #[f,2,i],.int who,.tup [.str w,.int k,J]] (hp f D j) Q X:=by
 refine EM (d:=na) #[f+2,0,j.n] #[f+2,0,(j.put (.live (.cell (some (.ref #[f,14,0]))))).n] rfl rfl rfl rfl (kO _ _ _) #[by simp[Jk.put],by rw[qc];exact j.fr _ (Nat.le_succ _)] ?_;obtain⟨fs,y,z⟩:=aa.hf;have P:(j.put (.live (.cell (some (.ref #[f,14,0]))))).n≠j.n:=Nat.succ_ne_self _;have O:∀s,(j.put (.live (.cell (some (.ref #[f,14,0]))))).n<((j.put (.live (.cell (some (.ref #[f,14,0]))))).put s).n:=λU=>bA _;obtain B:∀h:H,bM h (.fz fs) (.int k)=some (.ref #[f,3,k]):=λh=>dI z aa.hk;unfold na;erw[sR _ _ _ _ _ (O _),Jk.iZ _ _ _ (O _),Jk.gn _ _ _ _ P.symm,Jk.vr _ _ _ P.symm,y,B,mZ,show az.fns 81=some qZ from rfl,show qZ.frees=[193,195]from rfl];refine Mw aa.hg aa.hi aa.h0 aa.hw ?_;rw[mR,fA,XI,iO];obtain x:((((j.put (.live (.cell (some (.ref #[f,14,0]))))).put (.live (.cell none))).wr (j.put (.live (.cell (some (.ref #[f,14,0]))))).n (.live (.cell (some (.int k)))))).g j.n=.live (.cell (some (.ref #[f,14,0]))):=by rw[Jk.gn _ _ _ _ P.symm,Jk.vr _ _ _ P.symm,Jk.mj]
 refine q (((j.put (.live (.cell (some (.ref #[f,14,0]))))).put (.live (.cell none))).wr (j.put (.live (.cell (some (.ref #[f,14,0]))))).n (.live (.cell (some (.int k))))) j.n (j.put (.live (.cell (some (.ref #[f,14,0]))))).n _ _ (sQ _ _ _ _ (Jk.le_trans (j.jv _) (Jk.jv _ _)) (Nat.le_succ _)) (bU (bA _) (Nat.le_succ _)) (O (.live (.cell none)))
  x (Jk.iZ _ _ _ (O _)) ?_ ?_ ?_ ?_ ?_ ?_ ?_ ?_<;>rfl
def rj(aa:mJ f D i k m num):uF D.gr k #[(D.gr k).number,(D.gr k).bP,.none]=D.gr:=by have:=lw D.gr k;rw[←aa.hw];exact this
def Mz{i k:Nat}{who m num:Int}(aa:mJ f D i k m num)(hk:D.aC[k]? =some (.int who))(hq:Qs f D.tq D.ql D.nQ qs)(h0:qs (50+k)=[])
 (q:∀j',j.le j'->Q .none (hp f {D with tk:=uF D.tk i {D.tk i with answer:=.none},aC:=D.aC.set k .none} j')):
 wG (n+7) (.fn 72) [.ref #[f,14,0],.ref #[f,2,i],.int who,.tup [.str 186,.int k,.none]] (hp f D j) Q X:=by
 refine tA aa λj1 m1 m2 G l B dG cx h O k1 k2 e P u y d z=> ?_;obtain jn:k<D.aC.length:=(eU.mp hk).1;unfold oO;erw[k1,k2,e,P,u,y,d,z,h,O];refine vm aa.hh hk aa.hk ?_;erw[k1,k2,e,P,u,y,d,z,h,O];refine sD (x:=.none) (qs:=qs) (by exact hq) aa.hg (by simp only[aD];exact aa.eI) (by rw[h0];decide) aa.hh (by simp only[];rw[List.getElem?_set_self jn]) aa.hk h O dG cx (.inr h0) λj2 J=> ?_;lk;refine ow ?_;erw[P,d];refine rh (m:=num) aa.hg aa.hi (by simp only[aD]) (by simp only[aD]) (by simp only[aD];exact aa.jo) λj3 iE=> ?_;lk;refine bt ?_;have:=q j3 (Jk.le_trans B (Jk.le_trans J iE));simpa only[rj aa,aa.h0,fh,aD]using this
def MA{i k c i2:Nat}{who who2 m num:Int}{num':Nat->Int}(aa:mJ f D i k m num)(hk:D.aC[k]? =some (.int who))(hq:Qs f D.tq D.ql D.nQ qs)(h0:qs (50+k)=[c])(nB:(D.cl c).key=.gk 189)
 (hc:c<D.nC)(hn:∀d,d<D.nC->(D.cl d).number=.int (num' d))(lS:i2<D.nT)(e:i2≠i)(jk:(D.cl c).caller=.ref #[f,2,i2])(hv:(D.cl c).values=.fz [.int who2])
 (q:∀j' db ef eO,j.le j'->Qs f db ef eO (uF qs (50+k) [])->Q .none (hp f {D with tq:=db,ql:=ef,nQ:=eO,cl:=uF D.cl c {D.cl c with state:=.str 244,found:=.tup [.tup [.str 78],.none]},tk:=uF (uF D.tk i2 {D.tk i2 with state:=.str 173,bu:=.fz [],wake:=.none,answer:=.tup [.str 78],call:=.none}) i {D.tk i with answer:=.none},aC:=D.aC.set k (.int who2)} j')):
 wG (n+7) (.fn 72) [.ref #[f,14,0],.ref #[f,2,i],.int who,.tup [.str 186,.int k,.none]] (hp f D j) Q X:=by
 refine tA aa λj1 m1 m2 G l hj dG cx z J k1 k2 P u l3 l4 y l6=> ?_;have jn:k<D.aC.length:=(eU.mp hk).1;have h:restOf num' c (qs (50+k))=[]:=by rw[h0];simp[restOf]
 unfold oO;erw[k1,k2,P,u,l3,l4,y,l6,z,J];refine vm aa.hh hk aa.hk ?_;erw[k1,k2,P,u,l3,l4,y,l6,z,J];refine X5 (c:=c) (r:=[]) (i:=i2) (num:=num') (qs:=qs) (by exact hq) aa.hg (by simp only[aD];exact aa.eI) (by rw[h0];simp) aa.hh (by simp only[];rw[List.getElem?_set_self jn]) aa.hk z J dG cx h0 nB (by rw[h0];intro d hd;cases cu.mp hd;exact hc) hn lS jk λj2 db ef eO O cG=> ?_;rw[h]at cG;have B:=(O.2 _ dG).trans z;have tY:=(O.2 _ cx).trans J;lk;refine#[2,?_];erw[k1,k2,B,tY,hc,hv];refine AN aa.hh (by simp only[];rw[List.getElem?_set_self jn]) aa.hk ?_;erw[k1,k2,P,u,l3,l4,y,l6,B,tY];refine Et (i:=i2) hc lS (by simp only[aD];exact jk) ?_;erw[k1,k2,P,u,l3,l4,y,l6,B,tY];refine sD (x:=.int who2) (qs:=uF qs (50+k) []) (by exact cG) aa.hg (by simp only[aD];exact aa.eI) (by rw[aD];decide) aa.hh (by simp only[];rw[List.getElem?_set_self (by rw[List.length_set];exact jn)]) aa.hk B tY (bU dG O.1) (bU cx O.1) (.inr (aD _ _ _)) λj3 iE=> ?_;erw[P,u,y];refine rh (m:=num) aa.hg aa.hi (by simp only[aO _ _ _ _ e.symm,aD]) (by simp only[aD]) (by simp only[aO _ _ _ _ e.symm,aD];exact aa.jo) λj4 R6=> ?_;lk;refine bt ?_;have:=q j4 db ef eO (Jk.le_trans hj (Jk.le_trans O (Jk.le_trans iE R6))) cG;simpa only[rj aa,aa.h0,fh,aD,aO _ _ _ _ e.symm,aO _ _ _ _ e,Zx _ _ _ _ _ _ e,List.set_set,jk,hv,nB]using this
def MC{i k:Nat}{who m num:Int}{B dl:V}{cond:Bool}(aa:mJ f D i k m num)(hk:D.aC[k]? =some .none)(hq:Qs f D.tq D.ql D.nQ qs)(h0:(qs (50+k)).length<900)(hw:WD D.now B dl cond)
 (q:∀j',j.le j'->Q .none (hp f {D with K:={D.K with cJ:=.int (m+1)},cl:=uF D.cl D.nC {cO f i #[f,3,k] 189 who (m+1) dl cond 244 with found:=.tup [.tup [.str 78],.none]},nC:=D.nC+1,tk:=uF D.tk i {D.tk i with state:=.str 173,bu:=.fz [],wake:=.none,answer:=.tup [.str 78],call:=.none},aC:=D.aC.set k (.int who)} j')):
 wG (n+7) (.fn 72) [.ref #[f,14,0],.ref #[f,2,i],.int who,.tup [.str 189,.int k,B]] (hp f D j) Q X:=by
 refine tA aa λj1 m1 m2 G l J dG cx h O k1 k2 e P u y d z=> ?_;obtain jn:k<D.aC.length:=(eU.mp hk).1;unfold oO;erw[k1,k2,e,P,u,y,d,z,h,O];refine uK aa.hh hk aa.hk h O ?_;erw[k1,k2,e,P,u,y,d,z,h,O,aa.pE];refine M9 (m:=m) aa.hi aa.hm aa.nu hw ?_;erw[k1,k2,e,P,u,y,d,z,h,O];refine AN aa.hh hk aa.hk ?_;erw[k1,k2,e,P,u,y,d,z,h,O];refine Et (i:=i) (bA _) aa.hi (by simp only[aD,cO]) ?_;erw[k1,k2,e,P,u,y,d,z,h,O];refine sD (x:=.int who) (qs:=qs) (by exact hq) aa.hg (by simp only[aD];exact aa.eI) h0 aa.hh (by simp only[];rw[List.getElem?_set_self jn]) aa.hk h O dG cx (.inl rfl) λj2 fP=> ?_;lk;refine ow ?_;erw[P,d];refine rh (m:=num) aa.hg aa.hi (by simp only[aD]) (by simp only[aD]) (by simp only[aD];exact aa.jo) λj3 iE=> ?_;lk;refine bt ?_;have:=q j3 (Jk.le_trans J (Jk.le_trans fP iE));simpa only[rj aa,aa.h0,fh,aD,cO,aa.nu]using this
def MB{i k:Nat}{who m num x:Int}{iY dl:V}{cond:Bool}(aa:mJ f D i k m num)(hk:D.aC[k]? =some (.int x))(hq:Qs f D.tq D.ql D.nQ qs)(h0:(qs (50+k)).length<800)(hw:WD D.now iY dl cond)
 (q1:cond=true->∀j',j.le j'->Q .none (hp f {D with K:={D.K with cJ:=.int (m+1)},cl:=uF D.cl D.nC (cO f i #[f,3,k] 189 who (m+1) dl cond 244),nC:=D.nC+1,tk:=uF D.tk i {D.tk i with answer:=.tup [.str 92],call:=.none}} j'))
 (q2:cond=false->∀j' db J B,j.le j'->Qs f db J B (uF qs (50+k) (qs (50+k)++[D.nC]))->Q .none (hp f {D with K:={D.K with cJ:=.int (m+1)},cl:=uF D.cl D.nC (cO f i #[f,3,k] 189 who (m+1) dl cond 242),nC:=D.nC+1,tq:=db,ql:=J,nQ:=B,tk:=uF D.tk i {D.tk i with answer:=.none,call:=.ref #[f,0,D.nC],state:=.str 245,wake:=dl}} j')):
 wG (n+7) (.fn 72) [.ref #[f,14,0],.ref #[f,2,i],.int who,.tup [.str 189,.int k,iY]] (hp f D j) Q X:=by
 refine tA aa λj1 m1 m2 G l hj dG cx h O k1 k2 e P u y d z=> ?_;have jn:k<D.aC.length:=(eU.mp hk).1;unfold oO;erw[k1,k2,e,P,u,y,d,z,h,O];refine uK aa.hh hk aa.hk h O ?_;erw[k1,k2,e,P,u,y,d,z,h,O,aa.pE];refine W7 (m:=m) (qs:=qs) aa.hi aa.hg aa.hm aa.nu hw (by simp only[aD];exact aa.eI) (by exact hq) (by lia) (λyw=> ?_) (λyw db J B cG=> ?_)
 .erw[k1,k2,e,P,u,y,d,z,h,O];refine sD (x:=.int x) (qs:=qs) (by exact hq) aa.hg (by simp only[aD];exact aa.eI) (by lia) aa.hh hk aa.hk h O dG cx (.inl rfl) λj2 fP=> ?_;lk;refine ow ?_;erw[P,d];refine rh (m:=num) aa.hg aa.hi (by simp only[aD]) (by simp only[aD]) (by simp only[aD];exact aa.jo) λj3 iE=> ?_;lk;refine bt ?_;have:=q1 yw j3 (Jk.le_trans hj (Jk.le_trans fP iE));simpa only[rj aa,aa.h0,fh,aD,cO,aa.nu]using this
 .erw[k1,k2,e,P,u,y,d,z,h,O];refine sD (x:=.int x) (qs:=uF qs (50+k) (qs (50+k)++[D.nC])) (by exact cG) aa.hg (by simp only[aD];exact aa.eI) (by rw[aD,eV];simp only[gu,List.length_nil];lia) aa.hh hk aa.hk h O dG cx (.inl rfl) λj2 fP=> ?_;lk;refine ow ?_;erw[P,d];refine rh (m:=num) aa.hg aa.hi (by simp only[aD]) (by simp only[aD]) (by simp only[aD];exact aa.jo) λj3 iE=> ?_;lk;refine bt ?_;have:=q2 yw j3 db J B (Jk.le_trans hj (Jk.le_trans fP iE)) cG;simpa only[rj aa,aa.h0,fh,aD,cO,aa.nu]using this
def fO{c:H->Prop}{B:k36}{Q:k02}(ae:List V->Lc->H->Prop)(hc:∀xs l h,ae xs l h->c h)
 (hB:∀x xs l h,ae (x::xs) l h->∀K:Fl->Lc->H->Prop,(∀l' h',ae xs l' h'->K .next l' h')->B x l h K):∀(xs:k00) (l:Lc) (h:H),ae xs l h->(∀l' h',ae [] l' h'->Q .next l' h')->cF c B xs l h Q
 |[],l,h,i,q=>#[hc _ _ _ i,q _ _ i]
 |x::xs,l,h,i,q=>#[hc _ _ _ i,hB x xs l h i _ λl' h' D=>fO ae hc hB xs l' h' D q]
def xQ{af:Type}(r d:af->V)(g:V->Option V)(p:af->Bool):∀xs:List af,(∀i∈xs,g (r i)=if p i then some (d i)else none)->(xs.map r).filterMap g=(xs.filter p).map d
 |[],_=>rfl
 |x::xs,h=>by
  have G:=xQ r d g p xs λi O=>h i (.tail _ O);have D:=h x (.head _);cases hp:p x
  .rw[hp]at D;rw[List.map_cons,List.filterMap_cons_none D,List.filter_cons_of_neg (by simp[hp]),G]
  .rw[hp]at D;rw[List.map_cons,List.filterMap_cons_some D,List.filter_cons_of_pos (by simp[hp]),G,List.map_cons]
def bD(f n:Nat):List V:=(List.range n).map λi=>V.ref #[f,2,i]
def aE(t:TR):Nat:=match t.state with|.str n=>n|_=>0
def fB(f n):(bD f n).length=n:=by simp[bD]
def sL{f n x}(h:x∈bD f n):∃i,i<n/\x=V.ref #[f,2,i]:=by obtain⟨i,D,rfl⟩:=bv.mp h;exact#[i,ej.mp D,rfl]
structure TS(f:Nat)(D:Fs):Prop where
 aY:D.aY=bD f D.nT
 bC:D.bC=bD f D.nT
 n:D.nT<=10
 fQ:D.K.aY=.ref #[f,17,0]
 nW:D.K.nZ=.ref #[f,5,0]
 j6:D.K.eX=.ref #[f,1,0]
 k8:D.M.bC=.ref #[f,18,0]
 st:∀i,i<D.nT->(D.tk i).state=.str (aE (D.tk i))
 lv:∀i,i<D.nT->aE (D.tk i)≠50
 op:∀i,i<D.nT->aE (D.tk i)=247->∃k,(D.tk i).bu=.fz [.tup [.int 0,.str 81,.gk k],.tup [.int 1,.str 155,.none]]
def kZ{h:H}(p:Nat->Bool)(r:Nat->V)(m:Nat)(d:h a=.live (.list (bD f m)))(hB:∀i,i<m->∀K:Option V->H->Prop,K (if p i then some (r i)else none) h->kC az O G e ts cs (.ref #[f,2,i]) h K)
 (q:iF z t Q (((List.range m).filter p).map r) h):l7 az O G (bD f m) (.ref a) false e ts cs z t Q h:=by
 refine pH (λv=>v.gO λa=>if p a.i then some (r a.i)else none) (dh (lx d)) (λx P K q=> ?_) ?_
 .obtain⟨i,D,rfl⟩:=sL P;exact hB i D K q
 .unfold bD;rw[xQ (λi=>V.ref #[f,2,i]) r _ p _ λi D=>rfl];exact q
def wm(T:TS f D)(q:Q (.bool false) (hp f D j)):wG (n+1) (.fn 51) [.ref #[f,6,0]] (hp f D j) Q X:=by
 k_lt D7;obtain d:(bD f D.nT).length<=1000:=by rw[fB];have:=T.n;lia
 erw[T.fQ,T.aY,d];refine fO (λxs l h=>(∀x∈xs,∃i,i<D.nT/\x=V.ref #[f,2,i])/\l 150=some (.bool false)/\h=hp f D j) (λxs l h i=>by rw[i.2.2];exact dh (lx (by rw[iM,T.aY]))) (λx xs l h i K q=> ?_) _ _ _ #[λx G=>sL G,rfl,rfl] λu h' i=> ?_
 .obtain⟨G,O,rfl⟩:=i;obtain⟨i,P,rfl⟩:=G x (.head _);erw[P];exact q _ _ #[λy e=>G y (.tail _ e),by simpa[upd]using O,rfl]
 .obtain⟨_,O,rfl⟩:=i;erw[O];exact aR q
def Eg(T:TS f D)(q:Q (.bool (decide (((List.range D.nT).filter λi=>decide (aE (D.tk i)≠251))=[]))) (hp f D j)):wG (n+1) (.fn 47) [.ref #[f,5,0]] (hp f D j) Q X:=by
 k_lt Dw;obtain P:(bD f D.nT).length<=1000:=by rw[fB];have:=T.n;lia
 erw[T.k8,T.bC,P];refine kZ (λi=>decide (aE (D.tk i)≠251)) (λi=>V.ref #[f,2,i]) D.nT (by rw[qb,T.bC]) (λi G K q=> ?_) ?_
 .by_cases h:aE (D.tk i)=251
  .simp only[h]at q;erw[G,T.st i G,h];exact q
  .simp only[ne_eq,h,not_false_eq_true,decide_true,if_true]at q;erw[G,T.st i G,h];exact q
 .obtain O:(((List.range D.nT).filter λi=>decide (aE (D.tk i)≠251)).map λi=>V.ref #[f,2,i]).length<=1000:=by rw[be];have:=List.length_filter_le (λi=>decide (aE (D.tk i)≠251)) (List.range D.nT);rw[cC]at this;have:=T.n;lia
  obtain d:∀xs:List Nat,da (xs.map λi=>V.ref #[f,2,i]) []=some (decide (xs=[])):=λxs=>by cases xs<;>rfl
  erw[O,d];exact aR q
def qW(T:TS f D)(hi:i<D.nT)(q:Q (.bool (decide (aE (D.tk i)=247))) (hp f D j)):wG (n+1) (.fn 53) [.ref #[f,2,i]] (hp f D j) Q X:=by
 k_lt DA;by_cases h:aE (D.tk i)=247
 .obtain⟨k,hk⟩:=T.op i hi h;simp only[h]at q;erw[hi,T.st i hi,h,hk];refine pH (λv=>v.mw λxs=>xs[2]?.bind λd=>bif ev d then some (.str 155)else none) (dh (mx _ _)) (λx G K q=> ?_) ?_
  .rcases b8.mp G with rfl|G
   .lk;exact q
   .cases cu.mp G;lk;exact q
  .rw[show([_,_]:List V).filterMap _=[V.str 155]from rfl];lk;exact aR q
 .simp only[h]at q;erw[hi,T.st i hi,h];exact aR q
def Jb(T:TS f D)(hi:i<D.nT)(q:Q (.bool (decide (aE (D.tk i)=251\/aE (D.tk i)=247\/aE (D.tk i)=250))) (hp f D j)):wG (n+2) (.fn 54) [.ref #[f,2,i]] (hp f D j) Q X:=by
 k_lt DQ;by_cases h:aE (D.tk i)=251
 .simp only[h,true_or,decide_true]at q;erw[hi,T.st i hi,h];exact aR q
 .erw[hi,T.st i hi,h];refine qW T hi ?_;by_cases G:aE (D.tk i)=247
  .simp only[G,true_or,or_true,decide_true]at q;erw[hi,G];exact aR q
  .by_cases O:aE (D.tk i)=250
   .simp only[O,or_true,decide_true]at q;erw[hi,T.st i hi,G,O];exact aR q
   .simp only[h,G,O,or_self,decide_false]at q;erw[hi,T.st i hi,G,O];exact aR q
def Xr(T:TS f D)(q:Q (.fz (((List.range D.nT).filter λi=>decide (aE (D.tk i)=173)).map λi=>V.ref #[f,2,i])) (hp f D j)):wG (n+1) (.fn 61) [.ref #[f,6,0]] (hp f D j) Q X:=by
 k_lt D4;obtain P:(bD f D.nT).length<=1000:=by rw[fB];have:=T.n;lia
 erw[T.fQ,T.aY,P];refine kZ (λi=>decide (aE (D.tk i)=173)) (λi=>V.ref #[f,2,i]) D.nT (by rw[iM,T.aY]) (λi G K q=> ?_) ?_
 .by_cases h:aE (D.tk i)=173
  .simp only[h,decide_true,if_true]at q;erw[G,T.st i G,h];exact q
  .simp only[h,decide_false]at q;erw[G,T.st i G,h];exact q
 .obtain O:(((List.range D.nT).filter λi=>decide (aE (D.tk i)=173)).map λi=>V.ref #[f,2,i]).length<=1000:=by rw[be];have:=List.length_filter_le (λi=>decide (aE (D.tk i)=173)) (List.range D.nT);rw[cC]at this;have:=T.n;lia
  erw[O];exact aR q
def KH(T:TS f D)(d:∀i,i<D.nT->(D.tk i).number=.int (i+1))(q:Q (.fz (((List.range D.nT).filter λi=>decide (aE (D.tk i)≠251/\aE (D.tk i)≠142)).map λi:Nat=>V.int (i+1))) (hp f D j)):wG (n+1) (.fn 62) [.ref #[f,6,0]] (hp f D j) Q X:=by
 k_lt Ed;obtain B:(bD f D.nT).length<=1000:=by rw[fB];have:=T.n;lia
 erw[T.fQ,T.aY,B];refine kZ (λi=>decide (aE (D.tk i)≠251/\aE (D.tk i)≠142)) (λi=>V.int (i+1)) D.nT (by rw[iM,T.aY]) (λi G K q=> ?_) ?_
 .by_cases h:aE (D.tk i)=251
  .simp only[h,ne_eq,not_true_eq_false,false_and,decide_false]at q;erw[G,T.st i G,h];exact q
  .by_cases h':aE (D.tk i)=142
   .simp only[h',ne_eq,not_true_eq_false,and_false,decide_false]at q;erw[G,T.st i G,h'];exact q
   .simp only[h,h',ne_eq,not_false_eq_true,and_self,decide_true,if_true]at q;erw[G,T.st i G,h,h',d i G];exact q
 .obtain O:(((List.range D.nT).filter λi=>decide (aE (D.tk i)≠251/\aE (D.tk i)≠142)).map λi:Nat=>V.int (i+1)).length<=1000:=by rw[be];have:=List.length_filter_le (λi=>decide (aE (D.tk i)≠251/\aE (D.tk i)≠142)) (List.range D.nT);rw[cC]at this;have:=T.n;lia
  erw[O];exact aR q
def Kn(h:k<n):(bD f n).drop k=V.ref #[f,2,k]::(bD f n).drop (k+1):=by rw[List.drop_eq_getElem_cons (by rw[fB];exact h)];simp[bD]
def Br(h:(bD f n).drop k=x::xs):k<n/\x=V.ref #[f,2,k]/\xs=(bD f n).drop (k+1):=by
 by_cases hk:k<n
 .rw[Kn hk]at h;cases h;exact#[hk,rfl,rfl]
 .rw[List.drop_eq_nil_of_le (by rw[fB];lia)]at h;cases h
def Bt(h:(bD f n).drop k=[]):n<=k:=by
 by_cases hk:k<n
 .rw[Kn hk]at h;cases h
 .lia
def bd(p:TR->Bool)(g:TR->TR)(tk:Nat->TR)(k:Nat):Nat->TR:=λi=>if i<k then(if p (tk i)then g (tk i)else tk i)else tk i
def C2(p g tk):bd p g tk 0=tk:=by funext i;simp[bd]
def wA(p g tk k):bd p g tk k k=tk k:=by simp[bd]
def C4{p g tk k}(h:p (tk k)=true):uF (bd p g tk k) k (g (tk k))=bd p g tk (k+1):=by
 funext i;unfold uF bd;by_cases G:i=k
 .subst G;rw[al rfl,al (bA _),h];rfl
 .rw[ak G];by_cases D:i<k
  .rw[al D,al (show i<k+1 by lia)]
  .rw[ak D,ak (show¬i<k+1 by lia)]
def C3{p g tk k}(h:p (tk k)=false):bd p g tk (k+1)=bd p g tk k:=by
 funext i;unfold bd;by_cases G:i=k
 .subst G;rw[al (bA _),h,ak (fK _)];rfl
 .by_cases D:i<k
  .rw[al D,al (show i<k+1 by lia)]
  .rw[ak D,ak (show¬i<k+1 by lia)]
def jc{p g tk k i}(h:i<k):bd p g tk k i=if p (tk i)then g (tk i)else tk i:=al h
def bH(t:TR):Bool:=decide (aE t=250)
def toD(t:TR):TR:={t with state:=.str 251}
def cQ(t:TR):Bool:=decide (aE t=247)
def toC(t:TR):TR:={t with bu:=.fz [],wake:=.none,state:=.str 250}
def qj(t):aE (toC t)=250:=rfl
def sH(t):aE (toD t)=251:=rfl
def xu(T:TS f D)(q:Q (.bool ((List.range D.nT).any λi=>bH (D.tk i))) (hp f {D with tk:=bd bH toD D.tk D.nT} j)):wG (n+1) (.fn 52) [.ref #[f,6,0]] (hp f D j) Q X:=by
 k_lt D8;obtain B:(bD f D.nT).length<=1000:=by rw[fB];have:=T.n;lia
 erw[T.fQ,T.aY,B];refine fO (λxs l h=>∃k,k<=D.nT/\xs=(bD f D.nT).drop k/\l 150=some (.bool ((List.range k).any λi=>bH (D.tk i)))/\h=hp f {D with tk:=bd bH toD D.tk k} j) (λxs l h #[k,_,_,_,i]=>by rw[i];exact dh (lx (by rw[iM,T.aY])))
  (λx xs l h i K q=> ?_) _ _ _ #[0,cD _,rfl,rfl,by rw[C2]] λJ h' i=> ?_
 .obtain⟨k,hk,d,P,i⟩:=i;obtain⟨G,rfl,rfl⟩:=Br d.symm;subst i;have e:(List.range (k+1)).any (λi=>bH (D.tk i))=((List.range k).any (λi=>bH (D.tk i))||bH (D.tk k)):=by rw[List.range_succ,List.any_append];simp
  have u:=T.st k G;by_cases h:aE (D.tk k)=250
  .have O:bH (D.tk k)=true:=by simp[bH,h]
   erw[G,wA,u,h];refine q _ _ #[k+1,G,rfl,?_,?_]
   .simp[upd,e,O]
   .rw[←C4 O];rfl
  .have O:bH (D.tk k)=false:=by simp[bH,h]
   obtain y:=T.lv k G;erw[G,wA,u,h,y];refine q _ _ #[k+1,G,rfl,?_,?_]
   .simp[upd,e,O,P]
   .rw[C3 O]
 .obtain⟨k,hk,d,P,i⟩:=i;have:=Bt d.symm;obtain z:k=D.nT:=by lia
  subst z i;erw[P];exact aR q
def O5(T:TS f D)(d:D.M.ended=.bool false)(q:Q (.fz []) (hp f D j)):wG (n+1) (.fn 55) [.ref #[f,6,0]] (hp f D j) Q X:=by
 k_lt w6;obtain e:(bD f D.nT).length<=1000:=by rw[fB];have:=T.n;lia
 erw[T.fQ,T.aY,T.nW,d,e];refine fO (λxs l h=>(∀x∈xs,∃i,i<D.nT/\x=V.ref #[f,2,i])/\l 7=some (.fz [])/\h=hp f D j) (λxs l h i=>by rw[i.2.2];exact dh (lx (by rw[iM,T.aY]))) (λx xs l h i K q=> ?_) _ _ _ #[λx O=>sL O,rfl,rfl] λz h' i=> ?_
 .obtain⟨O,G,rfl⟩:=i;obtain⟨i,P,rfl⟩:=O x (.head _);erw[P,G];exact q _ _ #[λy u=>O y (.tail _ u),by simpa[upd]using G,rfl]
 .obtain⟨_,G,rfl⟩:=i;erw[G];exact aR q
def Er(T:TS f D)(d:D.M.ended=.bool true)(q:Q (.fz [.ref #[f,5,0]]) (hp f D j)):wG (n+1) (.fn 55) [.ref #[f,6,0]] (hp f D j) Q X:=by
 k_lt w6;obtain e:(bD f D.nT).length<=1000:=by rw[fB];have:=T.n;lia
 erw[T.fQ,T.aY,T.nW,d,e];refine fO (λxs l h=>(∀x∈xs,∃i,i<D.nT/\x=V.ref #[f,2,i])/\l 7=some (.fz [.ref #[f,5,0]])/\h=hp f D j) (λxs l h i=>by rw[i.2.2];exact dh (lx (by rw[iM,T.aY]))) (λx xs l h i K q=> ?_) _ _ _ #[λx O=>sL O,rfl,rfl] λz h' i=> ?_
 .obtain⟨O,G,rfl⟩:=i;obtain⟨i,P,rfl⟩:=O x (.head _);erw[P,G];exact q _ _ #[λy u=>O y (.tail _ u),by simpa[upd]using G,rfl]
 .obtain⟨_,G,rfl⟩:=i;erw[G];exact aR q
def MJ(T:TS f D)(hi:i<D.nT)(h:aE (D.tk i)≠247)(q:Q .none (hp f D j)):wG (n+2) (.fn 56) [.ref #[f,2,i]] (hp f D j) Q X:=by k_lt xi;erw[hi];refine qW T hi ?_;erw[h];exact bt q
def MK(T:TS f D)(hi:i<D.nT)(h:aE (D.tk i)=247)(d:D.tq i=[])(e:(D.tk i).bP=.ref #[f,7,i])(x:(D.tk i).cK=.ref #[f,10,i])(u:D.sv i=[])(q:∀j',j.le j'->Q .none (hp f {D with tk:=uF D.tk i (toC (D.tk i))} j')):wG (n+3) (.fn 56) [.ref #[f,2,i]] (hp f D j) Q X:=by k_lt xi;erw[hi];refine qW T hi ?_;erw[h];refine Dk hi d e x u λj' G=> ?_;lk;exact bt (q j' G)
def dN(tk:Nat->TR)(m:Nat):Prop:=((List.range m).filter λi=> !decide (aE (tk i)=251\/aE (tk i)=247\/aE (tk i)=250))=[]
def jN(tk:Nat->TR)(m:Nat):Prop:=((List.range m).filter λi=>decide (aE (tk i)≠251))=[]
def TS.ch(T:TS f D)(p:TR->Bool)(g:TR->TR)(k:Nat)(hg:∀i,i<D.nT->p (D.tk i)=true->(g (D.tk i)).state=.str (aE (g (D.tk i)))/\aE (g (D.tk i))≠50/\aE (g (D.tk i))≠247):TS f {D with tk:=bd p g D.tk k}:=by
 have h:∀i,bd p g D.tk k i=D.tk i\/(p (D.tk i)=true/\bd p g D.tk k i=g (D.tk i)):=λi=>by
  unfold bd;split
  .split
   .rename_i h;exact .inr #[h,rfl]
   .exact .inl rfl
  .exact .inl rfl
 refine#[T.aY,T.bC,T.n,T.fQ,T.nW,T.j6,T.k8,λi G=> ?_,λi G=> ?_,λi G P=> ?_]
 .show(bd p g D.tk k i).state=.str (aE (bd p g D.tk k i));rcases h i with e|⟨hp,e⟩<;>rw[e]
  .exact T.st i G
  .exact(hg i G hp).1
 .show aE (bd p g D.tk k i)≠50;rcases h i with e|⟨hp,e⟩<;>rw[e]
  .exact T.lv i G
  .exact(hg i G hp).2.1
 .show∃k',(bd p g D.tk k i).bu=_;have O:aE (bd p g D.tk k i)=247:=P;rcases h i with e|⟨hp,e⟩<;>rw[e]at O⊢
  .exact T.op i G O
  .exact absurd O (hg i G hp).2.2
def mU(m:Nat)(p:Nat->Bool):((List.range m).filter p)=[]↔∀i,i<m->p i=false:=by rw[List.filter_eq_nil_iff];simp
def Za(T:TS f D)(d:D.M.ended=.bool false)(q:Q (.bool false) (hp f D j)):wG (n+2) (.fn 57) [.ref #[f,6,0]] (hp f D j) Q X:=by k_lt tL;lk;refine O5 T d ?_;lk;exact aR q
def vx(f:Nat):∀xs:List Nat,da (xs.map λi=>V.ref #[f,2,i]) []=some (decide (xs=[]))
 |[]=>rfl
 |_::_=>rfl
def o9(m:Nat)(f:Nat)(p:Nat->Bool)(d:m<=10):(((List.range m).filter p).map λi=>V.ref #[f,2,i]).length<=1000:=by rw[be];have:=List.length_filter_le p (List.range m);rw[cC]at this;lia
def Zb(T:TS f D)(d:D.M.ended=.bool true)(x:jN D.tk D.nT\/¬dN D.tk D.nT)(q:Q (.bool false) (hp f D j)):wG (n+4) (.fn 57) [.ref #[f,6,0]] (hp f D j) Q X:=by
 k_lt tL;lk;refine Er T d ?_;lk;refine Eg T ?_;by_cases O:jN D.tk D.nT
 .have G:=O;unfold jN at G;erw[G];exact aR q
 .have G:=O;unfold jN at G;obtain u:(bD f D.nT).length<=1000:=by rw[fB];have:=T.n;lia
  erw[G,T.k8,T.bC,u];refine kZ (λi=> !decide (aE (D.tk i)=251\/aE (D.tk i)=247\/aE (D.tk i)=250)) (λi=>V.ref #[f,2,i]) D.nT (by rw[qb,T.bC]) (λi e K q=> ?_) ?_
  .lk;refine Jb T e ?_;by_cases h:aE (D.tk i)=251\/aE (D.tk i)=247\/aE (D.tk i)=250
   .simp only[h,decide_true,Bool.not_true]at q;erw[h];exact q
   .simp only[h,decide_false,Bool.not_false,if_true]at q;erw[h];exact q
  .have P:=x.resolve_left O;unfold dN at P;erw[o9 _ f _ T.n,vx,P];exact aR q
def Zc(T:TS f D)(hE:D.M.ended=.bool true)(hD:¬jN D.tk D.nT)(hQ:dN D.tk D.nT)(bN:∃i,i<D.nT/\aE (D.tk i)=247)
 (hz:∀i,i<D.nT->aE (D.tk i)=247->D.tq i=[]/\(D.tk i).bP=.ref #[f,7,i]/\(D.tk i).cK=.ref #[f,10,i]/\D.sv i=[])(q:∀j',j.le j'->Q (.bool true) (hp f {D with tk:=bd cQ toC D.tk D.nT} j')):
 wG (n+4) (.fn 57) [.ref #[f,6,0]] (hp f D j) Q X:=by
 k_lt tL;lk;refine Er T hE ?_;lk;refine Eg T ?_;have B:=hD;unfold jN at B;have J:=hQ;unfold dN at J;have z:(bD f D.nT).length<=1000:=by rw[fB];have:=T.n;lia
 erw[B,T.k8,T.bC,z];refine kZ (λi=> !decide (aE (D.tk i)=251\/aE (D.tk i)=247\/aE (D.tk i)=250)) (λi=>V.ref #[f,2,i]) D.nT (by rw[qb,T.bC]) (λi G K q=> ?_) ?_
 .lk;refine Jb T G ?_;by_cases h:aE (D.tk i)=251\/aE (D.tk i)=247\/aE (D.tk i)=250
  .simp only[h,decide_true,Bool.not_true]at q;erw[h];exact q
  .simp only[h,decide_false,Bool.not_false,if_true]at q;erw[h];exact q
 .erw[o9 _ f _ T.n,vx,J,T.fQ,T.aY,z];refine kZ (λi=>decide (aE (D.tk i)=247)) (λi=>V.ref #[f,2,i]) D.nT (by rw[iM,T.aY]) (λi G K q=> ?_) ?_
  .lk;refine qW T G ?_;by_cases h:aE (D.tk i)=247
   .simp only[h,decide_true,if_true]at q;erw[h];exact q
   .simp only[h,decide_false]at q;erw[h];exact q
  .erw[o9 _ f _ T.n,vx,T.k8,T.bC,z];refine fO (λxs l h=>∃k j',k<=D.nT/\j.le j'/\xs=(bD f D.nT).drop k/\l 26=some (.fz (((List.range D.nT).filter λi=>decide (aE (D.tk i)=247)).map λi=>V.ref #[f,2,i]))/\h=hp f {D with tk:=bd cQ toC D.tk k} j') (λxs l h #[k,j',_,_,_,_,i]=>by rw[i];exact dh (lx (by rw[qb,T.bC])))
    (λx xs l h i K q=> ?_) _ _ _ #[0,j,cD _,j.le_rfl,rfl,rfl,by rw[C2]] λl' h' i=> ?_
   .obtain⟨k,j',hk,u,P,y,i⟩:=i;obtain⟨O,rfl,rfl⟩:=Br P.symm;subst i;have d:TS f {D with tk:=bd cQ toC D.tk k}:=T.ch cQ toC k (λi G U=>#[rfl,by rw[qj];decide,by rw[qj];decide]);have e:bd cQ toC D.tk k k=D.tk k:=wA _ _ _ _;by_cases h:aE (D.tk k)=247
    .obtain⟨z1,z2,z3,z4⟩:=hz k O h;lk;refine MK d O (by simp only[e];exact h) z1 (by simp only[e];exact z2) (by simp only[e];exact z3) z4 λj2 fP=> ?_;erw[e];refine q _ _ #[k+1,j2,O,Jk.le_trans u fP,rfl,?_,?_]
     .simpa[upd]using y
     .rw[←C4 (by simp[cQ,h])]
    .lk;refine MJ d O (by simp only[e];exact h) ?_;lk;refine q _ _ #[k+1,j',O,u,rfl,?_,?_]
     .simpa[upd]using y
     .rw[C3 (by simp[cQ,h])]
   .obtain⟨k,j',hk,u,P,y,i⟩:=i;have:=Bt P.symm;obtain yN:k=D.nT:=by lia
    subst yN i;obtain d:TS f {D with tk:=bd cQ toC D.tk D.nT}:=T.ch cQ toC D.nT (λi G U=>#[rfl,by rw[qj];decide,by rw[qj];decide]);erw[y,o9 _ f _ T.n];refine pH (λv=>some v) (dh (mx _ _)) (λx P K q=> ?_) ?_
    .obtain⟨i,G,rfl⟩:=bv.mp P;obtain⟨uh,lS⟩:=fZ.mp G;obtain ui:aE (D.tk i)=247:=aP lS;lk;refine qW d (ej.mp uh) ?_;obtain e:aE (bd cQ toC D.tk D.nT i)=250:=by rw[jc (ej.mp uh),al (by simp[cQ,ui])];rfl
     erw[e];exact q
    .obtain Sz:¬((List.range D.nT).filter λi=>decide (aE (D.tk i)=247))=[]:=by intro h;obtain⟨i,G,hs⟩:=bN;have:=(mU _ _).mp h i G;simp[hs]at this
     rw[List.filterMap_some];erw[o9 _ f _ T.n,vx,Sz];exact aR (q _ u)
def wB{p g tk k}(h:∀i,i<k->p (tk i)=false):bd p g tk k=tk:=by
 funext i;unfold bd;split
 .rename_i D;rw[h i D];rfl
 .rfl
def kh:E:=.eP (.call (.ba 152) (.cons (.loc 93) .nil)) (.eP (.call (.ba 154) (.cons (.loc 93) .nil)) (.call (.ba 160) (.cons (.loc 93) .nil)))
def kg:Ss:=.cons (.kB (.loc 93) 161 .add (.int 1)) .nil
def X9:xh.body=.cons (.gT kh kg) .nil:=rfl
variable{R:k02}{Z:k08}
def wq(tk:Nat->TR)(m:Nat):((List.range m).any λi=>bH (tk i))=true↔∃i,i<m/\aE (tk i)=250:=by
 rw[List.any_eq_true];constructor
 .rintro⟨i,D,h⟩;exact#[i,ej.mp D,aP h]
 .rintro⟨i,D,h⟩;exact#[i,ej.mpr D,by simp[bH,h]]
def JA(T:TS f D)(e:∀i,i<D.nT->aE (D.tk i)≠250){E:Bool}(u:D.M.ended=.bool E)(x:E=false\/jN D.tk D.nT\/¬dN D.tk D.nT){l:Lc}(d:l 93=some (.ref #[f,6,0]))(m:Nat)(q:R .next l (hp f D j)):
 dJ (dY az (wG (n+4)) bx kh Z) (en az (wG (n+4)) bx kg Z) (m+1) l (hp f D j) R:=by
 unfold kh kg;obtain hb:((List.range D.nT).any λi=>bH (D.tk i))=false:=by rw[f0];intro h;obtain⟨i,G,h⟩:=(wq _ _).mp h;exact e i G h
 obtain O:bd bH toD D.tk D.nT=D.tk:=wB λi G=>by simp[bH,e i G]
 erw[d];refine wm T ?_;erw[d];refine xu T ?_;rw[hb,O];erw[d];cases E with
 |false=>refine Za T u ?_;lk;exact q
 |true=>refine Zb T u (x.resolve_left (by simp)) ?_;lk;exact q
def Jz(T:TS f D)(e:∃i,i<D.nT/\aE (D.tk i)=250)(u:D.K.settled=.int s){l:Lc}(d:l 93=some (.ref #[f,6,0]))(m:Nat)
 (q:dJ (dY az (wG (n+4)) bx kh Z) (en az (wG (n+4)) bx kg Z) m l (hp f {D with tk:=bd bH toD D.tk D.nT,K:={D.K with settled:=.int (s+1)}} j) R):
 dJ (dY az (wG (n+4)) bx kh Z) (en az (wG (n+4)) bx kg Z) (m+1) l (hp f D j) R:=by
 unfold kh kg at*;obtain hb:=(wq D.tk D.nT).mpr e;erw[d];refine wm T ?_;erw[d];refine xu T ?_;rw[hb];erw[d,u];exact q
def X8(T:TS f D)(e:∀i,i<D.nT->aE (D.tk i)≠250)(u:D.M.ended=.bool true)(hD:¬jN D.tk D.nT)(x:dN D.tk D.nT)(y:∃i,i<D.nT/\aE (D.tk i)=247)
 (hz:∀i,i<D.nT->aE (D.tk i)=247->D.tq i=[]/\(D.tk i).bP=.ref #[f,7,i]/\(D.tk i).cK=.ref #[f,10,i]/\D.sv i=[])(z:D.K.settled=.int s){l:Lc}(d:l 93=some (.ref #[f,6,0]))(m:Nat)
 (q:∀j',j.le j'->dJ (dY az (wG (n+4)) bx kh Z) (en az (wG (n+4)) bx kg Z) m l (hp f {D with tk:=bd cQ toC D.tk D.nT,K:={D.K with settled:=.int (s+1)}} j') R):
 dJ (dY az (wG (n+4)) bx kh Z) (en az (wG (n+4)) bx kg Z) (m+1) l (hp f D j) R:=by
 unfold kh kg at*;obtain hb:((List.range D.nT).any λi=>bH (D.tk i))=false:=by rw[f0];intro h;obtain⟨i,G,h⟩:=(wq _ _).mp h;exact e i G h
 obtain O:bd bH toD D.tk D.nT=D.tk:=wB λi G=>by simp[bH,e i G]
 erw[d];refine wm T ?_;erw[d];refine xu T ?_;rw[hb,O];erw[d];refine Zc T u hD x y hz λj' P=> ?_;erw[d,z];exact q j' P
def TS.toD(T:TS f D)(k:Nat)(K:V):TS f {D with tk:=bd bH toD D.tk k,K:={D.K with settled:=K}}:=by have:=T.ch bH Internal.toD k (λi h U=>#[rfl,by rw[sH];decide,by rw[sH];decide]);exact#[this.aY,this.bC,this.n,this.fQ,this.nW,this.j6,this.k8,this.st,this.lv,this.op]
def TS.toA(T:TS f D)(k:Nat)(K:V):TS f {D with tk:=bd cQ toC D.tk k,K:={D.K with settled:=K}}:=by have:=T.ch cQ Internal.toC k (λi h U=>#[rfl,by rw[qj];decide,by rw[qj];decide]);exact#[this.aY,this.bC,this.n,this.fQ,this.nW,this.j6,this.k8,this.st,this.lv,this.op]
def TS.K(T:TS f D)(K:V):TS f {D with K:={D.K with settled:=K}}:=#[T.aY,T.bC,T.n,T.fQ,T.nW,T.j6,T.k8,T.st,T.lv,T.op]
def C1(tk:Nat->TR)(m:Nat):∀i,i<m->aE (bd bH toD tk m i)≠250:=λi D=>by
 rw[jc D];split
 .rw[sH];decide
 .rename_i h;simpa[bH]using h
def wo(tk:Nat->TR)(m:Nat):jN tk m↔∀i,i<m->aE (tk i)=251:=by unfold jN;rw[mU];simp
def qS(tk:Nat->TR)(m:Nat):dN tk m↔∀i,i<m->(aE (tk i)=251\/aE (tk i)=247\/aE (tk i)=250):=by
 unfold dN;rw[mU];constructor
 .intro h i D;have:=h i D;rw[Bool.not_eq_false',decide_eq_true_iff]at this;exact this
 .intro h i D;rw[Bool.not_eq_false',decide_eq_true_iff];exact h i D
def Yb(T:TS f D){E:Bool}(hE:D.M.ended=.bool E){s:Int}(hs:D.K.settled=.int s)
 (hz:E=true->∀i,i<D.nT->aE (D.tk i)=247->dN D.tk D.nT->D.tq i=[]/\(D.tk i).bP=.ref #[f,7,i]/\(D.tk i).cK=.ref #[f,10,i]/\D.sv i=[])
 (q1:(E=false\/¬dN D.tk D.nT\/∀i,i<D.nT->aE (D.tk i)≠247)->∀s':Int,Q .none (hp f {D with tk:=bd bH toD D.tk D.nT,K:={D.K with settled:=.int s'}} j))
 (q2:E=true->dN D.tk D.nT->∀(s':Int) j',j.le j'->Q .none (hp f {D with tk:=bd bH toD (bd cQ toC (bd bH toD D.tk D.nT) D.nT) D.nT,K:={D.K with settled:=.int s'}} j')):
 wG (n+5) (.fn 58) [.ref #[f,6,0]] (hp f D j) Q X:=by
 refine rd (d:=xh) rfl rfl rfl ?_;rw[X9];rw[iN,vA];have fin:∀(R:k02) (Z:k08) (aj:Fs) (j':Jk) (l:Lc),aj.tk=bd bH toD D.tk D.nT->aj.nT=D.nT->TS f aj->aj.M.ended=.bool E->(∃s:Int,aj.K.settled=.int s)->l 93=some (.ref #[f,6,0])->
  (E=true->∀i,i<D.nT->aE (D.tk i)=247->dN D.tk D.nT->aj.tq i=[]/\aj.sv i=[])->
  ((E=false\/¬dN D.tk D.nT\/∀i,i<D.nT->aE (D.tk i)≠247)->R .next l (hp f aj j'))->
  (E=true->dN D.tk D.nT->∀(s':Int) nU,j'.le nU->R .next l (hp f {aj with tk:=bd bH toD (bd cQ toC (bd bH toD D.tk D.nT) D.nT) D.nT,K:={aj.K with settled:=.int s'}} nU))->
  dJ (dY az (wG (n+4)) bx kh Z) (en az (wG (n+4)) bx kg Z) 3 l (hp f aj j') R:=by
  intro R Z aj j' l y P T' yl #[s1,jZ] J Tt r1 r2;have ve:∀i,i<aj.nT->aE (aj.tk i)≠250:=by rw[y,P];exact C1 _ _
  have hq:dN aj.tk aj.nT↔dN D.tk D.nT:=by
   rw[qS,qS,y,P];constructor
   .intro h i G;have:=h i G;rw[jc G]at this;split at this
    .rename_i hc;exact .inr (.inr (aP hc))
    .exact this
   .intro h i G;rw[jc G];split
    .exact .inl rfl
    .exact h i G
  by_cases hex:E=true/\dN D.tk D.nT/\∃i,i<D.nT/\aE (D.tk i)=247
  .obtain⟨rfl,O,B,z,h0⟩:=hex;have hA:∀i,i<D.nT->aE (aj.tk i)=247->aE (D.tk i)=247:=λi G h=>by
    rw[y,jc G]at h;split at h
    .rw[sH]at h;cases h
    .exact h
   have ye:aE (aj.tk B)=247:=by rw[y,jc z,ak (by simp[bH,h0])];exact h0
   refine X8 T' ve yl (λhD=> ?_) (hq.mpr O) #[B,by rw[P];exact z,ye] (λi G h=> ?_) jZ J 2 λj2 fP=> ?_
   .have:=(wo _ _).mp hD B (by rw[P];exact z);rw[ye]at this;cases this
   .rw[P]at G;obtain⟨z1,z2⟩:=Tt rfl i G (hA i G h) O;obtain⟨_,z3,z4,_⟩:=hz rfl i G (hA i G h) O;have e:(aj.tk i).bP=(D.tk i).bP/\(aj.tk i).cK=(D.tk i).cK:=by rw[y,jc G];split<;>exact#[rfl,rfl]
    exact#[z1,e.1.trans z3,e.2.trans z4,z2]
   .have T2:=T'.toA aj.nT (.int (s1+1));refine Jz (s:=s1+1) T2 #[B,P▸z,?_] rfl J 1 ?_
    .show aE (bd cQ toC aj.tk aj.nT B)=250;rw[jc (by rw[P];exact z),al (by simp[cQ,ye])];rfl
    .obtain T3:=T2.toD aj.nT (.int (s1+1+1));refine JA (E:=true) T3 (λi G=>C1 _ _ i G) yl (.inr (.inl ?_)) J 0 ?_
     .rw[wo];intro i G;have hi':i<D.nT:=by rw[←P];exact G
      show aE (bd bH toD (bd cQ toC aj.tk aj.nT) aj.nT i)=251;rw[jc G,jc G];rcases(qS _ _).mp (hq.mpr O) i G with h|h|h
      .have e:¬(cQ (aj.tk i)=true):=by simp[cQ,h]
       rw[ak e];have e:¬(bH (aj.tk i)=true):=by simp[bH,h]
       rw[ak e];exact h
      .obtain e:cQ (aj.tk i)=true:=by simp[cQ,h]
       rw[al e,al (show bH (toC (aj.tk i))=true from rfl)];rfl
      .exact absurd h (ve i G)
     .have:=r2 rfl O (s1+1+1) j2 fP;simpa only[y,P]using this
  .refine JA T' ve yl ?_ J 2 (r1 ?_)
   .cases E with
    |false=>exact .inl rfl
    |true=>
     right;by_cases O:dN D.tk D.nT
     .left;rw[wo];intro i G;rcases(qS _ _).mp (hq.mpr O) i G with h|h|h
      .exact h
      .exfalso;refine hex #[rfl,O,i,by rw[←P];exact G,?_];rw[y,jc (by rw[←P];exact G)]at h;split at h
       .rw[sH]at h;cases h
       .exact h
      .exact absurd h (ve i G)
     .exact .inr λh=>O (hq.mp h)
   .cases E with
    |false=>exact .inl rfl
    |true=>
     by_cases O:dN D.tk D.nT
     .exact .inr (.inr λi G h=>hex #[rfl,O,i,G,h])
     .exact .inr (.inl O)
 by_cases hC:∃i,i<D.nT/\aE (D.tk i)=250
 .refine#[4,Jz T hC hs rfl 3 (fin _ _ _ _ _ rfl rfl (T.toD _ _) hE #[_,rfl] rfl (λh i G u x=>#[(hz h i G u x).1,(hz h i G u x).2.2.2]) (λh=> ?_) (λu x s' j' hj=> ?_))]
  .lk;exact bt (q1 h _)
  .lk;exact bt (q2 u x s' j' hj)
 .have uj:bd bH toD D.tk D.nT=D.tk:=wB λi G=>by have:¬aE (D.tk i)=250:=λh=>hC #[i,G,h];simp[bH,this]
  refine#[3,fin _ _ D j _ uj.symm rfl T hE #[_,hs] rfl (λh i G u x=>#[(hz h i G u x).1,(hz h i G u x).2.2.2]) (λh=> ?_) (λu x s' j' hj=> ?_)]
  .lk;have:=q1 h s;rw[uj,←hs]at this;exact bt this
  .lk;exact bt (q2 u x s' j' hj)
structure WL(W:V)(m:Nat):Prop where
 pos:0<m
 le:m<=900
 it:∀(h:H) (i:Nat),i<m->∃v:Int,bM h W (.int i)=some (.int v)
 ln:∀(t:Bool) (Q:QV) (h:H),j5 t Q W h=(m<=1000/\tq t Q (.int m) h)
def mX(x y:Int)(d:y≠0):f5 .mod (.int x) (.int y)=some (.int (x.fmod y)):=by show ww .mod x y=_;simp[ww,d]
def xR(a b:Nat):(a:Int).fmod (b:Int)=((a % b:Nat):Int):=by rw[Int.fmod_eq_emod_of_nonneg _ (Int.natCast_nonneg _)];exact(Int.natCast_emod _ _).symm
def q8(hv:v=.none\/∃w,v=.int w)(q:Q (.bool (match v with|.int w=>decide (w<=D.now)|_=>false)) (hp f D j)):wG (n+1) (.fn 11) [.ref #[f,1,0],v] (hp f D j) Q X:=by
 k_lt DP;rcases hv with rfl|⟨w,rfl⟩
 .lk;exact aR q
 .lk;exact aR q
def U9(d:D.now<=t)(q:Q .none (hp f {D with now:=t} j)):wG (n+1) (.fn 10) [.ref #[f,1,0],.int t] (hp f D j) Q X:=by
 k_lt DZ;have e:(if t>D.now then t else D.now)=t:=by split<;>lia
 erw[e];exact bt q
def Uu(T:TS f D)(e:∀i,i<D.nT->aE (D.tk i)=245->(D.tk i).wake=.none\/∃w,(D.tk i).wake=.int w/\D.now<w)(q:∀j',j.le j'->Q (.bool false) (hp f D j')):wG (n+2) (.fn 64) [.ref #[f,6,0]] (hp f D j) Q X:=by
 refine re (d:=w0) #[f+2,0,j.n] rfl rfl rfl rfl (kO _ _ _) ?_;unfold w0;obtain P:(bD f D.nT).length<=1000:=by rw[fB];have:=T.n;lia
 erw[T.fQ,T.aY,P];refine kZ (λU=>false) (λi=>V.ref #[f,2,i]) D.nT (by rw[iM,T.aY]) (λi G K q=> ?_) ?_
 .simp only[oR,if_false]at q;by_cases h:aE (D.tk i)=245
  .rcases e i G h with O|⟨w,O,x⟩
   .erw[G,T.st i G,h,T.j6,O];refine q8 (.inl rfl) ?_;lk;exact q
   .obtain u:¬w<=D.now:=by lia
    erw[G,T.st i G,h,T.j6,O];refine q8 (.inr #[_,rfl]) ?_;erw[u];exact q
  .erw[G,T.st i G,h];exact q
 .rw[List.filter_eq_nil_iff.mpr (by simp)];lk;exact aR (q _ (j.jv _))
def X4(q:Q (.bool false) (hp f {D with K:={D.K with dR:=.ref #[f,19,D.nL]},ls:=uF D.ls D.nL [],nL:=D.nL+1} j)):wG (n+1) (.fn 65) [.ref #[f,6,0]] (hp f D j) Q X:=by k_lt D6;lk;refine#[#[f,19,D.nL],EU _ _ _,?_];lk;exact aR q
def Vo{d:k00}(J:d.length<=1000)(hw:∀v∈d,v=.none\/∃w:Int,v=.int w)(q1:(∀v∈d,v=.none)->Q .none (hp f D j))(q2:∀t:Int,.int t∈d->(∀w:Int,V.int w∈d->t<=w)->Q (.int t) (hp f D j)):
 wG (n+1) (.fn 9) [.fz d] (hp f D j) Q X:=by
 k_lt D0;erw[J];refine fO (λxs l h=>h=hp f D j/\∃pre,d=pre++xs/\((l 37=some .none/\∀v∈pre,v=V.none)\/∃t:Int,l 37=some (.int t)/\V.int t∈pre/\∀w:Int,V.int w∈pre->t<=w)) (λxs l h i=>dh (mx _ _)) (λx xs l h i K q=> ?_) _ _ _ #[rfl,[],rfl,.inl #[rfl,λv hv=>by cases hv]] λl' h' i=> ?_
 .obtain⟨rfl,pre,P,z⟩:=i;have hx:x∈d:=by rw[P];simp
  rcases hw x hx with rfl|⟨w,rfl⟩
  .lk;refine q _ _ #[rfl,pre++[.none],by rw[P];simp,?_];rcases z with⟨G,O⟩|⟨t,G,O,e⟩
   .exact .inl #[by simpa[upd]using G,λv hv=>by rcases List.mem_append.mp hv with h|h;exact O v h;exact cu.mp h]
   .exact .inr #[t,by simpa[upd]using G,List.mem_append_left _ O,λw hw=>by rcases List.mem_append.mp hw with h|h;exact e w h;cases cu.mp h]
  .rcases z with⟨G,O⟩|⟨t,G,O,e⟩
   .erw[G];refine q _ _ #[rfl,pre++[.int w],by rw[P];simp,.inr #[w,rfl,by simp,λu y=> ?_]];rcases List.mem_append.mp y with h|h
    .cases O _ h
    .cases cu.mp h;exact Int.le_refl _
   .by_cases B:w<t
    .erw[G,B];refine q _ _ #[rfl,pre++[.int w],by rw[P];simp,.inr #[w,rfl,by simp,λu y=> ?_]];rcases List.mem_append.mp y with h|h
     .have:=e _ h;lia
     .cases cu.mp h;exact Int.le_refl _
    .erw[G,B];refine q _ _ #[rfl,pre++[.int w],by rw[P];simp,.inr #[t,by simpa[upd]using G,by simp[O],λu y=> ?_]];rcases List.mem_append.mp y with h|h
     .exact e _ h
     .cases cu.mp h;lia
 .obtain⟨rfl,pre,P,z⟩:=i;rw[List.append_nil]at P;subst P;rcases z with⟨G,O⟩|⟨t,G,O,e⟩
  .erw[G];exact aR (q1 O)
  .erw[G];exact aR (q2 t O e)
def Nv{e:k00}(u:WL W m)(y:j.g m1=.live (.cell (some W)))(z:j.g m2=.live (.cell (some (.ref #[f,16,0]))))(hs:D.steps.length<999)(hr:0<e.length)(SX:e.length<=900)
 (q:∀(r:Nat) (x:V),e[r]? =some x->Q x (hp f {D with steps:=D.steps++[.int r]} j)):
 wG (n+1) (.clo 82 [(230,#[f+2,0,m1]),(134,#[f+2,0,m2])]) [.fz e] (hp f D j) Q X:=by
 refine C9 (d:=q0) rfl rfl rfl ?_;unfold q0;have hm:((m:Nat):Int)≠0:=by have:=u.pos;lia
 have bZ:D.steps.length % m<m:=Nat.mod_lt _ u.pos;obtain⟨v,hv⟩:=u.it (hp f D j) _ bZ;have hm':=u.le;have dG:m<=1000:=by lia
 have rA:D.steps.length<=1000:=by lia
 have rB:D.steps.length<1000:=by lia
 have gI:((e.length:Nat):Int)≠0:=by lia
 have ux:e.length<=1000:=by lia
 erw[List.lookup,y,z,rA,u.ln,dG,mX _ _ hm,xR,hv,ux,mX _ _ gI,rB];have O:(0:Int)<e.length:=by lia
 have k1:0<=v.fmod e.length:=Int.fmod_nonneg_of_pos _ O;have k2:v.fmod e.length<e.length:=Int.fmod_lt_of_pos _ O;obtain⟨r,G⟩:=Int.eq_ofNat_of_zero_le k1;have B:r<e.length:=Int.ofNat_lt.mp (G▸k2);have P:e[r]? =some e[r]:=fm B;have hL:eg (D.steps++[.int (v.fmod e.length)]) (-1)=some (.int (v.fmod e.length)):=by unfold eg;rw[al rfl,List.getLast?_append];rfl
 have J:∀h:H,bM h (.fz e) (.int (v.fmod e.length))=some e[r]:=λh=>by rw[G];exact dI P (bU B (bk SX (by decide)))
 erw[List.lookup,y,z,hL,J];have:=q r _ P;rw[G];exact aR this
def Nu{p:Nat->Bool}(hW:WL W m)(h1:j.g m1=.live (.cell (some W)))(h2:j.g m2=.live (.cell (some (.ref #[f,16,0]))))(yr:D.K.choose=.clo 82 [(230,#[f+2,0,m1]),(134,#[f+2,0,m2])])(hs:D.steps.length<999)(hn:D.nT<=10)
 (u:∀i,i<D.nT->(D.tk i).number=.int (i+1))(hr:((List.range D.nT).filter p)≠[])
 (q:∀(i r:Nat),i<D.nT->p i=true->Q (.ref #[f,2,i]) (hp f {D with steps:=D.steps++[.int r]} j)):
 wG (n+2) (.fn 66) [.ref #[f,6,0],.fz (((List.range D.nT).filter p).map λi=>V.ref #[f,2,i])] (hp f D j) Q X:=by
 k_lt DD;obtain bl:(((List.range D.nT).filter p).map λi=>V.ref #[f,2,i]).length<=10:=by rw[be];have:=List.length_filter_le p (List.range D.nT);rw[cC]at this;lia
 erw[yr];refine Nv hW h1 h2 hs (by rw[be];exact List.length_pos_iff.mpr hr) (by lia) λr x z=> ?_;obtain⟨ux,lX⟩:=eU.mp z;have uB:=List.mem_of_getElem? z;obtain⟨i,J,rfl⟩:=bv.mp uB;obtain⟨uh,lS⟩:=fZ.mp J;have ui:=ej.mp uh;have G:(((List.range D.nT).filter p).map λi=>V.ref #[f,2,i]).length<=1000:=by lia
 erw[G];clear G bl z uB lX;obtain key:∀(O:k06) (l:Lc) (c:H->Prop) (h:H),h=hp f {D with steps:=D.steps++[.int r]} j->(∀k∈O,k<D.nT)->i∈O->l 174=some (.ref #[f,2,i])->c h->cF c (gX az (wG (n+1)) bx [72] (.cons (.ite (.cmp .eq (.attr (.loc 72) 17) (.attr (.loc 174) 17)) (.cons (.ret (.loc 72)) .nil) .nil) .nil)) (O.map λi=>V.ref #[f,2,i]) l h (ju az (wG (n+1)) bx (.cons .dead .nil) (dP Q) (kX X)):=by
  intro O;induction O with
  |nil=>intro l c h _ _ d _ _;cases d
  |cons y O ih=>
   intro l c h e hk d G B;subst e;have P:=hk y (.head _);refine#[B,?_];by_cases Gu:y=i
   .subst Gu;erw[G,P,u y P];exact aR (q y r P lS)
   .obtain bN:¬((y:Int)+1=(i:Int)+1):=by lia
    erw[G,P,ui,u y P,u i ui,bN];refine ih _ _ _ rfl (λk eH=>hk k (.tail _ eH)) ?_ (by simpa[upd]using G) B;rcases b8.mp d with h|h
    .exact absurd h.symm Gu
    .exact h
 refine key _ _ _ _ rfl (λk hk=>ej.mp (fZ.mp hk).1) J (by simp[upd]) (dh (mx _ _))
end
section
open PySem PySem.W PySem.Calls PyProof.Rows PySem.SeqAt
set_option genCtorIdx true in
inductive dK where
 |none|bB
 |int (w:Int)
def dK.v:dK->V
 |.none=>.none
 |.bB=>.str 91
 |.int w=>.int w
structure ck where
 f:Nat
 N:Nat
 srv:Bool
 hand:Nat->Int
 aV:Nat->dK
 rest:Nat->Int
 bI:Nat->Int
 bE:Nat->Nat
def ck.fa(C:ck)(i:Nat):Nat:=if C.hand i=0 then i else(i+1) % C.N
def ck.fb(C:ck)(i:Nat):Nat:=if C.hand i=0 then(i+1) % C.N else i
structure bn(C:ck):Prop where
 n2:2<=C.N
 n4:C.N<=4
 aV:∀i w,C.aV i=.int w->0<w
 a:∀i,i<C.N->C.fa i<C.N
 b:∀i,i<C.N->C.fb i<C.N
 ab:∀i,i<C.N->C.fa i≠C.fb i
structure jJ(C:ck):Prop where
 hand:∀i,C.hand i=C.hand 0
 aV:∀i,C.aV i=.none
 rest:∀i,C.rest i=1
def gm(C:ck)(i:Nat):V:=.tup [.int (C.hand i),(C.aV i).v,.int (C.rest i),.int (C.bI i),.int (C.bE i)]
def dH(C:ck):List V:=(List.range C.N).map (gm C)
def fY(f:Nat)(o:H)(ps:k00)(pv:V):Prop:=pv=.fz ps\/∃a:Nm,pv=.ref a/\a.f≠f/\a.f≠f+2/\o a=.live (.list ps)
def T0(C:ck):Prop:=bn C/\(∀i,C.hand i=0\/C.hand i=1)/\∀i,C.bE i<=2
def TF(C:ck)(E:V->V->H->H->Prop):Prop:=∀(W0 pv:V) (m0:Nat) (o:H) (Q X:QV),WL W0 m0->(∀a:Nm,a.f=C.f\/a.f=C.f+2->o a=.fresh)->fY C.f o (dH C) pv->(∀v h,E pv v o h->Q v h)->ei az (wG 40) cZ [] [.bool C.srv,pv,W0] o Q X
def TA(k:Nat)(pv v:V)(h:H):Prop:=∀Q X:QV,Q (.bool true) h->wG 40 (.fn k) [v,pv] h Q X
def T1(C:ck)(pv v:V)(o h:H):Prop:=∀d:Prop,(ev v=false->TA 79 pv v h->(∀a:Nm,a.f≠C.f->a.f≠C.f+2->h a=o a)->d)->d
def T2(pv v:V)(_ h:H):Prop:=∀d:Prop,(ev v=false->TA 78 pv v h->∀ns t u c,bM h v (.int 3)=some (.fz ns)->da ns []=some false->bM h v (.int 0)=some t->bM h t (.str 93)=some u->jT h u 34=some c->jT h c 33=some (.int 1)->d)->d
def TC(C:ck):Prop:=T0 C->TF C (T1 C)/\(jJ C->(∀i,C.bE i=1)->TF C T2)
def I:ck:=@Classical.epsilon ck #[#[0,0,true,λU=>0,λU=>.none,λU=>0,λU=>0,λU=>0]] λC=>¬TC C
def Kd(h:TC I)(C:ck):TC C:=Classical.byContradiction λq=>Classical.epsilon_spec (p:=λC=>¬TC C) #[C,q] h
end
section
def dv(i:Nat):Nat->V
 |1=>.tup [.str 189,.int (I.fa i),.none]
 |2=>.tup [.str 23,.none,.int (I.rest i)]
 |3=>.tup [.str 189,.int (I.fb i),(I.aV i).v]
 |4=>.tup [.str 23,.none,.int (I.bI i)]
 |5=>.tup [.str 186,.int (I.fb i),.none]
 |6=>.tup [.str 186,.int (I.fa i),.none]
 |_=>.none
def jK(i:Nat):Nat->List Nat
 |1=>(if 0<I.rest i then[2]else[])++3::((if 0<I.bI i then[4]else[])++[5,6])
 |2=>3::((if 0<I.bI i then[4]else[])++[5,6])
 |3=>(if 0<I.bI i then[4]else[])++[5,6]
 |4=>[5,6]
 |5=>[6]
 |_=>[]
def cW(i:Nat):Nat->List Nat
 |0=>[]
 |k+1=>(1::jK i 1)++cW i k
def rem(i pos k:Nat):List Nat:=jK i pos++cW i k
def nx(i pos k:Nat):Option (Nat×Nat):=match pos with
 |1=>some (if 0<I.rest i then 2 else 3,k)
 |2=>some (3,k)
 |3=>some (if 0<I.bI i then 4 else 5,k)
 |4=>some (5,k)
 |5=>some (6,k)
 |_=>match k with
  |0=>none
  |k+1=>some (1,k)
def mB(i:Nat):Nat->List Nat
 |2=>[I.fa i]
 |3=>[I.fa i]
 |4=>[I.fa i,I.fb i]
 |5=>[I.fa i,I.fb i]
 |6=>[I.fa i]
 |_=>[]
def mA(i:Nat):Nat->List Nat
 |1=>[I.fa i]
 |2=>[I.fa i]
 |3=>[I.fa i,I.fb i]
 |4=>[I.fa i,I.fb i]
 |5=>[I.fa i]
 |_=>[]
def bw(xs:k06):List V:=xs.map λk:Nat=>V.int k
def xz(a b):gD (.str a) (.str b)=some (decide (a=b)):=rfl
def rb(a b):gD (.int a) (.int b)=some (decide (a=b)):=rfl
def tQ:gD .none .none=some true:=rfl
def PQ(a):gD .none (.int a)=some false:=rfl
def PN(a):gD (.int a) .none=some false:=rfl
def EC(a b:Int):eZ [.str x,.int a,.none] [.str x,.int b,.none]=some (decide (a=b)):=by simp[eZ,xz,rb,tQ]
def PA(w b:Int):eZ [.str 23,.none,.int w] [.str 186,.int b,.none]=some false:=by simp[eZ,xz,rb,tQ,PQ,PN]
def xy(a b:Nat):eZ [.str a] [.str b]=some (decide (a=b)):=by simp[eZ,xz]
def UY{xs:k00}(d:kA xs=true)(e:kP i xs=true)(u:xs.length<1000):n9 (.live (.list xs)) 2 [.int i]=some (.none,.live (.list (jf i xs))):=by show la xs 2 (.int i)=_;unfold la;rw[ak (by decide),ak (by decide),al rfl];exact al (by rw[d,e];simp[u])
def ME(x:Int):f5 .fdiv (.int x) (.int 2)=some (.int (x.fdiv 2)):=rfl
def Ik:dK->Int->Prop
 |.none,_=>True
 |.bB,l=>l<1
 |.int w,l=>l<w
variable{n f:Nat}{D:Fs}{j:Jk}{Q X:QV}
structure mO(D:Fs)(i pos k:Nat)(bb cw cg:Int):Prop where
 hi:i<D.nS
 st:D.st i=#[.ref #[I.f,12,i],dv i pos,.ref #[I.f,13,i],.int bb,.int cw,.int cg]
 dl:D.dl i=(rem i pos k).map (dv i)
 mn:D.mn i=bw (mB i pos)
def RG(S:mO D i 0 k u d e)(q:Q (.bool true) (hp I.f D j)):
 wG (n+1) (.fn 73) [.ref #[I.f,2,i],.ref #[I.f,11,i],v] (hp I.f D j) Q X:=by
 k_lt o5;erw[S.hi,S.st,dv];exact aR q
def FL(S:mO D i pos k u d e)(hi:i<D.nT)(hd:dv i pos=.tup [.str 23,.none,.int w])(q:Q (.bool true) (hp I.f D j)):
 wG (n+1) (.fn 73) [.ref #[I.f,2,i],.ref #[I.f,11,i],.int w] (hp I.f D j) Q X:=by
 k_lt o5;erw[S.hi,S.st,hd,oa,hi];exact aR q
def FK(S:mO D i pos k y e x)(hi:i<D.nT)(hd:dv i pos=.tup [.str 186,.int m,.none])(hx:kA (bw (mB i pos))=true/\kP m (bw (mB i pos))=true/\jf m (bw (mB i pos))=bw xs)(u:(mB i pos).length<10)
 (q:Q (.bool true) (hp I.f {D with mn:=uF D.mn i (bw xs)} j)):
 wG (n+1) (.fn 73) [.ref #[I.f,2,i],.ref #[I.f,11,i],v] (hp I.f D j) Q X:=by
 k_lt o5;obtain d:(bw (mB i pos)).length<1000:=by unfold bw;rw[be];lia
 erw[S.hi,S.st,hd,oa,hi,S.mn,UY hx.1 hx.2.1 d,hx.2.2];exact aR q
def ZO{p:dK}{d:Int}(u:Ik p d){t:Bool}{l:Lc}{h:H}(e:l 35=some p.v)(e':l 206=some (.int d)):au az (wG n) bx we t l h Q X=Q (.bool true) h:=by
 unfold we;cases p with
 |none=>erw[e,dK.v]
 |bB=>erw[e,e',dK.v,dX (show d<1 from u)]
 |int w=>erw[e,e',dK.v,dX (show d<w from u)]
def FM{i pos k m:Nat}{J cw z d:Int}{p:dK}(S:mO D i pos k J cw z)(hi:i<D.nT)(hd:dv i pos=.tup [.str 189,.int m,p.v])(u:(D.tk i).answer=.tup [.str 78])
 (y:Ik p d){xs:k06}(hx:mB i pos++[m]=xs)(x:xs.length<10){e:Int}(he:((xs.length:Nat):Int).fdiv 2=e)
 (q:Q (.bool true) (hp I.f {D with mn:=uF D.mn i (bw xs),st:=uF D.st i {D.st i with cw:=.int (cw+e)}} j)):
 wG (n+1) (.fn 73) [.ref #[I.f,2,i],.ref #[I.f,11,i],.int d] (hp I.f D j) Q X:=by
 k_lt o5;obtain h:(bw (mB i pos)).length<1000:=by subst hx;unfold bw;rw[be];rw[eV]at x;lia
 obtain B:bw (mB i pos)++[V.int m]=bw xs:=by rw[←hx];simp[bw]
 obtain G:(bw xs).length=xs.length:=by simp[bw]
 obtain O:xs.length<=1000:=by lia
 erw[S.hi,S.st,hd,oa,hi,u,xy,S.mn,h,B,G,O,ME,he,ZO y,jg];exact aR (by simpa only[S.st,hd]using q)
def ZP{i:Nat}{u:Int}{d:V}{p:dK}{l:Lc}(hi:i<D.nT)(x:(D.tk i).answer=d)(e:match p with|.none=>False|.bB=>u=0/\d=.tup [.str 92]|.int w=>u=w/\d=.tup [.str 66])
 (y:l 35=some p.v)(z:l 206=some (.int u))(B:l 72=some (.ref #[f,2,i]))(q:Q (.bool true) (hp f D j)):bc az (wG n) bx tr l (hp f D j) (dP Q) (kX X):=by
 unfold tr;cases p with
 |none=>exact e.elim
 |bB=>obtain⟨rfl,rfl⟩:=e;erw[y,z,B,dK.v,hi,x,xy];exact aR q
 |int w=>obtain⟨rfl,rfl⟩:=e;erw[y,z,B,dK.v,hi,x,xy];exact aR q
def RI(S:mO D i 3 k bb cw cg)(hi:i<D.nT)(Fv:I.fa i≠I.fb i)(B:(D.tk i).answer=u)
 (d:match I.aV i with|.none=>False|.bB=>z=0/\u=.tup [.str 92]|.int w=>z=w/\u=.tup [.str 66])(J:(rem i 3 k).length<900)
 (q:Q (.bool true) (hp I.f {D with dl:=uF D.dl i ((6::cW i k).map (dv i)),st:=uF D.st i {D.st i with cg:=.int (cg+1)}} j)):
 wG (n+1) (.fn 73) [.ref #[I.f,2,i],.ref #[I.f,11,i],.int z] (hp I.f D j) Q X:=by
 k_lt o5;have hS:=S.hi;obtain Ri:¬((I.fb i:Int)=(I.fa i:Int)):=by lia
 obtain Rd:u=.tup [.str 92]\/u=.tup [.str 66]:=by
  cases hp:I.aV i with
  |none=>rw[hp]at d;exact d.elim
  |bB=>rw[hp]at d;exact .inl d.2
  |int w=>rw[hp]at d;exact .inr d.2
 obtain yH:eh (hp I.f D j) u (.tup [.str 78])=some false:=by rcases Rd with rfl|rfl<;>rfl
 obtain SS:ev (I.aV i).v=false:=by
  cases hp:I.aV i with
  |none=>rw[hp]at d;exact d.elim
  |bB=>rfl
  |int w=>rfl
 erw[S.hi,S.st,dv,oa,hi,B,yH,SS];obtain loop:∀(pre:k06) (l:Lc),(∀p∈pre,p=4\/p=5)->(pre.length+1+(cW i k).length<900)->l 207=some (.ref #[I.f,11,i])->l 35=some (I.aV i).v->l 206=some (.int z)->l 72=some (.ref #[I.f,2,i])->
  ∃m,dJ (dY az (wG n) bx tn (kX X)) (en az (wG n) bx wf (kX X)) m l
   (hp I.f {D with dl:=uF D.dl i ((pre++6::cW i k).map (dv i)),st:=uF D.st i {D.st i with cg:=.int (cg+1)}} j)
   (ju az (wG n) bx tr (dP Q) (kX X)):=by
  intro pre;induction pre with
  |nil=>intro l _ _ y G O P;refine#[1,?_];erw[tn,y,G,O,P,S.hi,S.st,S.mn,mB,bw,dv,EC,sC];refine ZP hi B d G O P ?_;simpa only[S.st,dv,List.map_cons]using q
  |cons p pre ih=>
   intro l uw bl y G O P;obtain uq:pre.length+1+(cW i k).length<900:=el (Nat.add_le_add_right (Nat.le_succ (pre.length+1)) _) bl;obtain⟨m,hm⟩:=ih l (λx hx=>uw x (.tail _ hx)) uq y G O P;obtain Sn:((pre++6::cW i k).map (dv i)).length<1000:=by rw[be,eV,gu];exact Nat.lt_trans (el (Nat.le_of_eq (Nat.add_right_comm _ _ 1)) uq) (by decide)
   obtain hv:∀h,eh h (dv i p) (.tup [.str 186,.int (I.fa i),.none])=some false:=λh=>by
    rcases uw p (.head _)with rfl|rfl
    .exact PA _ _
    .exact(EC _ _).trans (aq some (gz Ri))
   refine#[m+1,?_];erw[tn,wf,y,G,O,P,S.hi,S.st,S.mn,mB,bw,hv,sC,Sn];simp only[S.st]at hm;exact hm
 have Gm:rem i 3 k=((if 0<I.bI i then[4]else[])++[5])++6::cW i k:=by simp[rem,jK]
 have:=loop ((if 0<I.bI i then[4]else[])++[5]) (upd (upd (upd (upd (upd (upd (λU=>none) 72 (.ref #[I.f,2,i])) 207 (.ref #[I.f,11,i])) 206 (.int z)) 196 (.str 189)) 195 (.int (I.fb i))) 35 (I.aV i).v) (λp hp=>by
  rcases List.mem_append.mp hp with h|h
  .split at h
   .exact .inl (cu.mp h)
   .cases h
  .exact .inr (cu.mp h)) (by
  rw[Gm,eV,gu]at J;exact el (Nat.le_of_eq (Nat.add_right_comm _ 1 _)) J) rfl rfl rfl rfl
 obtain e:D.dl=uF D.dl i ((((if 0<I.bI i then[4]else[])++[5])++6::cW i k).map (dv i)):=by rw[←Gm,←S.dl,lw]
 rw[←e]at this;simpa only[S.st,dv]using this
def dO:Option Nat->V
 |some i=>.int i
 |none=>.none
structure lI(D:Fs)(hd:k27):Prop where
 dU:D.tb.dU=.ref #[I.f,6,0]
 srv:D.tb.srv=.bool I.srv
 hh:D.tb.aC=.ref #[I.f,15,0]
 snd:D.tb.sound=.bool true
 aC:D.aC=(List.range I.N).map λk=>dO (hd k)
 n:2<=I.N/\I.N<=4
 iA:D.K.eX=.ref #[I.f,1,0]
def ii(xs:k06):List Nat:=List.casesOn xs [] λx r=>List.casesOn r [x] λy t=>List.casesOn t (if x<=y then[x,y]else[y,x]) λU U=>xs
def uH{af:Type}(F:Int->Option af)(i:Int):(V.int i).eK F=F i:=rfl
def YD{h:H}{xs:k06}(d:h a=.live (.list (bw xs)))(e:xs.length<=2):ot h (.ref a)=some (bw (ii xs)):=by
 have D:(bw xs).length<64:=by unfold bw;rw[be];lia
 show qi (h a)=_;rw[d];show(if(bw xs).length<64 then _ else none)=_;rw[al D];clear D d;cases xs with
 |nil=>simp[bw,j0,uH,ii]
 |cons x r=>cases r with
  |nil=>simp[bw,j0,uH,ii]
  |cons y r=>cases r with
   |cons z r=>exact absurd e (by show¬r.length+3<=2;lia)
   |nil=>
    by_cases h:x<=y
    .have h':(x:Int)<=y:=by lia
     simp[bw,j0,uH,ii,h,h',List.mergeSort,List.MergeSort.Internal.splitInTwo]
    .have h':¬(x:Int)<=y:=by lia
     simp[bw,j0,uH,ii,h,h',List.mergeSort,List.MergeSort.Internal.splitInTwo]
def TO:∀xs y:List Nat,xs=y->da (bw xs) (bw y)=some true:=by
 intro xs y h;subst h;unfold da;rw[al rfl];induction xs with
 |nil=>rfl
 |cons x xs D=>unfold bw at D⊢;simp only[List.map_cons,eZ,rb,D];simp
def t5:Ss:=match tH.body with|.cons _ (.cons _ (.cons _ (.cons _ r)))=>r|r=>r
def qO:Ss:=match t5 with|.cons _ (.cons _ (.cons _ (.cons _ r)))=>r|r=>r
def wn:qO=.cons (.ite (.cmp .eq (.loc 196) (.str 23)) (.cons (.ex (.call (.ba 105) (.cons (.item (.cf 193) (.str 93)) (.cons (.loc 72) (.cons (.loc 35) .nil))))) .nil) (.cons (.ite (.item (.cf 193) (.str 211)) (.cons (.asg false 14 (.ite (.cmp .eq (.loc 196) (.str 189)) (.ba 201) (.ba 202))) (.cons (.ex (.call (.ba 96) (.cons (.item (.cf 193) (.str 93)) (.cons (.loc 72) (.cons (.item (.item (.cf 193) (.str 185)) (.loc 195)) (.cons (.loc 14) (.cons (.lst true (.cons (.cf 197) .nil)) (.cons (.loc 35) .nil)))))))) .nil)) (.cons (.ex (.call (.ba 205) (.cons (.cf 193) (.cons (.loc 72) (.cons (.cf 197) (.cons (.item (.loc 207) (.str 204)) .nil)))))) .nil)) .nil)) (.cons (.ret .tt) .nil):=rfl
variable{aS:Fs}{hd:k27}
structure Lw(aS:Fs)(hd:k27)(i:Nat)(ms:k06):Prop where
 nS:i<aS.nS
 th:aS.tb.aC=.ref #[I.f,15,0]
 aC:aS.aC=(List.range I.N).map λk=>dO (hd k)
 pP:(aS.st i).pP=.ref #[I.f,13,i]
 mn:aS.mn i=bw ms
def QP(hN:I.N<=4)(pE:D.tb.dU=.ref #[I.f,6,0])(nu:D.K.eX=.ref #[I.f,1,0])(rt:i<D.nS)(hs:(D.st i).bb=.int bb){ms:k06}(F7:ms.length<=2)(Su:((List.range I.N).filter λk=>decide (hd k=some i))=ii ms)(P:Fs->Prop)(hP:∀aS,P aS->Lw aS hd i ms)
 (hh:∀(j':Jk) (J X':QV),(∀aS,P aS->J (.bool true) (hp I.f aS j'))->wG (n+8) (.fn 73) [.ref #[I.f,2,i],.ref #[I.f,11,i],.int (D.now-bb)] (hp I.f D j') J X')
 (q:∀aS j' u z G l,P aS->j.le j'->u<j'.n->z<j'.n->j'.g u=.live (.cell (some (.ref #[I.f,14,0])))->j'.g z=.live (.cell (some (.int i)))->G 193=some #[I.f+2,0,u]->G 197=some #[I.f+2,0,z]->
   l 72=some (.ref #[I.f,2,i])->l 207=some (.ref #[I.f,11,i])->l 33=some (.int D.now)->bc az (wG (n+8)) G t5 l (hp I.f aS j') (dP Q) (kX X)):
 wG (n+9) (.fn 74) [.ref #[I.f,14,0],.ref #[I.f,2,i],.ref #[I.f,11,i],.int i] (hp I.f D j) Q X:=by
 refine EM (d:=tH) #[I.f+2,0,j.n] #[I.f+2,0,(j.put (.live (.cell (some (.ref #[I.f,14,0]))))).n] rfl rfl rfl rfl (kO _ _ _) #[by simp[Jk.put],by rw[qc];exact j.fr _ (Nat.le_succ _)] ?_;have bN:(j.put (.live (.cell (some (.ref #[I.f,14,0]))))).n≠j.n:=Nat.succ_ne_self _;have nD:j.le ((j.put (.live (.cell (some (.ref #[I.f,14,0]))))).put (.live (.cell (some (.int i))))):=Jk.le_trans (j.jv _) (Jk.jv _ _);have h:((j.put (.live (.cell (some (.ref #[I.f,14,0]))))).put (.live (.cell (some (.int i))))).g j.n=.live (.cell (some (.ref #[I.f,14,0]))):=by rw[Jk.vr _ _ _ bN.symm,Jk.mj]
 have O:((j.put (.live (.cell (some (.ref #[I.f,14,0]))))).put (.live (.cell (some (.int i))))).g (j.put (.live (.cell (some (.ref #[I.f,14,0]))))).n=.live (.cell (some (.int i))):=Jk.mj _ _;unfold tH;erw[h,O,pE,nu,rt,hs];refine hh _ _ _ λaS jY=> ?_;obtain⟨FZ,th,e,e5,hm⟩:=hP aS jY;have bl:aS.aC.length<=1000:=by rw[e];simp;lia
 have Sj:(aX aS.aC.length).length<=1000:=by unfold aX;rw[be,cC];lia
 erw[h,O,th,bl,KA,Sj];refine pH (λv=>match v with|.int k=>if(if 0<=k then(decide (hd k.toNat=some i))else false)then some v else none|_=>none) (dh (kn _ _ _)) (λx hx K q=> ?_) ?_
 .obtain⟨k,hk,rfl⟩:=bv.mp hx;have eH:=ej.mp hk;rw[Int.toNat_natCast,e,be,cC]at eH;have hg:aS.aC[k]? =some (dO (hd k)):=by rw[e,eW,iw eH];rfl
  have hL:eg aS.aC (k:Int)=some (dO (hd k)):=dI hg (by lia);erw[h,O,th,hL];cases B:hd k with
  |none=>erw[dO];simpa[B]using q
  |some i'=>
   by_cases uk:i'=i
   .subst uk;erw[dO];simpa[B]using q
   .have R0:¬((i':Int)=(i:Int)):=by lia
    erw[dO,R0];simpa[B,uk]using q
 .have hf:(aX aS.aC.length).filterMap (λv=>match v with|V.int k=>if(if 0<=k then(decide (hd k.toNat=some i))else false)then some v else none|_=>none)=bw (ii ms):=by
   rw[←Su];unfold aX bw;rw[Int.toNat_natCast,e,be,cC];exact xQ (λk=>V.int (Int.ofNat k)) (λk:Nat=>V.int k) _ (λk=>decide (hd k=some i)) _ (λk U=>by
    have F2:(0:Int)<=Int.ofNat k:=Int.natCast_nonneg k;have R7:(Int.ofNat k).toNat=k:=rfl;simp only[F2,R7,if_true];rfl)
  rw[hf];have yO:(bw (ii ms)).length<=1000:=by
   unfold bw;rw[be];match ms,F7 with
   |[],_=>decide
   |[_],_=>simp[ii]
   |[x,y],_=>unfold ii;dsimp only;split<;>simp
  have Tb:ot (hp I.f aS ((j.put (.live (.cell (some (.ref #[I.f,14,0]))))).put (.live (.cell (some (.int i)))))) (.ref #[I.f,13,i])=some (bw (ii ms)):=YD (by rw[Jd FZ,hm]) F7;rw[wl,fA,om,iO,iN,XP];refine#[yO,?_];generalize hK:uR az _ _ _ _ _ _ _=aaz;erw[FZ,e5,Tb,TO _ _ rfl,jg];rw[←hK,XM,vy,iO];exact q aS _ j.n (j.put (.live (.cell (some (.ref #[I.f,14,0]))))).n _ _ jY nD (bU (bA _) (Nat.le_succ _)) (bA _) h O rfl rfl rfl rfl rfl
variable{qs:k30}
structure oJ(D:Fs)(k:Nat):Prop where
 hs:I.N+k<D.nT
 hk:k<I.N
 eI:(D.tk (I.N+k)).bP=.ref #[I.f,7,I.N+k]
 kU:(D.tk (I.N+k)).cK=.ref #[I.f,10,I.N+k]
def nk(T:lI D hd)(hk:k<I.N):D.aC[k]? =some (dO (hd k)):=by rw[T.aC,eW,iw hk];rfl
def Qj(T:lI D hd)(S:oJ D k)(e:(D.tk (I.N+k)).answer=.none)(u:Qs I.f D.tq D.ql D.nQ qs)(d:hd k=none)(x:qs (I.N+k)=[])
 (q:Q .none (hp I.f {D with tk:=uF D.tk (I.N+k) {D.tk (I.N+k)with answer:=.none,state:=.str 247,bu:=.fz [.tup [.int 0,.str 81,.gk 189],.tup [.int 1,.str 155,.none]]}} j)):
 wG (n+5) (.fn 71) [.ref #[I.f,14,0],.ref #[I.f,2,I.N+k],.int k] (hp I.f D j) Q X:=by
 k_lt o4;obtain hL:eg D.aC k=some .none:=by have:=nk T S.hk;rw[d]at this;exact dI this (by have:=T.n;have:=S.hk;lia)
 erw[S.hs,e,T.hh,hL,T.dU];refine A3 u S.hs S.eI (.inr x) ?_;lk;exact bt q
def Qh{num:Nat->Int}(T:lI D hd)(S:oJ D k)(z:(D.tk (I.N+k)).answer=.none)(hq:Qs I.f D.tq D.ql D.nQ qs)(y:hd k=none)(y5:qs (I.N+k)=c::r)(hl:(qs (I.N+k)).length<900)(nB:(D.cl c).key=.gk 189)
 (J:∀d∈qs (I.N+k),d<D.nC)(hn:∀d,d<D.nC->(D.cl d).number=.int (num d))(hi:i<D.nT)(uz:I.N+k≠i)(B:(D.cl c).caller=.ref #[I.f,2,i])(et:(D.sv (I.N+k)).length<1000)
 (q:∀j' x u e,j.le j'->Qs I.f x u e (uF qs (I.N+k) (restOf num c (qs (I.N+k))))->Q .none (hp I.f {D with tq:=x,ql:=u,nQ:=e,cl:=uF D.cl c {D.cl c with state:=.str 243},tk:=uF (uF D.tk i {D.tk i with state:=.str 246,wake:=.none}) (I.N+k) {D.tk (I.N+k)with state:=.str 173,bu:=.fz [],wake:=.none,answer:=.tup [.str 81,.int 0,.ref #[I.f,0,c]]},sv:=uF D.sv (I.N+k) (D.sv (I.N+k)++[.ref #[I.f,0,c]])} j')):
 wG (n+5) (.fn 71) [.ref #[I.f,14,0],.ref #[I.f,2,I.N+k],.int k] (hp I.f D j) Q X:=by
 k_lt o4;obtain hL:eg D.aC k=some .none:=by have:=nk T S.hk;rw[y]at this;exact dI this (by have:=T.n;have:=S.hk;lia)
 erw[S.hs,z,T.hh,hL,T.dU];refine Jv hq S.hs S.eI y5 hl nB J hn hi uz B S.kU et λj' x u e h G=> ?_;lk;exact bt (q j' x u e h G)
def Qi(T:lI D hd)(S:oJ D k)(x:(D.tk (I.N+k)).answer=.tup [.str 81,.int 0,.ref #[I.f,0,c]])(z:Qs I.f D.tq D.ql D.nQ qs)(u:hd k=none)(hc:c<D.nC)(d:(D.cl c).key=.gk 189)(hv:(D.cl c).values=.fz [.int who])(hi:i<D.nT)(e:I.N+k≠i)(y:(D.cl c).caller=.ref #[I.f,2,i])(B:D.sv (I.N+k)=[.ref #[I.f,0,c]])
 (q:Q .none (hp I.f {D with aC:=D.aC.set k (.int who),cl:=uF D.cl c {D.cl c with state:=.str 244,found:=.tup [.tup [.str 78],.none]},tk:=uF (uF D.tk i {D.tk i with state:=.str 173,bu:=.fz [],wake:=.none,answer:=.tup [.str 78],call:=.none}) (I.N+k) {D.tk (I.N+k)with answer:=.none,state:=.str 247,bu:=.fz [.tup [.int 0,.str 81,.gk 186],.tup [.int 1,.str 155,.none]]},sv:=uF D.sv (I.N+k) []} j)):
 wG (n+5) (.fn 71) [.ref #[I.f,14,0],.ref #[I.f,2,I.N+k],.int k] (hp I.f D j) Q X:=by
 k_lt o4;have O:=T.n;have G:=S.hk;have hh:=nk T S.hk;rw[u]at hh;obtain h:k<D.aC.length:=(eU.mp hh).1;erw[S.hs,x,oa,hc,d,hv];refine AN T.hh hh (by lia) ?_;lk;refine xt S.hs hc hi y S.kU B ?_;obtain hL:eg (D.aC.set k (.int who)) k=some (.int who):=dI (List.getElem?_set_self h) (by lia);erw[T.hh,hL,T.dU];refine A3 (by exact z) S.hs (by simp only[aO _ _ _ _ e];exact S.eI) (.inl (by decide)) ?_;lk;exact bt (by simpa only[aO _ _ _ _ e,d,hv]using q)
def Qe(T:lI D hd)(S:oJ D k)(x:(D.tk (I.N+k)).answer=.tup [.str 81,.int 0,.ref #[I.f,0,c]])(z:Qs I.f D.tq D.ql D.nQ qs)(u:dO (hd k)=.int who)(hc:c<D.nC)(d:(D.cl c).key=.gk 186)(hv:(D.cl c).values=.fz [.int who])(hi:i<D.nT)(e:I.N+k≠i)(y:(D.cl c).caller=.ref #[I.f,2,i])(J:D.sv (I.N+k)=[.ref #[I.f,0,c]])(B:qs (I.N+k)=[])
 (q:Q .none (hp I.f {D with aC:=D.aC.set k .none,cl:=uF D.cl c {D.cl c with state:=.str 244,found:=.tup [.tup [.str 78],.none]},tk:=uF (uF D.tk i {D.tk i with state:=.str 173,bu:=.fz [],wake:=.none,answer:=.tup [.str 78],call:=.none}) (I.N+k) {D.tk (I.N+k)with answer:=.none,state:=.str 247,bu:=.fz [.tup [.int 0,.str 81,.gk 189],.tup [.int 1,.str 155,.none]]},sv:=uF D.sv (I.N+k) []} j)):
 wG (n+5) (.fn 71) [.ref #[I.f,14,0],.ref #[I.f,2,I.N+k],.int k] (hp I.f D j) Q X:=by
 k_lt o4;have O:=T.n;have G:=S.hk;have hh:=nk T S.hk;rw[u]at hh;obtain h:k<D.aC.length:=(eU.mp hh).1;erw[S.hs,x,oa,hc,d,hv];refine vm T.hh hh (by lia) ?_;lk;refine xt S.hs hc hi y S.kU J ?_;obtain hL:eg (D.aC.set k .none) k=some .none:=dI (List.getElem?_set_self h) (by lia);erw[T.hh,hL,T.dU];refine A3 (by exact z) S.hs (by simp only[aO _ _ _ _ e];exact S.eI) (.inr B) ?_;lk;exact bt (by simpa only[aO _ _ _ _ e,d,hv]using q)
def Qg{num:Nat->Int}(T:lI D hd)(S:oJ D k)(ha:(D.tk (I.N+k)).answer=.tup [.str 81,.int 0,.ref #[I.f,0,c]])(hq:Qs I.f D.tq D.ql D.nQ qs)(h0:dO (hd k)=.int who)(hc:c<D.nC)(B:(D.cl c).key=.gk 186)(hv:(D.cl c).values=.fz [.int who])(hi:i<D.nT)(z:I.N+k≠i)(jk:(D.cl c).caller=.ref #[I.f,2,i])(et:D.sv (I.N+k)=[.ref #[I.f,0,c]])
 (y5:qs (I.N+k)=c2::r)(hl:(qs (I.N+k)).length<900)(Sa:(D.cl c2).key=.gk 189)(y:c2≠c)
 (nv:∀d∈qs (I.N+k),d<D.nC)(J:∀d,d<D.nC->(D.cl d).number=.int (num d))(lS:i2<D.nT)(S9:I.N+k≠i2)(uk:i2≠i)(Rt:(D.cl c2).caller=.ref #[I.f,2,i2])
 (q:∀j' x u e,j.le j'->Qs I.f x u e (uF qs (I.N+k) (restOf num c2 (qs (I.N+k))))->Q .none (hp I.f {D with aC:=D.aC.set k .none,tq:=x,ql:=u,nQ:=e,cl:=uF (uF D.cl c {D.cl c with state:=.str 244,found:=.tup [.tup [.str 78],.none]}) c2 {D.cl c2 with state:=.str 243},tk:=uF (uF (uF D.tk i {D.tk i with state:=.str 173,bu:=.fz [],wake:=.none,answer:=.tup [.str 78],call:=.none}) i2 {D.tk i2 with state:=.str 246,wake:=.none}) (I.N+k) {D.tk (I.N+k)with state:=.str 173,bu:=.fz [],wake:=.none,answer:=.tup [.str 81,.int 0,.ref #[I.f,0,c2]]},sv:=uF D.sv (I.N+k) [.ref #[I.f,0,c2]]} j')):
 wG (n+5) (.fn 71) [.ref #[I.f,14,0],.ref #[I.f,2,I.N+k],.int k] (hp I.f D j) Q X:=by
 k_lt o4;have Sx:=T.n;have hk4:=S.hk;have hh:=nk T S.hk;rw[h0]at hh;obtain O:k<D.aC.length:=(eU.mp hh).1;erw[S.hs,ha,oa,hc,B,hv];refine vm T.hh hh (by lia) ?_;lk;refine xt S.hs hc hi jk S.kU et ?_;obtain hL:eg (D.aC.set k .none) k=some .none:=dI (List.getElem?_set_self O) (by lia);erw[T.hh,hL,T.dU];refine Jv (i:=i2) (num:=num) (c:=c2) (r:=r) (by exact hq) S.hs (by simp only[aO _ _ _ _ z];exact S.eI) y5 hl (by simp only[aO _ _ _ _ y];exact Sa) nv (λd hd=> ?_) lS S9 (by simp only[aO _ _ _ _ y];exact Rt) (by simp only[aO _ _ _ _ z];exact S.kU) (by simp only[aD];decide) λj' x u e G P=> ?_
 .by_cases h:d=c
  .subst h;simp only[aD];exact J d hd
  .simp only[aO _ _ _ _ h];exact J d hd
 .lk;exact bt (by simpa only[aO _ _ _ _ z,aO _ _ _ _ y,aO _ _ _ _ uk,B,hv,aD,fh,List.nil_append]using q j' x u e G P)
def Ur{th:Nat->Nat}{kp:Nat->Nm}(T:lI D hd)(hq:Qs I.f D.tq D.ql D.nQ qs)(J:D.tb.iC=some (.fz fs))(B:∀k,k<I.N->fs[k]? =some (.ref (kp k)))(Sd:∀k,k<I.N->aT (hp I.f D j (kp k)) 21=some (.ref #[I.f,7,th k]))
 (Th:∀k,k<I.N->(th k<D.nT\/(50<=th k/\th k<50+D.nG)))(hl:∀k,k<I.N->(qs (th k)).length<=2)(e:∀k,k<I.N->hd k≠none->(qs (th k)).length<=1)
 (u:∀k,k<I.N->hd k=none->qs (th k)≠[]->I.srv=true/\∃s,aT (hp I.f D j (kp k)) 11=some (.str s)/\s≠247)(q:Q (.bool true) (hp I.f D j)):
 wG (n+2) (.fn 75) [.ref #[I.f,14,0]] (hp I.f D j) Q X:=by
 k_lt DT;have Sx:=T.n;have bl:D.aC.length=I.N:=by rw[T.aC];simp
 have Si:I.N<=1000:=by lia
 have et:eA true (.int I.N) (hp I.f D j)=some (aX I.N):=(al rfl).trans (show(if(-1000:Int)<=(I.N:Int)then some (aX I.N)else none)=some (aX I.N)from al (by lia));have gI:(aX I.N).length<=1000:=by unfold aX;rw[be,cC];lia
 erw[T.hh,bl,Si,et,gI];refine fO (λxs l h=>(∀x∈xs,∃k:Nat,k<I.N/\x=V.int k)/\l 193=some (.ref #[I.f,14,0])/\h=hp I.f D j) (λxs l h i=>dh (kn _ _ _)) (λx xs l h i K q=> ?_) _ _ _ #[λx P=> ?_,rfl,rfl] λO h' i=> ?_
 .obtain⟨P,G,rfl⟩:=i;obtain⟨k,hk,rfl⟩:=P x (.head _);have z:∀h:H,bM h (.fz fs) (.int k)=some (.ref (kp k)):=λh=>dI (B k hk) (by lia);have hL:eg D.aC k=some (dO (hd k)):=dI (nk T hk) (by lia);erw[G,J,z,Sd k hk];refine W5 hq (Th k hk) (by have:=hl k hk;lia) ?_;have fin:∀O:Lc,O 193=some (.ref #[I.f,14,0])->K .next O (hp I.f D j):=λO du=>q O _ #[λy hy=>P y (.tail _ hy),du,rfl];cases h:hd k with
  |none=>
   by_cases d:qs (th k)=[]
   .rw[d];erw[G,T.hh,hL,h,dO,List.length_nil,Int.ofNat_zero,gt_iff_lt,Int.lt_irrefl,Int.natCast_zero,Int.cast_ofNat_Int];exact fin _ (by simpa[upd]using G)
   .obtain⟨hs,s,rA,rB⟩:=u k hk h d;have uv:(0:Int)<((qs (th k)).length:Nat):=by have:=List.length_pos_iff.mpr d;lia
    erw[G,T.hh,hL,h,dO,gt_iff_lt,uv,T.srv,hs,rA,rB];exact fin _ (by simpa[upd]using G)
  |some i=>
   have t8:=e k hk (by rw[h];simp);have kR:¬((1:Int)<((qs (th k)).length:Nat)):=by lia
   erw[G,T.hh,hL,h,dO,gt_iff_lt,kR];exact fin _ (by simpa[upd]using G)
 .obtain⟨k,hk,rfl⟩:=bv.mp P;exact#[k,by simpa using ej.mp hk,rfl]
 .obtain⟨_,G,rfl⟩:=i;erw[G,T.snd];exact aR q
end
section
structure Ph where
 pos:Nat
 k:Nat
 st:Nat
 cn:Nat
 bb:Int
 cw:Int
 cg:Int
def Ph.to(p:Ph)(b:Nat):Ph:=#[p.pos,p.k,b,p.cn,p.bb,p.cw,p.cg]
structure Sk where
 st:Nat
 m:Nat
 c:Nat
 o:Nat
structure Bs where
 ph:Nat->Ph
 hd:Nat->Option Nat
 q:Nat->List Nat
 sk:Nat->Sk
 now:Int
def hA(st pos:Nat):Bool:=bif Nat.beq st 0||Nat.ble 5 st then Nat.ble 1 pos&&Nat.ble pos 5 else Nat.ble 2 pos
def hB(st pos:Nat):Bool:=bif Nat.beq st 0||Nat.ble 5 st then Nat.beq pos 3||Nat.beq pos 4 else Nat.beq pos 4||Nat.beq pos 5
def yZ(i:Nat)(a b:Bool)(k:Nat):Prop:=(a=true/\k=I.fa i)\/(b=true/\k=I.fb i)
def bO(i:Nat)(p:Ph)(k:Nat):Prop:=yZ i (hA p.st p.pos) (hB p.st p.pos) k
def aF(i pos:Nat):Nat:=bif Nat.beq pos 1||Nat.beq pos 6 then I.fa i else I.fb i
def ed(st pos k:Nat):Bool:=Nat.ble pos 6&&(bif Nat.beq st 0 then true else bif Nat.beq st 1 then Nat.beq pos 3 else bif Nat.beq st 2 then Nat.beq pos 1||Nat.beq pos 3 else bif Nat.beq st 3 then Nat.beq pos 1||Nat.beq pos 3||Nat.ble 5 pos else bif Nat.beq st 4 then Nat.beq pos 2||Nat.beq pos 4 else Nat.ble st 6&&Nat.beq k 0&&(Nat.beq pos 0||Nat.beq pos 6))
def iu(i pos st:Nat)(e now:Int):Prop:=match pos with
 |2=>if st=0 then now=e+I.rest i else now<e+I.rest i
 |4=>if st=0 then now=e+I.bI i else now<e+I.bI i
 |3=>match I.aV i with
  |.none=>st≠1
  |.bB=>st≠2/\now=e
  |.int w=>if st=1 then now=e+w else now<e+w
 |_=>True
def wP(pos:Nat):Nat:=bif Nat.ble 1 pos&&Nat.ble pos 3 then 1 else 0
structure cq(i:Nat)(p:Ph)(now:Int):Prop where
 ok:ed p.st p.pos p.k=true
 bb:p.bb<=now
 tm:iu i p.pos p.st p.bb now
 cnt:p.cw+p.cg+((p.k+wP p.pos:Nat):Int)=I.bE i
 nK:I.aV i=.none->p.cg=0
def ew:Option Nat->Nat
 |some _=>186
 |none=>189
def fE(ph:Nat->Ph)(hd:k27):Prop:=∀k,k<I.N->∀i,hd k=some i↔i<I.N/\bO i (ph i) k
def dg(ph:Nat->Ph)(q:k30):Prop:=∀k,k<I.N->(q k).Nodup/\∀i,i∈q k↔i<I.N/\(ph i).st=2/\aF i (ph i).pos=k
def jG(ph:Nat->Ph)(now:Int):Prop:=∀i,i<I.N->cq i (ph i) now
def qF(p:Ph)(z:Sk)(i k:Nat):Prop:=p.st=3/\aF i p.pos=k/\z.c=p.cn/\z.o=bif Nat.ble p.pos 3 then 189 else 186
structure fG(ph:Nat->Ph)(sk:Nat->Sk):Prop where
 a:∀i,i<I.N->(ph i).st=3->(sk (aF i (ph i).pos)).st=1/\(sk (aF i (ph i).pos)).m=i
 b:∀k,k<I.N->(sk k).st=1->(sk k).m<I.N/\qF (ph (sk k).m) (sk k) (sk k).m k
def gq(hd:k27)(q:k30)(sk:Nat->Sk):Prop:=∀k,k<I.N->hd k=none->(sk k).st=2->q k=[]
structure eE(ph:Nat->Ph)(hd:k27)(sk:Nat->Sk):Prop where
 o:I.srv=true->∀k,k<I.N->(sk k).o=ew (hd k)
 z:∀k,k<I.N->(sk k).st=0->hd k=none
 e:∀k,k<I.N->(sk k).st=3->∀i,i<I.N->(ph i).st=6
 l:∀k,(sk k).st<=3
 b:I.srv=false->∀k,(sk k).st=2
variable{ph:Nat->Ph}{hd:k27}{q:k30}{sk:Nat->Sk}{now:Int}{i k:Nat}{p:Ph}
def bT{af:Type}{P:Nat->af->Prop}{F:Nat->af}{t:af}(u:P i t)(B:∀x,x≠i->P x (F x))(x:Nat):P x (uF F i t x):=by
 by_cases e:x=i
 .rw[e,aD];exact u
 .rw[aO _ _ _ _ e];exact B x e
def jG.upd(L:jG ph now)(h:cq i p now):jG (uF ph i p) now:=bT (P:=λx (r:Ph)=>x<I.N->cq x r now) (λU=>h) λx U=>L x
def fE.upd(H:fE ph hd)(h:∀x,bO i p x↔bO i (ph i) x):fE (uF ph i p) hd:=λk hk=>bT (P:=λx (r:Ph)=>hd k=some x↔x<I.N/\bO x r k) ((H k hk i).trans (and_congr Iff.rfl (h k).symm)) λx U=>H k hk x
def fE.take(H:fE ph hd)(hi:i<I.N)(hf:hd k=none)(h:∀x,bO i p x↔x=k\/bO i (ph i) x):fE (uF ph i p) (uF hd k (some i)):=λy d=>by
 by_cases e:y=k
 .subst e;rw[aD];refine bT (P:=λx (r:Ph)=>some i=some x↔x<I.N/\bO x r y) #[λU=>#[hi,(h y).mpr (.inl rfl)],λU=>rfl] λx D=>#[λe=>(D (aL e).symm).elim,λz=> ?_];exact nomatch hf.symm.trans ((H y d x).mpr z)
 .rw[aO _ _ _ _ e];exact bT (P:=λx (r:Ph)=>hd y=some x↔x<I.N/\bO x r y) ((H y d i).trans (and_congr Iff.rfl ((h y).trans #[λz=>z.resolve_left e,.inr]).symm)) λx U=>H y d x
def fE.lay(H:fE ph hd)(hf:hd k=some i)(h:∀x,bO i p x↔x≠k/\bO i (ph i) x):fE (uF ph i p) (uF hd k none):=λy d=>by
 by_cases e:y=k
 .subst e;rw[aD];refine bT (P:=λx (r:Ph)=>none=some x↔x<I.N/\bO x r y) #[λe=>(nomatch e),λz=>(((h y).mp z.2).1 rfl).elim] λx D=>#[λe=>(nomatch e),λz=> ?_];exact(D (aL (hf.symm.trans ((H y d x).mpr z))).symm).elim
 .rw[aO _ _ _ _ e];exact bT (P:=λx (r:Ph)=>hd y=some x↔x<I.N/\bO x r y) ((H y d i).trans (and_congr Iff.rfl ((h y).trans #[And.right,λz=>#[e,z]]).symm)) λx U=>H y d x
def dg.upd(H:dg ph q)(e:(ph i).st≠2)(u:p.st≠2):dg (uF ph i p) q:=λk hk=>#[(H k hk).1,bT (P:=λx (r:Ph)=>x∈q k↔x<I.N/\r.st=2/\aF x r.pos=k) (((H k hk).2 i).trans #[λz=>(e z.2.1).elim,λz=>(u z.2.1).elim]) λx U=>(H k hk).2 x]
def dg.join(H:dg ph q)(hi:i<I.N)(hk:k<I.N)(B:(ph i).st≠2)(O:p.st=2)(u:aF i p.pos=k):dg (uF ph i p) (uF q k (q k++[i])):=λy h=>by
 have J:i∉q y:=λz=>B (((H y h).2 i).mp z).2.1;by_cases e:y=k
 .subst e;rw[aD];refine#[List.nodup_append.mpr #[(H y h).1,List.pairwise_singleton _ _,λa d b hb e=>J (cu.mp hb▸e▸d)],bT (P:=λx (r:Ph)=>x∈q y++[i]↔x<I.N/\r.st=2/\aF x r.pos=y) #[λU=>#[hi,O,u],λU=>List.mem_append.mpr (.inr (.head _))] λx D=> ?_];rw[←(H y h).2 x,List.mem_append];exact#[λz=>z.resolve_right λz=>D (cu.mp z),.inl]
 .rw[aO _ _ _ _ e];exact#[(H y h).1,bT (P:=λx (r:Ph)=>x∈q y↔x<I.N/\r.st=2/\aF x r.pos=y) #[λz=>(J z).elim,λz=>(e (z.2.2.symm.trans u)).elim] λx U=>(H y h).2 x]
def dg.head(H:dg ph q)(hk:k<I.N)(u:q k=i::r)(B:p.st≠2):dg (uF ph i p) (uF q k r):=λy h=>by
 obtain D:=((H k hk).2 i).mp (u▸ .head _);have d:=(H k hk).1;rw[u]at d;have d:=ek.mp d;by_cases e:y=k
 .subst e;rw[aD];refine#[d.2,bT (P:=λx (z:Ph)=>x∈r↔x<I.N/\z.st=2/\aF x z.pos=y) #[λz=>(d.1 z).elim,λz=>(B z.2.1).elim] λx G=> ?_];rw[←(H y h).2 x,u,b8];exact#[.inr,λz=>z.resolve_left G]
 .rw[aO _ _ _ _ e];exact#[(H y h).1,bT (P:=λx (z:Ph)=>x∈q y↔x<I.N/\z.st=2/\aF x z.pos=y) #[λz=>(e ((((H y h).2 i).mp z).2.2.symm.trans D.2.2)).elim,λz=>(B z.2.1).elim] λx U=>(H y h).2 x]
def fG.upd(H:fG ph sk)(u:(ph i).st≠3)(B:p.st≠3):fG (uF ph i p) sk:=
 #[bT (P:=λx (r:Ph)=>x<I.N->r.st=3->(sk (aF x r.pos)).st=1/\(sk (aF x r.pos)).m=x) (λU z=>(B z).elim) λx U=>H.a x,λk hk h=>by
  have z:=H.b k hk h;rw[aO _ _ _ _ λe:(sk k).m=i=>u (e▸z.2.1)];exact z]
def fG.join(H:fG ph sk){z:Sk}(hi:i<I.N)(hk:k<I.N)(O:(ph i).st≠3)(J:(sk k).st≠1)(hz:z.st=1/\z.m=i)(B:qF p z i k):fG (uF ph i p) (uF sk k z):=
 #[bT (P:=λx (r:Ph)=>x<I.N->r.st=3->(uF sk k z (aF x r.pos)).st=1/\(uF sk k z (aF x r.pos)).m=x) (λU U=>by rw[B.2.1,aD];exact hz) λx U d h=>by
  have z:=H.a x d h;rw[aO _ _ _ _ λe:aF x (ph x).pos=k=>J (e▸z.1)];exact z,
  bT (P:=λy (u:Sk)=>y<I.N->u.st=1->u.m<I.N/\qF (uF ph i p u.m) u u.m y) (λU U=>by rw[hz.2,aD];exact#[hi,B]) λy U D h=>by
   have z:=H.b y D h;rw[aO _ _ _ _ λe:(sk y).m=i=>O (e▸z.2.1)];exact z]
def fG.part(H:fG ph sk){z:Sk}(hk:k<I.N)(J:(sk k).st=1)(B:(sk k).m=i)(hz:z.st≠1)(O:p.st≠3):fG (uF ph i p) (uF sk k z):=by
 refine#[bT (P:=λx (r:Ph)=>x<I.N->r.st=3->(uF sk k z (aF x r.pos)).st=1/\(uF sk k z (aF x r.pos)).m=x) (λU e=>(O e).elim) λx D d h=> ?_,
  bT (P:=λy (u:Sk)=>y<I.N->u.st=1->u.m<I.N/\qF (uF ph i p u.m) u u.m y) (λU e=>(hz e).elim) λy G d h=> ?_]
 .have z:=H.a x d h;rw[aO _ _ _ _ λe:aF x (ph x).pos=k=>D (z.2.symm.trans ((aq (λy=>(sk y).m) e).trans B))];exact z
 .have z:=H.b y d h;rw[aO _ _ _ _ λe:(sk y).m=i=>G (z.2.2.1.symm.trans (by rw[e,←B];exact(H.b k hk J).2.2.1))];exact z
def eE.upd(H:eE ph hd sk)(hi:i<I.N)(h:(ph i).st≠6):eE (uF ph i p) hd sk:=#[H.o,H.z,λk hk e=>(h (H.e k hk e i hi)).elim,H.l,H.b]
inductive Nx(i:Nat):Nat->Nat->Nat->Nat->Prop
 |n0 (k:Nat):Nx i 0 (k+1) 1 k
 |r1 (k:Nat) (h:0<I.rest i):Nx i 1 k 2 k
 |n1 (k:Nat) (h:¬0<I.rest i):Nx i 1 k 3 k
 |n2 (k:Nat):Nx i 2 k 3 k
 |m3 (k:Nat) (h:0<I.bI i):Nx i 3 k 4 k
 |n3 (k:Nat) (h:¬0<I.bI i):Nx i 3 k 5 k
 |n4 (k:Nat):Nx i 4 k 5 k
 |n5 (k:Nat):Nx i 5 k 6 k
 |n6 (k:Nat):Nx i 6 (k+1) 1 k
def e3(pos:Nat):Nat:=bif Nat.beq pos 3 then 1 else 0
inductive b0(i:Nat)(p:Ph):Nat->Nat->Int->Int->Prop
 |a {p' k':Nat} (h:p.st=0) (hn:Nx i p.pos p.k p' k'):b0 i p p' k' (p.cw+(e3 p.pos:Nat)) p.cg
 |b (h:p.st=1):b0 i p 6 p.k p.cw (p.cg+1)
variable{a b c d p' k':Nat}{e' h':Int}
def Nx.jh(h:Nx i a b c d):hA 2 c=hA 0 a/\hB 2 c=hB 0 a:=by induction h<;>exact#[rfl,rfl]
def Nx.cnt(h:Nx i a b c d):d+wP c+e3 a=b+wP a:=by induction h<;>rfl
def Nx.le(h:Nx i a b c d):d<=b:=by induction h<;>first|exact bG _|exact Nat.le_succ _
def Nx.UR(h:Nx i a b c d):mA i a=mB i c:=by induction h<;>rfl
def Nx.rem(h:Nx i a b c d):rem i a b=c::rem i c d:=by
 induction h with
 |r1 _ h=>show((if 0<I.rest i then[2]else[])++_)++_=_;rw[al h];rfl
 |n1 _ h=>show((if 0<I.rest i then[2]else[])++_)++_=_;rw[ak h];rfl
 |m3 _ h=>show((if 0<I.bI i then[4]else[])++_)++_=_;rw[al h];rfl
 |n3 _ h=>show((if 0<I.bI i then[4]else[])++_)++_=_;rw[ak h];rfl
 |_=>rfl
def VI(i:Nat)(h:pos<=6):(∃c d,Nx i pos k c d)\/((pos=0\/pos=6)/\k=0):=
 match pos,k with
 |0,0=>.inr #[.inl rfl,rfl]
 |0,_+1=>.inl #[_,_,.n0 _]
 |1,_=>if h:0<I.rest i then .inl #[_,_,.r1 _ h]else .inl #[_,_,.n1 _ h]
 |2,_=>.inl #[_,_,.n2 _]
 |3,_=>if h:0<I.bI i then .inl #[_,_,.m3 _ h]else .inl #[_,_,.n3 _ h]
 |4,_=>.inl #[_,_,.n4 _]
 |5,_=>.inl #[_,_,.n5 _]
 |6,0=>.inr #[.inr rfl,rfl]
 |6,_+1=>.inl #[_,_,.n6 _]
 |n+7,_=>absurd h (by lia)
def pW(h:ed st pos k=true):pos<=6:=gW (iy.mp h).1
def si(h:ed 1 pos k=true):pos=3:=gw (iy.mp h).2
def pV(h:ed 2 pos k=true):pos=1\/pos=3:=(Bool.or_eq_true_iff.mp (iy.mp h).2).imp gw gw
def Az(h:ed 3 pos k=true):(pos=1\/pos=3)\/5<=pos:=(Bool.or_eq_true_iff.mp (iy.mp h).2).imp (λh=>(Bool.or_eq_true_iff.mp h).imp gw gw) gW
def Ij(h:ed 4 pos k=true):pos=2\/pos=4:=(Bool.or_eq_true_iff.mp (iy.mp h).2).imp gw gw
def lg(h:ed (st+5) pos k=true):st<=1/\k=0/\(pos=0\/pos=6):=by have h:=iy.mp (iy.mp h).2;have d:=iy.mp h.1;exact#[Nat.le_of_add_le_add_right (b:=5) (gW d.1),gw d.2,(Bool.or_eq_true_iff.mp h.2).imp gw gw]
def b0.st(H:b0 i p p' k' e' h'):p.st=0\/p.st=1:=by
 induction H with
 |a h _=>exact .inl h
 |b h=>exact .inr h
def b0.ne(H:b0 i p p' k' e' h'):p.st≠2/\p.st≠3/\p.st≠6:=by rcases H.st with h|h<;>rw[h]<;>decide
def b0.jh(ae:cq i p now)(H:b0 i p p' k' e' h'):hA 2 p'=hA p.st p.pos/\hB 2 p'=hB p.st p.pos:=by
 have ok:=ae.ok;induction H with
 |a h d=>rw[h];exact d.jh
 |b h=>rw[h]at ok⊢;rw[si ok];exact#[rfl,rfl]
def b0.le(H:b0 i p p' k' e' h'):k'<=p.k:=by
 induction H with
 |a _ h=>exact h.le
 |b _=>exact bG _
def NK(e h:Int)(x y:Nat):e+(y:Int)+h+(x:Int)=e+h+((x+y:Nat):Int):=by rw[Int.natCast_add,Int.add_right_comm e,Int.add_right_comm (e+h),Int.add_assoc (e+h)]
def NL(e h:Int)(k:Nat):e+(h+1)+((k+0:Nat):Int)=e+h+((k+1:Nat):Int):=by rw[Int.natCast_add k 1,←Int.add_assoc e h,Int.add_right_comm,Int.add_assoc (e+h)];rfl
def cq.new(ae:cq i p now)(H:b0 i p p' k' e' h')(ok:ed st p' k'=true)(tm:iu i p' st now now):cq i #[p',k',st,cn,now,e',h'] now:=by
 have y:=ae.cnt;obtain D:=ae.nK;have hk:=ae.ok;have x:=ae.tm;induction H with
 |@a c d h z=>have:=z.cnt;exact#[ok,Int.le_refl _,tm,by rw[←y,←this];exact NK _ _ _ _,D]
 |b h=>
  rw[h]at hk x;rw[si hk]at y x;refine#[ok,Int.le_refl _,tm,?_,λz=> ?_]
  .obtain y:p.cw+p.cg+((p.k+1:Nat):Int)=I.bE i:=y;rw[←y];exact NL _ _ _
  .have x:match I.aV i with|.none=>1≠1|.bB=>1≠2/\now=p.bb|.int w=>if 1=1 then now=p.bb+w else now<p.bb+w:=x
   rw[z]at x;exact(x rfl).elim
def cq.to(ae:cq i p now)(e:ed st p.pos p.k=true)(u:iu i p.pos st p.bb now):cq i {p with st:=st} now:=#[e,ae.bb,u,ae.cnt,ae.nK]
def jq{q:Ph}(h:hA q.st q.pos=hA p.st p.pos/\hB q.st q.pos=hB p.st p.pos)(x:Nat):bO i q x↔bO i p x:=by unfold bO;rw[h.1,h.2]
def y3{q:Ph}(h:hA 2 q.pos=hA p.st p.pos/\hB 2 q.pos=hB p.st p.pos)(e:q.st=0)(hp:q.pos=1\/q.pos=3)(x:Nat):bO i q x↔x=aF i q.pos\/bO i p x:=by
 unfold bO;rw[←h.1,←h.2,e];rcases hp with h|h<;>rw[h]
 .exact#[λz=>z.elim (λz=>.inl z.2) λz=>(nomatch z.1),λz=>z.elim (λz=>.inl #[rfl,z]) λz=>z.elim (λz=>(nomatch z.1)) λz=>(nomatch z.1)]
 .exact#[λz=>z.elim (λz=>.inr (.inl z)) λz=>.inl z.2,λz=>z.elim (λz=>.inr #[rfl,z]) λz=>z.elim (λz=>.inl z) λz=>(nomatch z.1)]
def Ge{q:Ph}(B:I.fa i≠I.fb i)(h:hA 2 q.pos=hA p.st p.pos/\hB 2 q.pos=hB p.st p.pos)(u:q.st=0)(hp:q.pos=5\/q.pos=6)(x:Nat):bO i q x↔x≠aF i q.pos/\bO i p x:=by
 unfold bO;rw[←h.1,←h.2,u];rcases hp with h|h<;>rw[h]
 .exact#[λz=>z.elim (λz=>#[λe=>B (z.2.symm.trans e),.inl z]) λz=>(nomatch z.1),λz=>z.2.elim .inl λy=>(z.1 y.2).elim]
 .exact#[λz=>z.elim (λz=>(nomatch z.1)) λz=>(nomatch z.1),λz=>z.2.elim (λy=>(z.1 y.2).elim) λy=>(nomatch y.1)]
def ij{af:Type}(N:Nat)(f g:Nat->af):Nat->af:=λx=>if x<N then f x else g (x-N)
variable{af aK:Type}{N:Nat}{f g:Nat->af}{t:af}
def lp(h:i<N):ij N f g i=f i:=al h
def lq:ij N f g (N+k)=g k:=(ak (Nat.not_lt.mpr (dL N k))).trans (by rw[Nat.add_sub_cancel_left])
def YG(h:i<N):uF (ij N f g) i t=ij N (uF f i t) g:=funext λx=>by
 by_cases e:x=i
 .rw[e,aD,lp h,aD]
 .rw[aO _ _ _ _ e];unfold ij;rw[aO _ _ _ _ e]
def JQ:uF (ij N f g) (N+k) t=ij N f (uF g k t):=funext λx=>by
 by_cases h:x<N
 .rw[aO _ _ _ _ (Nat.ne_of_lt (bU h (dL N k))),lp h,lp h]
 .obtain⟨y,rfl⟩:=Nat.le.dest (Nat.not_lt.mp h);rw[lq];by_cases e:y=k
  .rw[e,aD,aD]
  .rw[aO _ _ _ _ e,aO _ _ _ _ λh=>e (Nat.add_left_cancel h),lq]
def gS(h:Nat->aK->af)(F:Nat->aK)(p:aK):uF (λx=>h x (F x)) i (h i p)=λx=>h x (uF F i p x):=funext λx=>by
 by_cases e:x=i
 .rw[e,aD,aD]
 .rw[aO _ _ _ _ e,aO _ _ _ _ e]
def kp(k:Nat):Nm:=if I.srv then#[I.f,2,I.N+k]else#[I.f,3,k]
def t0:Nat:=if I.srv then I.N else 50
def th(k:Nat):Nat:=t0+k
def wk(i:Nat)(p:Ph):V:=if p.st=4 then .int (p.bb+(if p.pos=2 then I.rest i else I.bI i))else if p.st=2/\p.pos=3 then(match I.aV i with|.int w=>.int (p.bb+w)|_=>.none)else .none
def code:Nat->Nat
 |0=>173
 |1=>173
 |2=>245
 |3=>246
 |4=>248
 |5=>250
 |_=>251
def lK(p:Ph):V:=bif Nat.beq p.st 2||Nat.beq p.st 3 then .ref #[I.f,0,p.cn]else .none
def fp(i:Nat)(p:Ph):V:=bif Nat.beq p.st 1 then(match I.aV i with|.bB=>.tup [.str 92]|_=>.tup [.str 66])else bif (Nat.beq p.st 0||Nat.ble 5 p.st)&&(Nat.beq p.pos 1||Nat.beq p.pos 3||I.srv&&Nat.ble 5 p.pos)then .tup [.str 78]else .none
def cV(i:Nat)(p:Ph):TR:=#[.int (i+1),.str 226,.ref #[I.f,5,0],.str (code p.st),.ref #[I.f,7,i],.fz [],wk i p,lK p,.ref #[I.f,10,i],fp i p,.int 0]
def pY(z:Sk):V:=bif Nat.beq z.st 2 then .fz [.tup [.int 0,.str 81,.gk z.o],.tup [.int 1,.str 155,.none]]else .fz []
def fM(st:Nat):Nat:=bif Nat.ble st 1 then 173 else bif Nat.beq st 2 then 247 else 251
def fV(k:Nat)(z:Sk):TR:=#[.int ((I.N+k:Nat)+1),.str 195,.ref #[I.f,5,0],.str (fM z.st),.ref #[I.f,7,I.N+k],pY z,.none,.none,.ref #[I.f,10,I.N+k],bif Nat.beq z.st 1 then .tup [.str 81,.int 0,.ref #[I.f,0,z.c]]else .none,.int 0]
def iX(z:Sk):List V:=bif Nat.beq z.st 1 then[.ref #[I.f,0,z.c]]else[]
def bF(ph:Nat->Ph)(sk:Nat->Sk):Nat->TR:=ij I.N (λi=>cV i (ph i)) λk=>fV k (sk k)
def kv(sk:Nat->Sk):Nat->List V:=ij I.N (λU=>[]) λk=>iX (sk k)
def on(i:Nat)(p:Ph):SR:=#[.ref #[I.f,12,i],dv i p.pos,.ref #[I.f,13,i],.int p.bb,.int p.cw,.int p.cg]
def nc(i:Nat)(p:Ph):List V:=(rem i p.pos p.k).map (dv i)
def k9(i:Nat)(p:Ph):List V:=bw (bif Nat.ble 5 p.st then[]else mB i p.pos)
def LP(ph:Nat->Ph):Nat->SR:=λi=>on i (ph i)
def Ld(ph:Nat->Ph):Nat->List V:=λi=>nc i (ph i)
def Lz(ph:Nat->Ph):Nat->List V:=λi=>k9 i (ph i)
def jF(hd:k27):List V:=(List.range I.N).map λk=>dO (hd k)
def dD(r:CR):V×V×V×V:=(r.caller,r.target,r.key,r.values)
def jd(i pos:Nat):V×V×V×V:=(.ref #[I.f,2,i],.ref (kp (aF i pos)),.gk (bif Nat.ble pos 3 then 189 else 186),.fz [.int i])
def fC(ph:Nat->Ph)(nC:Nat)(cl:Nat->CR):Prop:=∀i,i<I.N->(ph i).st=2\/(ph i).st=3->(ph i).cn<nC/\dD (cl (ph i).cn)=jd i (ph i).pos
def jH(nT nC:Nat)(cl:Nat->CR):Prop:=∀c,c<nC->(cl c).number=.int ((nT+c+1:Nat):Int)
def bS(ph:Nat->Ph)(q:k30):Nat->List Nat:=λx=>if t0<=x/\x<t0+I.N then(q (x-t0)).map (λi=>(ph i).cn)else[]
structure K9(r:Fso):Prop where
 nT:r.nT=if I.srv then I.N+I.N else I.N
 nG:r.nG=if I.srv then 0 else I.N
 nS:r.nS=I.N
 aY:r.aY=bD I.f r.nT
 bC:r.bC=bD I.f r.nT
 M:r.M=#[.ref #[I.f,18,0],.bool I.srv]
 gr:∀k,r.gr k=#[.int (90+k),.ref #[I.f,7,50+k],.none]
 tb:∃fs,r.tb=#[.ref #[I.f,6,0],.bool I.srv,.ref #[I.f,15,0],.bool true,some (.fz fs)]/\fs.length=I.N/\∀k,k<I.N->fs[k]? =some (.ref (kp k))
structure KP(K:KR)(n nL:Nat):Prop where
 iA:K.eX=.ref #[I.f,1,0]
 aY:K.aY=.ref #[I.f,17,0]
 l9:K.nZ=.ref #[I.f,5,0]
 num:K.cJ=.int (n:Int)
 set:∃x,K.settled=.int x
 dR:∃l,K.dR=.ref #[I.f,19,l]/\l<nL
structure Gd(s:Bs):Prop where
 loc:jG s.ph s.now
 free:gq s.hd s.q s.sk
structure W(s:Bs)(D:Fs):Prop where
 con:K9 D.toFso
 K:KP D.K (D.nT+D.nC) D.nL
 tk:D.tk=bF s.ph s.sk
 sv:D.sv=kv s.sk
 st:D.st=LP s.ph
 dl:D.dl=Ld s.ph
 mn:D.mn=Lz s.ph
 aC:D.aC=jF s.hd
 now:D.now=s.now
 ce:fC s.ph D.nC D.cl
 num:jH D.nT D.nC D.cl
 b9:Qs I.f D.tq D.ql D.nQ (bS s.ph s.q)
 hold:fE s.ph s.hd
 qp:dg s.ph s.q
 met:fG s.ph s.sk
 sk:eE s.ph s.hd s.sk
variable{nC nT:Nat}{z:Sk}{cl:Nat->CR}
def gV(hi:i<I.N):uF (bF ph sk) i (cV i p)=bF (uF ph i p) sk:=(YG hi).trans (aq (ij I.N · _) (gS (cV) ph p))
def tf:uF (bF ph sk) (I.N+k) (fV k z)=bF ph (uF sk k z):=JQ.trans (aq (ij I.N _) (gS (fV) sk z))
def te:uF (kv sk) (I.N+k) (iX z)=kv (uF sk k z):=JQ.trans (aq (ij I.N _) (gS (λU=>iX) sk z))
def s8(v:Option Nat):(jF hd).set k (dO v)=jF (uF hd k v):=by
 apply List.ext_getElem?;intro x;unfold jF;rw[List.getElem?_set,eW,eW,be,cC];by_cases h:k=x
 .subst h;rw[al rfl];by_cases hk:k<I.N
  .rw[al hk,iw hk];exact aq (λz=>some (dO z)) (aD hd k v).symm
  .rw[ak hk,List.getElem?_eq_none (by rw[cC];exact Nat.not_lt.mp hk)];rfl
 .rw[ak h];by_cases d:x<I.N
  .rw[iw d];exact aq (λz=>some (dO z)) (aO hd k x v λe=>h e.symm).symm
  .rw[List.getElem?_eq_none (by rw[cC];exact Nat.not_lt.mp d)];rfl
def io(cl e:Nat->CR):Prop:=∀d,dD (e d)=dD (cl d)/\(e d).number=(cl d).number
def io.upd(c:Nat){r:CR}(h:dD r=dD (cl c)/\r.number=(cl c).number):io cl (uF cl c r):=bT (P:=λd (r:CR)=>dD r=dD (cl d)/\r.number=(cl d).number) h λU U=>#[rfl,rfl]
def io.trans{a b c:Nat->CR}(h:io a b)(k:io b c):io a c:=λd=>#[(k d).1.trans (h d).1,(k d).2.trans (h d).2]
def jH.sc(H:jH nT nC cl)(e:io cl u):jH nT nC u:=λc h=>(e c).2.trans (H c h)
def jH.new{r:CR}(H:jH nT nC cl)(e:r.number=.int ((nT+nC+1:Nat):Int)):jH nT (nC+1) (uF cl nC r):=bT (P:=λc (r:CR)=>c<nC+1->r.number=.int ((nT+c+1:Nat):Int)) (λU=>e) λc h d=>H c (Nat.lt_of_le_of_ne (Nat.le_of_lt_succ d) h)
def fC.sc(H:fC ph nC cl)(e:io cl u):fC ph nC u:=λi d h=>#[(H i d h).1,(e _).1.trans (H i d h).2]
def fC.off(H:fC ph nC cl)(h:p.st≠2/\p.st≠3):fC (uF ph i p) nC cl:=bT (P:=λx (r:Ph)=>x<I.N->r.st=2\/r.st=3->r.cn<nC/\dD (cl r.cn)=jd x r.pos) (λU z=>(z.elim h.1 h.2).elim) λx U=>H x
def fC.to(H:fC ph nC cl)(hi:i<I.N)(h:(ph i).st=2\/(ph i).st=3)(e:p.cn=(ph i).cn)(u:p.pos=(ph i).pos):fC (uF ph i p) nC cl:=bT (P:=λx (r:Ph)=>x<I.N->r.st=2\/r.st=3->r.cn<nC/\dD (cl r.cn)=jd x r.pos) (λU U=>by rw[e,u];exact H i hi h) λx U=>H x
def fC.new(H:fC ph nC cl)(h:p.st=2\/p.st=3->p.cn=nC/\dD r=jd i p.pos):fC (uF ph i p) (nC+1) (uF cl nC r):=bT (P:=λx (z:Ph)=>x<I.N->z.st=2\/z.st=3->z.cn<nC+1/\dD (uF cl nC r z.cn)=jd x z.pos) (λU z=>by rw[(h z).1,aD];exact#[bA _,(h z).2]) λx U d z=>by have y:=H x d z;rw[aO _ _ _ _ (Nat.ne_of_lt y.1)];exact#[Nat.lt_succ_of_lt y.1,y.2]
def kb(hk:k<I.N):bS ph q (th k)=(q k).map λi=>(ph i).cn:=by unfold bS th;rw[al #[dL _ _,Nat.add_lt_add_left hk _],Nat.add_sub_cancel_left]
def vu{ph':Nat->Ph}(hk:k<I.N){r l:k06}(h:r.map (λi=>(ph' i).cn)=l)(u:∀y,y<I.N->y≠k->∀x∈q y,(ph' x).cn=(ph x).cn):uF (bS ph q) (th k) l=bS ph' (uF q k r):=funext λx=>by
 by_cases e:x=th k
 .rw[e,aD,kb hk,aD,h]
 .rw[aO _ _ _ _ e];unfold bS;by_cases d:t0<=x/\x<t0+I.N
  .rw[al d,al d];have e':x-t0≠k:=λh=>e (h▸(Nat.add_sub_cancel' d.1).symm);rw[aO _ _ _ _ e'];exact jb λy z=>(u _ (Nat.sub_lt_left_of_lt_add d.1 d.2) e' y z).symm
  .rw[ak d,ak d]
def jB{ph':Nat->Ph}(e:∀y,y<I.N->∀x∈q y,(ph' x).cn=(ph x).cn):bS ph q=bS ph' q:=funext λx=>by
 unfold bS;by_cases h:t0<=x/\x<t0+I.N
 .rw[al h,al h];exact jb λy d=>(e _ (Nat.sub_lt_left_of_lt_add h.1 h.2) y d).symm
 .rw[ak h,ak h]
set_option synthInstance.maxSize 4000 in
set_option synthInstance.maxHeartbeats 200000 in
def ZD:∀N,N<5->∀k,k<N->∀x,x<N->∀y,y<N->∀z,z<N->(Nat.beq x k||Nat.beq ((x+1) % N) k)=true->(Nat.beq y k||Nat.beq ((y+1) % N) k)=true->(Nat.beq z k||Nat.beq ((z+1) % N) k)=true->x=y\/x=z\/y=z:=by decide
def Kx(h:k=I.fa x\/k=I.fb x):(Nat.beq x k||Nat.beq ((x+1) % I.N) k)=true:=by
 rw[Bool.or_eq_true,Nat.beq_eq,Nat.beq_eq];unfold ck.fa ck.fb at h;by_cases d:I.hand x=0
 .rw[al d,al d]at h;exact h.imp Eq.symm Eq.symm
 .rw[ak d,ak d]at h;exact h.symm.imp Eq.symm Eq.symm
def Kf(i pos:Nat):aF i pos=I.fa i\/aF i pos=I.fb i:=by
 unfold aF;cases Nat.beq pos 1||Nat.beq pos 6 with
 |true=>exact .inl rfl
 |false=>exact .inr rfl
def lu(aa:bn I)(hi:i<I.N)(pos:Nat):aF i pos<I.N:=by
 rcases Kf i pos with h|h<;>rw[h]
 .exact aa.a i hi
 .exact aa.b i hi
def dg.use(H:dg ph q)(hk:k<I.N)(h:x∈q k):(Nat.beq x k||Nat.beq ((x+1) % I.N) k)=true:=by obtain m:=((H k hk).2 x).mp h;rw[←m.2.2];exact Kx (Kf x _)
def dg.two(H:dg ph q)(aa:bn I)(hk:k<I.N){x y z:Nat}{r:k06}(h:q k=x::y::r)(hz:z<I.N)(B:(Nat.beq z k||Nat.beq ((z+1) % I.N) k)=true)(u:z≠x/\z≠y):False:=by
 have d:x∈q k:=h▸ .head _;have D:y∈q k:=h▸ .tail _ (.head _);have G:=(H k hk).1;rw[h]at G;have P:x≠y:=λe=>(ek.mp G).1 (e▸ .head _);rcases ZD I.N (Nat.lt_succ_of_le aa.n4) k hk x (((H k hk).2 x).mp d).1 y (((H k hk).2 y).mp D).1 z hz (H.use hk d) (H.use hk D) B with e|e|e
 .exact P e
 .exact u.1 e.symm
 .exact u.2 e.symm
def dg.len(H:dg ph q)(aa:bn I)(hk:k<I.N):(q k).length<=2:=by
 match h:q k with
 |[]=>exact cD _
 |[_]=>exact Nat.le_succ _
 |[_,_]=>exact bG _
 |x::y::z::r=>have hz:z∈q k:=h▸ .tail _ (.tail _ (.head _));have d:=(H k hk).1;rw[h]at d;have n1:=ek.mp d;exact(H.two aa hk h (((H k hk).2 z).mp hz).1 (H.use hk hz) #[λe=>n1.1 (e▸ .tail _ (.head _)),λe=>(ek.mp n1.2).1 (e▸ .head _)]).elim
def dg.cn(H:dg ph q)(h:(ph i).st≠2)(y:Nat)(u:y<I.N)(x:Nat)(hx:x∈q y):(uF ph i p x).cn=(ph x).cn:=by rw[aO _ _ _ _ λe:x=i=>h (e▸(((H y u).2 x).mp hx).2.1)]
structure At{af:Type}(F ah:Nat->af)(i:Nat)(t:af):Prop where
 e:ah i=t
 u:∀x,uF ah i x=uF F i x
def At.of{af:Type}{F:Nat->af}{t:af}(h:F i=t):At F F i t:=#[h,λU=>rfl]
def At.upd{af:Type}(F:Nat->af)(i:Nat)(t:af):At F (uF F i t) i t:=#[aD _ _ _,λU=>fh _ _ _ _]
def At.is{af:Type}{F ah:Nat->af}{t:af}(h:At F ah i t):ah=uF F i t:=by rw[←lw ah i,h.u,h.e]
inductive Hd(i:Nat)(p:Ph):List Nat->List Nat->Int->Int->Prop
 |a (h:p.st=0):Hd i p (mA i p.pos) (rem i p.pos p.k) (p.cw+(e3 p.pos:Nat)) p.cg
 |b (h:p.st=1):Hd i p [I.fa i] (6::cW i p.k) p.cw (p.cg+1)
structure Hw(D:Fs)(i:Nat)(p:Ph)(ms ai:k06)(e' h':Int)(aS:Fs):Prop where
 of::
 x:∃a b c,aS={D with mn:=a,dl:=b,st:=c}/\At D.mn a i (bw ms)/\At D.dl b i (ai.map (dv i))/\At D.st c i #[.ref #[I.f,12,i],dv i p.pos,.ref #[I.f,13,i],.int p.bb,.int e',.int h']
def b0.rq(H:b0 i p p' k' e' h'):Hd i p (mB i p') (p'::rem i p' k') e' h':=by
 induction H with
 |a h d=>rw[←d.UR,←d.rem];exact .a h
 |b h=>exact .b h
def mL(i:Nat)(a b:Bool):List Nat:=(bif a then[I.fa i]else[])++(bif b then[I.fb i]else[])
def US(i:Nat):∀pos,pos<=6->mA i pos=mL i (hA 0 pos) (hB 0 pos)
 |0,_=>rfl
 |1,_=>rfl
 |2,_=>rfl
 |3,_=>rfl
 |4,_=>rfl
 |5,_=>rfl
 |6,_=>rfl
 |n+7,h=>absurd h (by lia)
def PS:∀N,N<5->∀x,x<N->∀y,y<N->x≠y->∀a b:Bool,((List.range N).filter λk=>(a&&Nat.beq k x)||(b&&Nat.beq k y))=ii ((bif a then[x]else[])++(bif b then[y]else[])):=by decide
def Cs(i:Nat):∀pos,(jK i pos).length<=5
 |0=>cD _
 |1=>by show((if 0<I.rest i then[2]else[])++3::((if 0<I.bI i then[4]else[])++[5,6])).length<=5;split<;>split<;>exact aP rfl
 |2=>by show(3::((if 0<I.bI i then[4]else[])++[5,6])).length<=5;split<;>exact aP rfl
 |3=>by show((if 0<I.bI i then[4]else[])++[5,6]).length<=5;split<;>exact aP rfl
 |4=>aP rfl
 |5=>aP rfl
 |_+6=>cD _
def vK(i:Nat):∀k,(cW i k).length<=6*k
 |0=>bG _
 |k+1=>by unfold cW;rw[eV,gu,Nat.mul_succ];exact bk (Nat.add_le_add (Nat.succ_le_succ (Cs i 1)) (vK i k)) (Nat.le_of_eq (Nat.add_comm _ _))
def Jj(pos:Nat)(h:k<=m):(rem i pos k).length<=5+6*m:=by unfold rem;rw[eV];exact Nat.add_le_add (Cs i pos) (bk (vK i k) (Nat.mul_le_mul_left 6 h))
variable{n:Nat}{s:Bs}{D:Fs}{j:Jk}{Q X:QV}{ms ai:k06}
def W.iT(w:W s D)(hi:i<I.N):i<D.nT:=by have:=w.con.nT;show i<D.nT;rw[this];split<;>lia
def W.iS(w:W s D)(hi:i<I.N):i<D.nS:=by have:=w.con.nS;show i<D.nS;rw[this];exact hi
def W.ti(w:W s D)(hi:i<I.N):D.tk i=cV i (s.ph i):=(congrFun w.tk i).trans (lp hi)
def W.XW(w:W s D)(hi:i<I.N)(h:Nat.ble 5 (s.ph i).st=false):mO D i (s.ph i).pos (s.ph i).k (s.ph i).bb (s.ph i).cw (s.ph i).cg:=
 #[w.iS hi,congrFun w.st i,congrFun w.dl i,(congrFun w.mn i).trans (by show bw (bif Nat.ble 5 (s.ph i).st then[]else mB i (s.ph i).pos)=_;rw[h];rfl)]
def ra(a b c d:V)(e:Int)(f:V):(#[a,b,c,d,.int e,f]:SR)=#[a,b,c,d,.int (e+((0:Nat):Int)),f]:=aq (λx=>(#[a,b,c,d,.int x,f]:SR)) (Int.add_zero e).symm
def Rf(x:Nat):kP (x:Int) (bw [x])=true:=by show(decide ((x:Int)=x)||false)=true;rw[dX rfl];rfl
def Rg(x y:Nat):kP (y:Int) (bw [x,y])=true:=by show(decide ((x:Int)=y)||(decide ((y:Int)=y)||false))=true;rw[dX (rfl:(y:Int)=y),Bool.true_or,Bool.or_true]
def Ey(x:Nat):jf (x:Int) (bw [x])=bw []:=al rfl
def Pf{x y:Nat}(h:x≠y):jf (y:Int) (bw [x,y])=bw [x]:=(ak λe=>h (Int.ofNat.inj e)).trans (aq (V.int x::·) (Ey y))
def Bn{n s w:Int}(h:n=s+w):n-s=w:=by rw[h,Int.add_comm,Int.add_sub_cancel]
def zm{p a b:Prop}[Decidable p](h:p)(t:if p then a else b):a:=Eq.mp (al h) t
def RJ{k:Nat}{u O cg:Int}{st cn:Nat}(Fv:I.fa i≠I.fb i)(B:i<D.nT)(J:st=0):
 ∀pos,pos<=6->mO D i pos k u O cg->(D.tk i).answer=fp i #[pos,k,st,cn,u,O,cg]->iu i pos st u D.now->(∀{a:Nat->List V} {c:Nat->SR},At D.mn a i (bw (mA i pos))->At D.st c i #[.ref #[I.f,12,i],dv i pos,.ref #[I.f,13,i],.int u,.int (O+(e3 pos:Nat)),.int cg]->Q (.bool true) (hp I.f {D with mn:=a,st:=c} j))->
 wG (n+1) (.fn 73) [.ref #[I.f,2,i],.ref #[I.f,11,i],.int (D.now-u)] (hp I.f D j) Q X
 |0,_=>λS U U q=>RG S (q (.of S.mn) (.of (S.st.trans (ra _ _ _ _ _ _))))
 |1,_=>λS x U q=>FM (m:=I.fa i) (p:=.none) (e:=0) (xs:=[I.fa i]) S B rfl (by rw[x,J];rfl) trivial rfl (by show 1<10;decide) (by show(1:Int).fdiv 2=0;rfl) (q (.upd _ _ _) (by rw[S.st];exact .upd _ _ _))
 |2,_=>λS U d q=>by rw[show D.now-u=I.rest i from Bn (zm J d)];exact FL S B rfl (q (.of S.mn) (.of (S.st.trans (ra _ _ _ _ _ _))))
 |3,_=>λS x d q=>by
  refine FM (m:=I.fb i) (p:=I.aV i) (e:=1) (xs:=[I.fa i,I.fb i]) S B rfl (by rw[x,J];rfl) ?_ rfl (by show 2<10;decide) (by show(2:Int).fdiv 2=1;rfl) (q (.upd _ _ _) (by rw[S.st];exact .upd _ _ _));rw[J]at d;have d:match I.aV i with|.none=>0≠1|.bB=>0≠2/\D.now=u|.int w=>if 0=1 then D.now=u+w else D.now<u+w:=d
  cases y:I.aV i with
  |none=>trivial
  |bB=>rw[y]at d;show D.now-u<1;rw[d.2,Int.sub_self];decide
  |int w=>rw[y]at d;exact Int.sub_left_lt_of_lt_add d
 |4,_=>λS U d q=>by rw[show D.now-u=I.bI i from Bn (zm J d)];exact FL S B rfl (q (.of S.mn) (.of (S.st.trans (ra _ _ _ _ _ _))))
 |5,_=>λS U U q=>FK (m:=I.fb i) (xs:=[I.fa i]) S B rfl #[rfl,Rg _ _,Pf Fv] (by show 2<10;decide) (q (.upd _ _ _) (.of (S.st.trans (ra _ _ _ _ _ _))))
 |6,_=>λS U U q=>FK (m:=I.fa i) (xs:=[]) S B rfl #[rfl,Rf _,Ey _] (by show 1<10;decide) (q (.upd _ _ _) (.of (S.st.trans (ra _ _ _ _ _ _))))
 |n+7,h=>absurd h (Nat.not_le.mpr (fj 7 n))
def RH(aa:bn I)(w:W s D)(ah:Gd s)(hi:i<I.N)(hk:(s.ph i).k<=100)(H:Hd i (s.ph i) ms ai e' h')(q:∀aS,Hw D i (s.ph i) ms ai e' h' aS->Q (.bool true) (hp I.f aS j)):
 wG (n+1) (.fn 73) [.ref #[I.f,2,i],.ref #[I.f,11,i],.int (D.now-(s.ph i).bb)] (hp I.f D j) Q X:=by
 have ok:=(ah.loc i hi).ok;have tm:=(ah.loc i hi).tm;have d:(D.tk i).answer=fp i (s.ph i):=aq TR.answer (w.ti hi);have S:=w.XW hi;rw[←w.now]at tm;induction H with
 |a h=>have S:=S (by rw[h];rfl);exact RJ (aa.ab i hi) (w.iT hi) h _ (pW ok) S d tm λ{a c} y z=>q _ #[a,D.dl,c,rfl,y,.of S.dl,z]
 |b h=>
  have S:=S (by rw[h];rfl);rw[h]at ok tm;have hp:=si ok;rw[hp]at S tm;obtain G:=el (Jj (i:=i) 3 hk) (by decide:_<900);have tm:match I.aV i with|.none=>1≠1|.bB=>1≠2/\D.now=(s.ph i).bb|.int w=>if 1=1 then D.now=(s.ph i).bb+w else D.now<(s.ph i).bb+w:=tm
  have d:(D.tk i).answer=match I.aV i with|.bB=>.tup [.str 92]|_=>.tup [.str 66]:=by rw[d];unfold fp;rw[h];rfl
  refine RI S (w.iT hi) (aa.ab i hi) rfl ?_ G (q _ #[D.mn,_,_,rfl,.of S.mn,.upd _ _ _,by rw[S.st,hp];exact .upd _ _ _]);cases x:I.aV i with
  |none=>rw[x]at tm;exact(tm rfl).elim
  |bB=>rw[x]at tm d;exact#[by rw[tm.2];exact Int.sub_self _,d]
  |int w=>rw[x]at tm d;exact#[Bn (zm rfl tm),d]
def UT(i:Nat):∀a b,(mL i a b).length<=2
 |true,true=>bG _
 |true,false=>Nat.le_succ _
 |false,true=>Nat.le_succ _
 |false,false=>cD _
def RK(aa:bn I)(w:W s D)(ah:Gd s)(hi:i<I.N)(H:Hd i (s.ph i) ms ai e' h'):((List.range I.N).filter λk=>decide (s.hd k=some i))=ii ms/\ms.length<=2:=by
 have ok:=(ah.loc i hi).ok;obtain e:ms=mL i (hA (s.ph i).st (s.ph i).pos) (hB (s.ph i).st (s.ph i).pos):=by
  induction H with
  |a h=>rw[h];exact US i _ (pW ok)
  |b h=>rw[h]at ok⊢;rw[si ok];rfl
 obtain d:=PS I.N (Nat.lt_succ_of_le aa.n4) _ (aa.a i hi) _ (aa.b i hi) (aa.ab i hi) (hA (s.ph i).st (s.ph i).pos) (hB (s.ph i).st (s.ph i).pos);rw[e];refine#[(List.filter_congr λk hk=> ?_).trans d,UT _ _ _];refine Bool.eq_iff_iff.mpr (decide_eq_true_iff.trans ((w.hold k (ej.mp hk) i).trans ?_));unfold bO yZ;rw[Bool.or_eq_true,ja,ja,Nat.beq_eq,Nat.beq_eq];exact#[And.right,λz=>#[hi,z]]
def Fa(aa:bn I)(w:W s D)(ah:Gd s)(hi:i<I.N)(hk:(s.ph i).k<=100)(H:Hd i (s.ph i) ms ai e' h')
 (q:∀aS j' u B G l,Hw D i (s.ph i) ms ai e' h' aS->j.le j'->u<j'.n->B<j'.n->j'.g u=.live (.cell (some (.ref #[I.f,14,0])))->j'.g B=.live (.cell (some (.int i)))->G 193=some #[I.f+2,0,u]->G 197=some #[I.f+2,0,B]->
   l 72=some (.ref #[I.f,2,i])->l 207=some (.ref #[I.f,11,i])->l 33=some (.int D.now)->bc az (wG (n+8)) G t5 l (hp I.f aS j') (dP Q) (kX X)):
 wG (n+9) (.fn 74) [.ref #[I.f,14,0],.ref #[I.f,2,i],.ref #[I.f,11,i],.int i] (hp I.f D j) Q X:=by
 have hb:=RK aa w ah hi H;obtain⟨fs,d,_⟩:=w.con.tb;obtain J:D.tb.dU=.ref #[I.f,6,0]:=aq BR.dU d;obtain P:D.tb.aC=.ref #[I.f,15,0]:=aq BR.aC d;refine QP aa.n4 J w.K.iA (w.iS hi) (aq SR.bb (congrFun w.st i)) hb.2 hb.1 _ (λaS h=> ?_) (λj' O X' q=>RH aa w ah hi hk H q) q;obtain⟨a,b,c,rfl,y,h2,z⟩:=h.x;exact#[w.iS hi,P,w.aC,aq SR.pP z.e,y.e]
inductive Mv(now:Int)(x:Nat)(p:Ph):Ph->Prop
 |st (h:p.st=2\/p.st=3) (st:Nat):Mv now x p {p with st:=st}
 |go {p' k' st cn:Nat} {e' h':Int} (h:b0 x p p' k' e' h'):Mv now x p #[p',k',st,cn,now,e',h']
 |fin (h:p.st=0) (hk:p.k=0) (hp:p.pos=0\/p.pos=6):Mv now x p {p with st:=5}
def fe:Nat->Nat
 |0=>1
 |1=>1
 |2=>3
 |3=>2
 |_=>2
def wt(i:Nat)(p:Ph):Nat:=bif Nat.ble 5 p.st then 0 else fe p.st+3*(rem i p.pos p.k).length
def sw(z:Sk):Nat:=bif Nat.ble z.st 1 then 1 else 0
def sm(f:Nat->Nat):Nat->Nat
 |0=>0
 |n+1=>sm f n+f n
def mu(s:Bs):Nat:=sm (λi=>wt i (s.ph i)) I.N+sm (λk=>sw (s.sk k)) I.N
def JO{f:Nat->Nat}{i v:Nat}:∀n,n<=i->sm (uF f i v) n=sm f n
 |0,_=>rfl
 |n+1,h=>by show sm (uF f i v) n+uF f i v n=_;rw[JO n (Nat.le_of_succ_le h),aO _ _ _ _ (Nat.ne_of_lt h)];rfl
def sG{f:Nat->Nat}{i v:Nat}:∀n,i<n->sm (uF f i v) n+f i=sm f n+v
 |n+1,h=>by
  show sm (uF f i v) n+uF f i v n+f i=sm f n+f n+v;by_cases e:i=n
  .subst e;rw[JO i (bG _),aD,Nat.add_right_comm]
  .have:=sG n (Nat.lt_of_le_of_ne (Nat.le_of_lt_succ h) e) (f:=f) (v:=v);rw[aO _ _ _ _ λh=>e h.symm,Nat.add_right_comm,this,Nat.add_right_comm]
def JM{f:Nat->Nat}(hi:i<n)(h:v+d<=f i):sm (uF f i v) n+d<=sm f n:=by have:=sG n hi (f:=f) (v:=v);refine Nat.le_of_add_le_add_right (b:=f i) ?_;rw[Nat.add_right_comm,this,Nat.add_assoc];exact fL h _
structure fX(s:Bs)(D:Fs)(s':Bs)(aj:Fs):Prop where
 w:W s' aj
 g:Gd s'
 now:s'.now=s.now
 mv:∀x,x<I.N->s'.ph x=s.ph x\/Mv s.now x (s.ph x) (s'.ph x)
 mu:mu s'<mu s
 fr:aj.steps=D.steps/\aj.K.choose=D.K.choose/\aj.o=D.o/\aj.zs=D.zs
def iI{ph:Nat->Ph}(h:Mv now i (ph i) p)(x:Nat)(_:x<I.N):uF ph i p x=ph x\/Mv now x (ph x) (uF ph i p x):=bT (P:=λx (r:Ph)=>r=ph x\/Mv now x (ph x) r) (.inr h) (λU U=>.inl rfl) x
def lb{s':Bs}(hi:i<I.N)(e:s'.ph=uF s.ph i p)(u:s'.sk=s.sk)(h:wt i p+1<=wt i (s.ph i)):mu s'<mu s:=by unfold mu;rw[e,u,←gS (wt)];exact Nat.add_lt_add_right (Nat.lt_of_succ_le (JM (d:=1) hi h)) _
def b0.len(ae:cq i p now)(H:b0 i p p' k' e' h'):(rem i p' k').length+1<=(rem i p.pos p.k).length:=by
 have ok:=ae.ok;induction H with
 |a h d=>rw[d.rem];exact bG _
 |b h=>rw[h]at ok;rw[si ok];show(cW i p.k).length+1<=(((if 0<I.bI i then[4]else[])++[5,6])++cW i p.k).length;rw[eV,eV,Nat.add_comm];exact Nat.add_le_add_right (bk (by decide:1<=2) (fj _ _)) _
def b0.wt{st cn:Nat}(ae:cq i p now)(H:b0 i p p' k' e' h')(h:fe st<=3):wt i #[p',k',st,cn,now,e',h']+(4-fe st)<=wt i p:=by
 obtain x:=H.len ae;obtain e:Internal.wt i p=1+3*(rem i p.pos p.k).length:=by unfold Internal.wt;rcases H.st with h|h<;>rw[h]<;>rfl
 obtain d:Internal.wt i #[p',k',st,cn,now,e',h']<=fe st+3*(rem i p' k').length:=by
  show(bif Nat.ble 5 st then 0 else fe st+3*(rem i p' k').length)<=_;cases Nat.ble 5 st with
  |true=>exact cD _
  |false=>exact bG _
 rw[e];refine bk (Nat.add_le_add_right d _) (bk (Nat.le_of_eq ?_) (fL (Nat.mul_le_mul_left 3 x) 1));rw[Nat.add_right_comm,Nat.add_sub_of_le (Nat.le_succ_of_le h),Nat.mul_succ,Nat.add_comm 1,Nat.add_comm 4]
def qo(h:p.st=0\/p.st=1):cV i p=#[.int (i+1),.str 226,.ref #[I.f,5,0],.str 173,.ref #[I.f,7,i],.fz [],.none,.none,.ref #[I.f,10,i],fp i p,.int 0]:=by unfold cV wk lK;rcases h with h|h<;>rw[h]<;>rfl
def W.own(w:W s D)(hi:i<I.N){p2:Ph}(e:(s.ph i).st≠2/\(s.ph i).st≠3/\(s.ph i).st≠6)(J:p2.st≠2/\p2.st≠3)(hh:∀x,bO i p2 x↔bO i (s.ph i) x)(O:KP K' (D.nT+u) D.nL)(hc:fC (uF s.ph i p2) u B)(hn:jH D.nT u B):
 W {s with ph:=uF s.ph i p2} {D with K:=K',nC:=u,cl:=B,mn:=uF D.mn i (k9 i p2),dl:=uF D.dl i (nc i p2),st:=uF D.st i (on i p2),tk:=uF D.tk i (cV i p2)}where
 con:=w.con
 K:=O
 tk:=(aq (uF · i _) w.tk).trans (gV hi)
 sv:=w.sv
 st:=(aq (uF · i _) w.st).trans (gS (on) s.ph p2)
 dl:=(aq (uF · i _) w.dl).trans (gS (nc) s.ph p2)
 mn:=(aq (uF · i _) w.mn).trans (gS (k9) s.ph p2)
 aC:=w.aC
 now:=w.now
 ce:=hc
 num:=hn
 b9:=(jB (w.qp.cn e.1):bS s.ph s.q=_)▸w.b9
 hold:=w.hold.upd hh
 qp:=w.qp.upd e.1 J.1
 met:=w.met.upd e.2.1 J.2
 sk:=w.sk.upd hi e.2.2
def dF(D:Fs)(i p' k':Nat)(now e' h':Int):Fs:={D with mn:=uF D.mn i (bw (mB i p')),dl:=uF D.dl i ((rem i p' k').map (dv i)),st:=uF D.st i #[.ref #[I.f,12,i],dv i p',.ref #[I.f,13,i],.int now,.int e',.int h']}
def E8:t5=.cons (.ite (.cmp .eq (.item (.loc 207) (.str 182)) (.lst true .nil)) (.cons (.ex (.call (.ba 147) (.cons (.loc 72) .nil))) (.cons (.ret .tt) .nil)) .nil) (.cons (.ig (.loc 207) (.str 204) (.gj (.item (.loc 207) (.str 182)) 1 (.cons (.int 0) .nil))) (.cons (.ig (.loc 207) (.str 212) (.loc 33)) (.cons (.im [(false,196),(false,195),(false,35)] (.item (.loc 207) (.str 204))) qO))):=rfl
def xm(aa:bn I)(w:W s D)(ah:Gd s)(hi:i<I.N)(hk:(s.ph i).k<=100)(H:b0 i (s.ph i) p' k' e' h')(hd:dv i p'=.tup [.str wv,O,iY])
 (q:∀j' B J G l,j.le j'->B<j'.n->J<j'.n->j'.g B=.live (.cell (some (.ref #[I.f,14,0])))->j'.g J=.live (.cell (some (.int i)))->G 193=some #[I.f+2,0,B]->G 197=some #[I.f+2,0,J]->
   l 72=some (.ref #[I.f,2,i])->l 207=some (.ref #[I.f,11,i])->l 196=some (.str wv)->l 195=some O->l 35=some iY->bc az (wG (n+8)) G qO l (hp I.f (dF D i p' k' s.now e' h') j') (dP Q) (kX X)):
 wG (n+9) (.fn 74) [.ref #[I.f,14,0],.ref #[I.f,2,i],.ref #[I.f,11,i],.int i] (hp I.f D j) Q X:=by
 refine Fa aa w ah hi hk H.rq λaS j1 B J G l hw hj dG cx g1 g2 k1 k2 y z l3=> ?_;obtain⟨a,b,c,rfl,h1,d,h⟩:=hw.x;obtain rt:=w.iS hi;obtain RA:((rem i p' k').map (dv i)).length<1000:=by rw[be];exact el (Jj p' (bk H.le hk)) (by decide)
 obtain ug:b i=.tup [.str wv,O,iY]::(rem i p' k').map (dv i):=by rw[d.e,←hd];rfl
 obtain P:(c i).nb=.ref #[I.f,12,i]:=aq SR.nb h.e;rw[E8];generalize hA:qO=A;erw[rt,P,ug,y,z,l3,RA];rw[←hA];obtain q:=q j1 B J G (upd (upd (upd l 196 (.str wv)) 195 O) 35 iY) hj dG cx g1 g2 k1 k2 y z rfl rfl rfl;rw[d.u,h.u,h.e,h1.is,w.now,←hd];exact q
def Og(aa:bn I)(w:W s D)(ah:Gd s)(hi:i<I.N)(u:(s.ph i).st=0)(hk:(s.ph i).k=0)(hp:(s.ph i).pos=0\/(s.ph i).pos=6)
 (q:∀s' aj j',j.le j'->fX s D s' aj->Q (.bool true) (Internal.hp I.f aj j')):
 wG (n+9) (.fn 74) [.ref #[I.f,14,0],.ref #[I.f,2,i],.ref #[I.f,11,i],.int i] (Internal.hp I.f D j) Q X:=by
 obtain B:mA i (s.ph i).pos=[]:=by rcases hp with h|h<;>rw[h]<;>rfl
 have z:rem i (s.ph i).pos (s.ph i).k=[]:=by rw[hk];rcases hp with h|h<;>rw[h]<;>rfl
 obtain e3:(s.ph i).cw+(e3 (s.ph i).pos:Nat)=(s.ph i).cw:=by rcases hp with h|h<;>rw[h]<;>exact Int.add_zero _
 obtain H:Hd i (s.ph i) [] [] (s.ph i).cw (s.ph i).cg:=by have:=Hd.a (i:=i) u;rwa [B,z,e3]at this
 refine Fa aa w ah hi (by rw[hk];exact cD _) H λaS j1 m1 m2 G l hw hj dG cx g1 g2 k1 k2 l1 l2 l3=> ?_;obtain⟨a,b,c,rfl,h1,d,P⟩:=hw.x;obtain rt:=w.iS hi;obtain RY:=w.iT hi;obtain ug:b i=[]:=d.e;obtain J:(c i).nb=.ref #[I.f,12,i]:=aq SR.nb P.e;have y:=w.ti hi;obtain hq:bS s.ph s.q i=[]:=ak λe=>by have:=e.1;unfold t0 at this;have:=aa.n4;split at* <;>lia
 rw[E8];generalize qO=A;erw[rt,J,ug,l1,l2];refine Dk RY (w.b9.nil hq) (aq TR.bP y) (aq TR.cK y) ((congrFun w.sv i).trans (lp hi)) λj2 fP=> ?_;lk;refine aR (q {s with ph:=uF s.ph i {s.ph i with st:=5}} _ j2 (Jk.le_trans hj fP) #[?_,#[?_,ah.free],rfl,iI (.fin u hk hp),lb hi rfl rfl ?_,rfl,rfl,rfl,rfl])
 .rw[←z]at d;obtain O:fp i (s.ph i)=fp i {s.ph i with st:=5}:=by unfold fp;rw[u];rfl
  rw[h1.is,d.is,P.is,y,qo (.inl u),O];refine w.own hi (by rw[u];decide) #[(by decide:5≠2),(by decide:5≠3)] (jq (by rw[u];exact#[rfl,rfl])) w.K (w.ce.off #[(by decide:5≠2),(by decide:5≠3)]) w.num
 .exact ah.loc.upd ((ah.loc i hi).to (by rw[hk];rcases hp with h|h<;>rw[h]<;>rfl) (by rcases hp with h|h<;>rw[h]<;>trivial))
 .unfold wt;rw[u];exact dL _ _
def Nx.rest(e:Nx i a b c d)(h:c=2\/c=4):dv i c=.tup [.str 23,.none,.int (if c=2 then I.rest i else I.bI i)]/\0<(if c=2 then I.rest i else I.bI i):=by
 induction e with
 |r1 _ hp=>exact#[rfl,hp]
 |m3 _ hp=>exact#[rfl,hp]
 |_=>exact absurd h (by decide)
def b0.rest(H:b0 i p p' k' e' h')(h:p'=2\/p'=4):dv i p'=.tup [.str 23,.none,.int (if p'=2 then I.rest i else I.bI i)]/\0<(if p'=2 then I.rest i else I.bI i):=by
 induction H with
 |b _=>exact absurd h (by decide)
 |a _ d=>exact d.rest h
def Xt(aa:bn I)(w:W s D)(ah:Gd s)(hi:i<I.N)(hk:(s.ph i).k<=100)(H:b0 i (s.ph i) p' k' e' h')(hp:p'=2\/p'=4)
 (q:∀s' aj j',j.le j'->fX s D s' aj->Q (.bool true) (Internal.hp I.f aj j')):
 wG (n+9) (.fn 74) [.ref #[I.f,14,0],.ref #[I.f,2,i],.ref #[I.f,11,i],.int i] (Internal.hp I.f D j) Q X:=by
 have d:=H.rest hp;refine xm aa w ah hi hk H d.1 λj1 m1 m2 G l J dG cx z P k1 k2 l1 l2 l3 l4 l5=> ?_;obtain B:i<(dF D i p' k' s.now e' h').nT:=w.iT hi;obtain u:(dF D i p' k' s.now e' h').K.eX=.ref #[I.f,1,0]:=w.K.iA;obtain⟨fs,x,_⟩:=w.con.tb;obtain O:(dF D i p' k' s.now e' h').tb.dU=.ref #[I.f,6,0]:=aq BR.dU x;rw[wn];erw[l1,l2,l3,l4,l5,k1,k2,z,P,O];refine N8 B u d.2 ?_;lk;obtain tm:iu i p' 4 s.now s.now:=by have y:=Int.lt_add_of_pos_right s.now d.2;rcases hp with h|h<;>rw[h]at y⊢ <;>exact y
 refine aR (q {s with ph:=uF s.ph i #[p',k',4,0,s.now,e',h']} _ j1 J #[?_,#[?_,ah.free],rfl,iI (.go H),lb hi rfl rfl ?_,rfl,rfl,rfl,rfl])
 .obtain x:=(w.ti hi).trans (qo H.st);obtain e:(#[.int (i+1),.str 226,.ref #[I.f,5,0],.str 248,.ref #[I.f,7,i],.fz [],.int (s.now+if p'=2 then I.rest i else I.bI i),.none,.ref #[I.f,10,i],.none,.int 0]:TR)=cV i #[p',k',4,0,s.now,e',h']:=rfl;show W _ {dF D i p' k' s.now e' h' with tk:=uF D.tk i #[(D.tk i).number,(D.tk i).name,(D.tk i).jy,.str 248,(D.tk i).bP,(D.tk i).bu,.int (D.now+if p'=2 then I.rest i else I.bI i),(D.tk i).call,(D.tk i).cK,.none,(D.tk i).eu]};rw[x,w.now,e];exact w.own hi H.ne #[(by decide:4≠2),(by decide:4≠3)] (jq (H.jh (ah.loc i hi))) w.K (w.ce.off #[(by decide:4≠2),(by decide:4≠3)]) w.num
 .exact ah.loc.upd ((ah.loc i hi).new H (by rcases hp with h|h<;>rw[h]<;>rfl) tm)
 .exact bk (fL (by decide:1<=4-fe 4) _) (H.wt (ah.loc i hi) (by decide))
def SH(u:I.fa i≠I.fb i)(hp:pos=1\/pos=3)(h:yZ i (hA 2 pos) (hB 2 pos) (aF i pos)):False:=by
 rcases hp with e|e<;>rw[e]at h
 .exact h.elim (λz=>nomatch z.1) λz=>nomatch z.1
 .exact h.elim (λz=>u z.2.symm) λz=>nomatch z.1
def SJ(h:bO i p k):(Nat.beq i k||Nat.beq ((i+1) % I.N) k)=true:=Kx (h.imp And.right And.right)
def dg.one(H:dg ph q)(L:jG ph now)(ai:fE ph hd)(aa:bn I)(hk:k<I.N){y:Nat}(u:hd k=some y):y∉q k/\(q k=[]\/∃x,q k=[x]):=by
 have d:=(ai k hk y).mp u;have D:y∉q k:=λm=>by have m:=((H k hk).2 y).mp m;have ok:=(L y d.1).ok;have z:=d.2;rw[←m.2.2]at z;unfold bO at z;rw[m.2.1]at ok z;exact SH (aa.ab y d.1) (pV ok) z
 refine#[D,?_];match h:q k with
 |[]=>exact .inl rfl
 |[x]=>exact .inr #[x,rfl]
 |x::z::r=>exact(H.two aa hk h d.1 (SJ d.2) #[λe=>D (h▸e▸ .head _),λe=>D (h▸e▸ .tail _ (.head _))]).elim
def W.gen(w:W s D)
 (hK:KP K' (D.nT+B) D.nL)(hc:fC (uF s.ph i p2) B J)(hn:jH D.nT B J)(tk:sK=bF (uF s.ph i p2) e)(sv:Bo=kv e)(aC:yo=jF u)(b9:Qs I.f db ef eO (bS (uF s.ph i p2) O))(hold:fE (uF s.ph i p2) u)(qp:dg (uF s.ph i p2) O)(met:fG (uF s.ph i p2) e)(Ba:eE (uF s.ph i p2) u e):
 W #[uF s.ph i p2,u,O,e,s.now] {D with K:=K',nC:=B,cl:=J,tk:=sK,sv:=Bo,tq:=db,ql:=ef,nQ:=eO,aC:=yo,mn:=uF D.mn i (k9 i p2),dl:=uF D.dl i (nc i p2),st:=uF D.st i (on i p2)}where
 con:=w.con
 K:=hK
 tk:=tk
 sv:=sv
 st:=(aq (uF · i _) w.st).trans (gS (on) s.ph p2)
 dl:=(aq (uF · i _) w.dl).trans (gS (nc) s.ph p2)
 mn:=(aq (uF · i _) w.mn).trans (gS (k9) s.ph p2)
 aC:=aC
 now:=w.now
 ce:=hc
 num:=hn
 b9:=b9
 hold:=hold
 qp:=qp
 met:=met
 sk:=Ba
def eE.obj(H:eE ph hd sk)(e:I.srv=false)(ph':Nat->Ph)(u:k27):eE ph' u sk:=
 #[λh=>(nomatch(e.symm.trans h)),λk U h=>absurd ((H.b e k).symm.trans h) (by decide),λk U h=>absurd ((H.b e k).symm.trans h) (by decide),H.l,H.b]
def W.hk(w:W s D)(hk:k<I.N):D.aC[k]? =some (dO (s.hd k)):=by rw[w.aC];unfold jF;rw[eW,iw hk];rfl
def Ic(aa:bn I)(w:W s D)(hi:i<I.N)(e:I.srv=false)(hk:k<I.N):mJ I.f (dF D i p' k' s.now e' h') i k ((D.nT+D.nC:Nat):Int) (i+1):=by obtain⟨fs,h,_,d⟩:=w.con.tb;have g:=w.con.gr k;exact#[w.iT hi,(by have:=w.con.nG;rw[e]at this;exact this▸hk),bU hk (bk aa.n4 (by decide)),aq TR.eu (w.ti hi),aq GR.i0 g,aq GR.bP g,w.K.num,w.K.iA,aq BR.aC h,aq BR.dU h,aq TR.number (w.ti hi),fs,aq BR.iC h,by rw[d k hk];unfold kp;rw[e];rfl]
def Ib(aa:bn I)(w:W s D)(ah:Gd s)(hi:i<I.N)(hk:(s.ph i).k<=100)(hs:I.srv=false)(H:b0 i (s.ph i) p' k' e' h')(hw:wv≠23)(hd:dv i p'=.tup [.str wv,B,O])(e:Fs->Prop)
 (ha:∀(j':Jk) (u X':QV),(∀aj J,j'.le J->e aj->u .none (hp I.f aj J))->wG (n+8) (.fn 72) [.ref #[I.f,14,0],.ref #[I.f,2,i],.int i,.tup [.str wv,B,O]] (hp I.f (dF D i p' k' s.now e' h') j') u X')
 (q:∀aj j',j.le j'->e aj->Q (.bool true) (hp I.f aj j')):
 wG (n+9) (.fn 74) [.ref #[I.f,14,0],.ref #[I.f,2,i],.ref #[I.f,11,i],.int i] (hp I.f D j) Q X:=by
 refine xm aa w ah hi hk H hd λj1 m1 m2 G l P dG cx d h k1 k2 l1 l2 l3 l4 l5=> ?_;obtain⟨fs,ht,_⟩:=w.con.tb;obtain pE:(dF D i p' k' s.now e' h').tb.srv=.bool false:=by rw[←hs];exact aq BR.srv ht
 obtain z:i<(dF D i p' k' s.now e' h').nS:=w.iS hi;obtain y:((dF D i p' k' s.now e' h').st i).q6=.tup [.str wv,B,O]:=by show(uF D.st i _ i).q6=_;rw[aD,←hd]
 rw[wn];erw[l1,l2,l3,l4,l5,k1,k2,d,h,pE,hw,z,y];refine ha j1 _ _ λaj j2 fP x=> ?_;lk;exact aR (q aj j2 (Jk.le_trans P fP) x)
def uI:dK->Bool
 |.bB=>true
 |_=>false
def cd(i p':Nat):Bool:=bif Nat.beq p' 3 then uI (I.aV i)else false
def wv(i p':Nat):V:=bif Nat.beq p' 3 then(I.aV i).v else .none
variable{cn:Nat}
def ZU(now:Int):∀P:dK,(∀w,P=.int w->0<w)->WD now P.v (match P with|.int w=>.int (now+w)|_=>.none) (uI P)
 |.none,_=>.none
 |.bB,_=>.bB
 |.int w,h=>.int w (h w rfl)
def BE(aa:bn I)(hp:p'=1\/p'=3)(cn:Nat):dv i p'=.tup [.str 189,.int (aF i p'),wv i p']/\WD now (wv i p') (wk i #[p',k',2,cn,now,e',h']) (cd i p'):=by
 rcases hp with h|h<;>subst h
 .exact#[rfl,.none]
 .exact#[rfl,ZU now (I.aV i) (aa.aV i)]
def Zg(now:Int)(u:st≠1):∀P:dK,(∀w,P=.int w->0<w)->(st=2->uI P=false)->(match P with|.none=>st≠1|.bB=>st≠2/\now=now|.int w=>if st=1 then now=now+w else now<now+w)
 |.none,_,_=>u
 |.bB,_,h=>#[λe=>(nomatch(h e)),rfl]
 |.int w,h,_=>(ak u).mpr (Int.lt_add_of_pos_right now (h w rfl))
def vH(aa:bn I)(hp:p'=1\/p'=3)(u:st≠1)(h:st=2->cd i p'=false):iu i p' st now now:=by
 rcases hp with e|e<;>subst e
 .trivial
 .exact Zg now u (I.aV i) (aa.aV i) h
def tD(h:cd i p'=true):p'=3/\I.aV i=.bB:=by
 unfold cd at h;cases e:Nat.beq p' 3 with
 |false=>rw[e]at h;exact nomatch h
 |true=>
  rw[e]at h;refine#[gw e,?_];have h:uI (I.aV i)=true:=h;cases hp:I.aV i with
  |bB=>rfl
  |none=>rw[hp]at h;exact nomatch h
  |int w=>rw[hp]at h;exact nomatch h
def Kk(h:cd i p'=true):iu i p' 1 now now:=by
 have e:=tD h;rw[e.1];show match I.aV i with|.none=>1≠1|.bB=>1≠2/\now=now|.int w=>if 1=1 then now=now+w else now<now+w
 rw[e.2];exact#[by decide,rfl]
def Kj(hp:p'=1\/p'=3):(#[.int (i+1),.str 226,.ref #[I.f,5,0],.str 173,.ref #[I.f,7,i],.fz [],.none,.none,.ref #[I.f,10,i],.tup [.str 78],.int 0]:TR)=cV i #[p',k',0,cn,now,e',h']:=by rcases hp with e|e<;>subst e<;>rfl
def Ki(h:cd i p'=true):(#[.int (i+1),.str 226,.ref #[I.f,5,0],.str 173,.ref #[I.f,7,i],.fz [],.none,.none,.ref #[I.f,10,i],.tup [.str 92],.int 0]:TR)=cV i #[p',k',1,cn,now,e',h']:=by unfold cV fp;rw[(tD h).2];rfl
def KP.up{K:KR}(h:KP K n e):KP {K with cJ:=.int ((n:Int)+1)} (n+1) e:=#[h.iA,h.aY,h.l9,rfl,h.set,h.dR]
def gq.some(F:gq hd q sk):gq (uF hd k (some i)) q sk:=bT (P:=λy (v:Option Nat)=>y<I.N->v=none->(sk y).st=2->q y=[]) (λU e=>(nomatch e)) λy U=>F y
def gq.qu(F:gq hd q sk)(h:hd k=none->(sk k).st≠2):gq hd (uF q k l) sk:=bT (P:=λy (v:k06)=>y<I.N->hd y=none->(sk y).st=2->v=[]) (λU a b=>(h a b).elim) λy U=>F y
def Ja(w:W s D)(hk:k<I.N)(e:(s.ph i).st≠2){p2:Ph}(h:p2.cn=nC):uF (bS s.ph s.q) (th k) (bS s.ph s.q (th k)++[nC])=bS (uF s.ph i p2) (uF s.q k (s.q k++[i])):=by refine vu hk ?_ λy d U=>w.qp.cn e y d;rw[List.map_append,kb hk];refine congr (aq HAppend.hAppend (jb (w.qp.cn e k hk))) ?_;show[(uF s.ph i p2 i).cn]=_;rw[aD,h]
def mq(e:I.srv=false):50+k=th k:=by unfold th t0;rw[e];rfl
def mr(e:I.srv=true):I.N+k=th k:=by unfold th t0;rw[e];rfl
def uT(e:I.srv=false):kp k=#[I.f,3,k]:=by unfold kp;rw[e];rfl
def nX(e:I.srv=true):kp k=#[I.f,2,I.N+k]:=by unfold kp;rw[e];rfl
def m4(hp:p'=1\/p'=3):jd i p'=(.ref #[I.f,2,i],.ref (kp (aF i p')),.gk 189,.fz [.int i]):=by rcases hp with e|e<;>subst e<;>rfl
def rv(w:W s D)(aa:bn I)(hk:k<I.N):(bS s.ph s.q (th k)).length<=2:=by rw[kb hk,be];exact w.qp.len aa hk
def Y6(aa:bn I)(w:W s D)(ah:Gd s)(hi:i<I.N)(ni:(s.ph i).k<=100)(u:I.srv=false)(H:b0 i (s.ph i) p' k' e' h')(hp:p'=1\/p'=3)
 (q:∀s' aj j',j.le j'->fX s D s' aj->Q (.bool true) (Internal.hp I.f aj j')):
 wG (n+9) (.fn 74) [.ref #[I.f,14,0],.ref #[I.f,2,i],.ref #[I.f,11,i],.int i] (Internal.hp I.f D j) Q X:=by
 obtain⟨hd,hw⟩:=BE (i:=i) (k':=k') (e':=e') (h':=h') (now:=s.now) aa hp D.nC;have hk:=lu aa hi p';have ho:=Ic (p':=p') (k':=k') (e':=e') (h':=h') aa w hi u hk;have B:=w.hk hk;have O:=(w.ti hi).trans (qo H.st);have bl:=rv w aa hk;have ae:=ah.loc i hi;have J:=w.b9;have yu:=w.qp.cn (p:=#[p',k',0,D.nC,s.now,e',h']) H.ne.1;have d:∀st,st<2->st≠2/\st≠3:=λst h=>#[Nat.ne_of_lt h,Nat.ne_of_lt (bU h (by decide))];rw[←w.now]at hw;refine Ib aa w ah hi ni u H (by decide) hd (λaj=>∃s',fX s D s' aj) (λj' Q' X' q'=> ?_) λaj j' hj #[s',h]=>q s' aj j' hj h;cases P:s.hd (aF i p')with
 |none=>
  rw[P]at B;refine MC (qs:=bS s.ph s.q) ho B J (by rw[mq u];exact el bl (by decide)) hw λG z=> ?_;refine q' _ G z #[#[uF s.ph i #[p',k',0,D.nC,s.now,e',h'],uF s.hd (aF i p') (some i),s.q,s.sk,s.now],?_,#[ah.loc.upd ?_,ah.free.some (k:=aF i p') (i:=i)],rfl,iI (.go (st:=0) (cn:=D.nC) H),lb hi rfl rfl (bk (fL (by decide:1<=4-fe 0) _) (H.wt ae (by decide))),rfl,rfl,rfl,rfl]
  rotate_left
  .exact cq.new (st:=0) (cn:=D.nC) ae H (by rcases hp with h|h<;>rw[h]<;>rfl) (vH aa hp (by decide) (λe=>(nomatch e)))
  refine w.gen w.K.up (w.ce.new λe=>(e.elim (d 0 (by decide)).1 (d 0 (by decide)).2).elim) (w.num.new rfl) ?_ w.sv ?_ ?_ (w.hold.take hi P (y3 (H.jh ae) rfl hp)) (w.qp.upd H.ne.1 (d 0 (by decide)).1) (w.met.upd H.ne.2.1 (d 0 (by decide)).2) (w.sk.obj u _ _)
  .refine(aq (uF · i _) w.tk).trans (dM (aq (uF (bF s.ph s.sk) i) ?_) (gV hi));show TR.mk (D.tk i).number (D.tk i).name (D.tk i).jy (.str 173) (D.tk i).bP (.fz []) .none .none (D.tk i).cK (.tup [.str 78]) (D.tk i).eu=_;rw[O];exact Kj hp
  .exact(aq (List.set · (aF i p') (.int i)) w.aC).trans (s8 (some i))
  .exact(jB yu:bS s.ph s.q=_)▸J
 |some x=>
  rw[P]at B;refine MB (qs:=bS s.ph s.q) ho B J (by rw[mq u];exact el bl (by decide)) hw (λy G z=> ?_) λy G db ef eO z cG=> ?_
  .refine q' _ G z #[#[uF s.ph i #[p',k',1,D.nC,s.now,e',h'],s.hd,s.q,s.sk,s.now],?_,#[ah.loc.upd ?_,ah.free],rfl,iI (.go (st:=1) (cn:=D.nC) H),lb hi rfl rfl (bk (fL (by decide:1<=4-fe 1) _) (H.wt ae (by decide))),rfl,rfl,rfl,rfl]
   rotate_left
   .exact cq.new (st:=1) (cn:=D.nC) ae H (by rw[(tD y).1];rfl) (Kk y)
   refine w.gen w.K.up (w.ce.new λe=>(e.elim (d 1 (by decide)).1 (d 1 (by decide)).2).elim) (w.num.new rfl) ?_ w.sv w.aC ?_ (w.hold.upd (jq (H.jh ae))) (w.qp.upd H.ne.1 (d 1 (by decide)).1) (w.met.upd H.ne.2.1 (d 1 (by decide)).2) (w.sk.obj u _ _)
   .refine(aq (uF · i _) w.tk).trans (dM (aq (uF (bF s.ph s.sk) i) ?_) (gV hi));show TR.mk (D.tk i).number (D.tk i).name (D.tk i).jy (D.tk i).state (D.tk i).bP (D.tk i).bu (D.tk i).wake .none (D.tk i).cK (.tup [.str 92]) (D.tk i).eu=_;rw[O];exact Ki y
   .exact(jB (w.qp.cn (p:=#[p',k',1,D.nC,s.now,e',h']) H.ne.1):bS s.ph s.q=_)▸J
  .refine q' _ G z #[#[uF s.ph i #[p',k',2,D.nC,s.now,e',h'],s.hd,uF s.q (aF i p') (s.q (aF i p')++[i]),s.sk,s.now],?_,#[ah.loc.upd ?_,ah.free.qu (k:=aF i p') (l:=s.q (aF i p')++[i]) (λe=>(nomatch(P.symm.trans e)))],rfl,iI (.go (st:=2) (cn:=D.nC) H),lb hi rfl rfl (bk (fL (by decide:1<=4-fe 2) _) (H.wt ae (by decide))),rfl,rfl,rfl,rfl]
   rotate_left
   .exact cq.new (st:=2) (cn:=D.nC) ae H (by rcases hp with h|h<;>rw[h]<;>rfl) (vH aa hp (by decide) (λU=>y))
   refine w.gen w.K.up (w.ce.new λU=>#[rfl,by rw[m4 hp,uT u];rfl]) (w.num.new rfl) ?_ w.sv w.aC ?_ (w.hold.upd (jq (H.jh ae))) (w.qp.join hi hk H.ne.1 rfl rfl) (w.met.upd H.ne.2.1 (by decide:2≠3)) (w.sk.obj u _ _)
   .refine(aq (uF · i _) w.tk).trans (dM (aq (uF (bF s.ph s.sk) i) ?_) (gV hi));show TR.mk (D.tk i).number (D.tk i).name (D.tk i).jy (.str 245) (D.tk i).bP (D.tk i).bu (wk i #[p',k',2,D.nC,D.now,e',h']) (.ref #[I.f,0,D.nC]) (D.tk i).cK .none (D.tk i).eu=_;rw[O,w.now];rfl
   .have:=Ja w hk H.ne.1 (p2:=#[p',k',2,D.nC,s.now,e',h']) rfl;rw[mq u]at cG;exact this▸cG
def ou{af:Type}{F:Nat->af}{t:af}(h:F i=t):uF F i t=F:=h▸lw F i
def Ku{af:Type}{F:Nat->af}{a b:af}(h:i≠k):uF (uF F i a) k b=uF (uF F k b) i a:=funext λx=>by
 by_cases e:x=k
 .rw[e,aD,aO _ _ _ _ (Ne.symm h),aD]
 .rw[aO _ _ _ _ e];by_cases d:x=i
  .rw[d,aD,aD]
  .rw[aO _ _ _ _ d,aO _ _ _ _ d,aO _ _ _ _ e]
def W.sI(w:W s D)(hb:Nat.ble 5 b=Nat.ble 5 (s.ph i).st)
 (hK:KP K' (D.nT+J) D.nL)(hc:fC (uF s.ph i ((s.ph i).to b)) J O)(hn:jH D.nT J O)(tk:sK=bF (uF s.ph i ((s.ph i).to b)) u)(sv:Bo=kv u)(aC:yo=jF B)(b9:Qs I.f db ef eO (bS (uF s.ph i ((s.ph i).to b)) q'))(e:fE (uF s.ph i ((s.ph i).to b)) B)(qp:dg (uF s.ph i ((s.ph i).to b)) q')(met:fG (uF s.ph i ((s.ph i).to b)) u)(Ba:eE (uF s.ph i ((s.ph i).to b)) B u):
 W #[uF s.ph i ((s.ph i).to b),B,q',u,s.now] {D with K:=K',nC:=J,cl:=O,tk:=sK,sv:=Bo,tq:=db,ql:=ef,nQ:=eO,aC:=yo}:=by
 have z:=w.gen hK hc hn tk sv aC b9 e qp met Ba;obtain x:k9 i ((s.ph i).to b)=k9 i (s.ph i):=aq (λz=>bw (bif z then[]else mB i (s.ph i).pos)) hb;obtain d:uF D.dl i (nc i ((s.ph i).to b))=D.dl:=ou (congrFun w.dl i);obtain h:uF D.st i (on i ((s.ph i).to b))=D.st:=ou (congrFun w.st i);rw[ou ((congrFun w.mn i).trans x.symm),d,h]at z;exact z
def m8(ph:Nat->Ph)(x b y:Nat):(uF ph x ((ph x).to b) y).cn=(ph y).cn:=bT (P:=λy (r:Ph)=>r.cn=(ph y).cn) (i:=x) (t:=(ph x).to b) rfl (λU U=>rfl) y
def gq.no(F:gq hd q sk)(h:(sk k).st=2->q k=[]):gq (uF hd k none) q sk:=bT (P:=λy (v:Option Nat)=>y<I.N->v=none->(sk y).st=2->q y=[]) (λU U=>h) λy U=>F y
def sS(h:Nat.ble 5 p.st=false)(hb:Nat.ble 5 b=false):wt i (p.to b)+fe p.st=wt i p+fe b:=by
 obtain e:wt i (p.to b)=fe b+3*(rem i p.pos p.k).length:=by show(bif Nat.ble 5 b then 0 else _)=_;rw[hb];rfl
 obtain d:wt i p=fe p.st+3*(rem i p.pos p.k).length:=by unfold wt;rw[h];rfl
 rw[e,d,Nat.add_comm,←Nat.add_assoc,Nat.add_right_comm]
def Ei(hp:p'=5\/p'=6):dv i p'=.tup [.str 186,.int (aF i p'),.none]:=by rcases hp with e|e<;>subst e<;>rfl
def Zf(u:I.srv=false)(hp:p'=5\/p'=6):(#[.int (i+1),.str 226,.ref #[I.f,5,0],.str 173,.ref #[I.f,7,i],.fz [],.none,.none,.ref #[I.f,10,i],.none,.int 0]:TR)=cV i #[p',k',0,cn,now,e',h']:=by unfold cV fp;rw[u];rcases hp with e|e<;>subst e<;>rfl
def HA(H:b0 i p p' k' e' h')(ae:cq i p now)(hp:p'=5\/p'=6):bO i p (aF i p'):=by
 have h:=H.jh ae;unfold bO;rw[←h.1,←h.2];rcases hp with e|e<;>subst e
 .exact .inr #[rfl,rfl]
 .exact .inl #[rfl,rfl]
def W.laid(aa:bn I)(w:W s D)(ah:Gd s)(hi:i<I.N)(e:I.srv=false)(H:b0 i (s.ph i) p' k' e' h')(hp:p'=5\/p'=6)(u:s.hd (aF i p')=some i):
 W #[uF s.ph i #[p',k',0,0,s.now,e',h'],uF s.hd (aF i p') none,s.q,s.sk,s.now] {dF D i p' k' s.now e' h' with tk:=uF D.tk i {D.tk i with answer:=.none},aC:=D.aC.set (aF i p') .none}:=by
 obtain ae:=ah.loc i hi;obtain h:=(w.ti hi).trans (qo H.st);refine w.gen w.K (w.ce.off #[(by decide:0≠2),(by decide:0≠3)]) w.num ?_ w.sv ?_ ?_ (w.hold.lay u (Ge (aa.ab i hi) (H.jh ae) rfl hp)) (w.qp.upd H.ne.1 (by decide:0≠2)) (w.met.upd H.ne.2.1 (by decide:0≠3)) (w.sk.obj e _ _)
 .refine(aq (uF · i _) w.tk).trans (dM (aq (uF (bF s.ph s.sk) i) ?_) (gV hi));rw[h];exact Zf e hp
 .exact(aq (List.set · (aF i p') .none) w.aC).trans (s8 none)
 .exact(jB (w.qp.cn (p:=#[p',k',0,0,s.now,e',h']) H.ne.1):bS s.ph s.q=_)▸w.b9
def W.QQ(aa:bn I)(w:W s D){r:k06}(hL:cq x (s.ph x) now)(hs:I.srv=false)(hk:k<I.N)(u:s.q k=x::r)(B:s.hd k=none){rc:CR}(O:dD rc=dD (D.cl (s.ph x).cn)/\rc.number=(D.cl (s.ph x).cn).number)
 (J:Qs I.f db ef eO (uF (bS s.ph s.q) (th k) (r.map λy=>(s.ph y).cn))):
 W #[uF s.ph x ((s.ph x).to 0),uF s.hd k (some x),uF s.q k r,s.sk,s.now] {D with tq:=db,ql:=ef,nQ:=eO,cl:=uF D.cl (s.ph x).cn rc,tk:=uF D.tk x {D.tk x with state:=.str 173,bu:=.fz [],wake:=.none,answer:=.tup [.str 78],call:=.none},aC:=D.aC.set k (.int x)}:=by
 have m:=((w.qp k hk).2 x).mp (u▸ .head _);have e:=m.2.1;have ok:=hL.ok;rw[e]at ok;have hp:=pV ok;have d:=io.upd (cl:=D.cl) (s.ph x).cn O;obtain hb:Nat.ble 5 0=Nat.ble 5 (s.ph x).st:=by rw[e];rfl
 refine w.sI hb w.K ((w.ce.sc d).off #[(by decide:0≠2),(by decide:0≠3)]) (w.num.sc d) ?_ w.sv ?_ ?_ (w.hold.take m.1 B ?_) (w.qp.head hk u (by decide:0≠2)) (w.met.upd (by rw[e];decide) (by decide:0≠3)) (w.sk.obj hs _ _)
 .refine(aq (uF · x _) w.tk).trans (dM (aq (uF (bF s.ph s.sk) x) ?_) (gV m.1));rw[w.ti m.1];have:=Kj (i:=x) (k':=(s.ph x).k) (cn:=(s.ph x).cn) (now:=(s.ph x).bb) (e':=(s.ph x).cw) (h':=(s.ph x).cg) hp;exact this
 .exact(aq (List.set · k (.int x)) w.aC).trans (s8 (some x))
 .have:=vu (ph':=uF s.ph x ((s.ph x).to 0)) (ph:=s.ph) (q:=s.q) hk (r:=r) (l:=r.map λy=>(s.ph y).cn) (jb λy U=>m8 s.ph x 0 y) λy U U z U=>m8 s.ph x 0 z;exact this▸J
 .have:=y3 (i:=x) (p:=s.ph x) (q:=(s.ph x).to 0) (by rw[e];exact#[rfl,rfl]) rfl hp;rw[←m.2.2];exact this
def Zh(B:a≠1)(hb:b≠1)(u:b≠2):∀P:dK,(match P with|.none=>a≠1|.bB=>a≠2/\now=e|.int w=>if a=1 then now=e+w else now<e+w)->(match P with|.none=>b≠1|.bB=>b≠2/\now=e|.int w=>if b=1 then now=e+w else now<e+w)
 |.none,_=>hb
 |.bB,h=>#[u,h.2]
 |.int _,h=>(ak hb).mpr ((ak B).mp h)
def cq.met(ae:cq i p now)(hp:p.pos=1\/p.pos=3)(u:p.st≠1)(hb:b=0\/b=3):cq i (p.to b) now:=by
 refine ae.to (by rcases hp with e|e<;>rw[e]<;>rcases hb with e|e<;>rw[e]<;>rfl) ?_;have tm:=ae.tm;rcases hp with e|e<;>rw[e]at tm⊢
 .trivial
 .exact Zh u (by rcases hb with e|e<;>rw[e]<;>decide) (by rcases hb with e|e<;>rw[e]<;>decide) (I.aV i) tm
structure LY(s:Bs)(D:Fs)(k x:Nat):Prop where
 hi:x<I.N
 e2:(s.ph x).st=2
 hp:(s.ph x).pos=1\/(s.ph x).pos=3
 hc:(s.ph x).cn<D.nC
 cl:dD (D.cl (s.ph x).cn)=(.ref #[I.f,2,x],.ref (kp k),.gk 189,.fz [.int x])
 ca:(D.cl (s.ph x).cn).caller=.ref #[I.f,2,x]
 ke:(D.cl (s.ph x).cn).key=.gk 189
 va:(D.cl (s.ph x).cn).values=.fz [.int x]
def qt(w:W s D)(L:jG s.ph s.now)(hk:k<I.N)(hx:x∈s.q k):LY s D k x:=by have m:=((w.qp k hk).2 x).mp hx;have ok:=(L x m.1).ok;rw[m.2.1]at ok;have hp:=pV ok;have c:=w.ce x m.1 (.inl m.2.1);have e:=c.2.trans (show jd x (s.ph x).pos=(.ref #[I.f,2,x],.ref (kp k),.gk 189,.fz [.int x])by rw[m4 hp,m.2.2]);exact#[m.1,m.2.1,hp,c.1,e,aq (λz=>z.1) e,aq (λz=>z.2.2.1) e,aq (λz=>z.2.2.2) e]
def HT(J:x≠i)(u:Mv now i (ph i) p)(B:Mv now x (ph x) r)(y:Nat)(_:y<I.N):uF (uF ph i p) x r y=ph y\/Mv now y (ph y) (uF (uF ph i p) x r y):=by
 by_cases e:y=x
 .rw[e,aD];exact .inr B
 .rw[aO _ _ _ _ e];by_cases d:y=i
  .rw[d,aD];exact .inr u
  .rw[aO _ _ _ _ d];exact .inl rfl
def UA(aa:bn I)(w:W s D)(ah:Gd s)(hi:i<I.N)(ni:(s.ph i).k<=100)(u:I.srv=false)(H:b0 i (s.ph i) p' k' e' h')(hp:p'=5\/p'=6)
 (q:∀s' aj j',j.le j'->fX s D s' aj->Q (.bool true) (Internal.hp I.f aj j')):
 wG (n+9) (.fn 74) [.ref #[I.f,14,0],.ref #[I.f,2,i],.ref #[I.f,11,i],.int i] (Internal.hp I.f D j) Q X:=by
 obtain hd:=Ei (i:=i) hp;have hk:=lu aa hi p';have ho:=Ic (p':=p') (k':=k') (e':=e') (h':=h') aa w hi u hk;have ae:=ah.loc i hi;have G:=(w.hold _ hk i).mpr #[hi,HA H ae hp];have J:=w.hk hk;rw[G]at J;have ok:=w.qp.one ah.loc w.hold aa hk G;have P:=cq.new (st:=0) (cn:=0) ae H (by rcases hp with h|h<;>rw[h]<;>rfl) (by rcases hp with h|h<;>rw[h]<;>trivial);have w1:=W.laid aa w ah hi u H hp G;have m1:=lb (s:=s) (s':=#[uF s.ph i #[p',k',0,0,s.now,e',h'],uF s.hd (aF i p') none,s.q,s.sk,s.now]) hi rfl rfl (bk (fL (by decide:1<=4-fe 0) _) (H.wt ae (by decide)));have z:=kb (ph:=s.ph) (q:=s.q) hk;refine Ib aa w ah hi ni u H (by decide) hd (λaj=>∃s',fX s D s' aj) (λj' Q' X' q'=> ?_) λaj j' hj #[s',h]=>q s' aj j' hj h;rcases ok.2 with hz|⟨x,hz⟩
 .rw[hz]at z;refine Mz (qs:=bS s.ph s.q) ho J w.b9 (by rw[mq u];exact z) λO B=> ?_;exact q' _ O B #[_,w1,#[ah.loc.upd P,ah.free.no λU=>hz],rfl,iI (.go H),m1,rfl,rfl,rfl,rfl]
 .rw[hz]at z;have hm:x∈s.q (aF i p'):=hz▸ .head _;have y:=qt w ah.loc hk hm;have d:x≠i:=λe=>ok.1 (e▸hm);have ex:uF s.ph i #[p',k',0,0,s.now,e',h'] x=s.ph x:=aO _ _ _ _ d;refine MA (qs:=bS s.ph s.q) (c:=(s.ph x).cn) (i2:=x) (who2:=x) (num':=λc=>((D.nT+c+1:Nat):Int)) ho J w.b9 (by rw[mq u];exact z) y.ke y.hc w.num (w.iT y.hi) d y.ca y.va λO db ef eO B cG=> ?_;rw[mq u,jB (w.qp.cn (p:=#[p',k',0,0,s.now,e',h']) H.ne.1)]at cG;have w2:=W.QQ (now:=s.now) aa w1 (by show cq x (uF s.ph i _ x) _;rw[ex];exact ah.loc x y.hi) u hk hz (aD _ _ _) (rc:=#[(D.cl (s.ph x).cn).number,(D.cl (s.ph x).cn).caller,(D.cl (s.ph x).cn).target,(D.cl (s.ph x).cn).key,(D.cl (s.ph x).cn).values,.str 244,(D.cl (s.ph x).cn).kG,(D.cl (s.ph x).cn).cond,.tup [.tup [.str 78],.none]]) (by show _=dD (D.cl (uF s.ph i _ x).cn)/\_=(D.cl (uF s.ph i _ x).cn).number;rw[ex];exact#[rfl,rfl]) cG;dsimp only at w2;rw[ex,aO _ _ _ _ d,List.set_set,Ku (F:=D.tk) d.symm]at w2;refine q' _ O B #[#[uF (uF s.ph i #[p',k',0,0,s.now,e',h']) x ((s.ph x).to 0),uF (uF s.hd (aF i p') none) (aF i p') (some x),uF s.q (aF i p') [],s.sk,s.now],w2,#[?_,?_],rfl,HT d (.go H) (.st (.inl y.e2) 0),Nat.lt_trans (lb (s:=#[uF s.ph i #[p',k',0,0,s.now,e',h'],uF s.hd (aF i p') none,s.q,s.sk,s.now]) y.hi rfl rfl ?_) m1,rfl,rfl,rfl,rfl]
  .exact(ah.loc.upd P).upd ((ah.loc x y.hi).met y.hp (by rw[y.e2];decide) (.inl rfl))
  .show gq (uF (uF s.hd _ none) _ (some x)) (uF s.q _ []) s.sk;rw[fh];exact(ah.free.some).qu λe=>(nomatch((aD _ _ _).symm.trans e))
  .show wt x ((s.ph x).to 0)+1<=wt x (uF s.ph i _ x);rw[ex];have:=sS (i:=x) (p:=s.ph x) (b:=0) (by rw[y.e2];rfl) rfl;rw[y.e2]at this;exact Nat.le_of_add_le_add_right (b:=1) (bk (Nat.le_succ _) (Nat.le_of_eq this))
def Nx.six(h:Nx i a b c d):(c=2\/c=4)\/(c=1\/c=3)\/(c=5\/c=6):=by induction h<;>decide
def b0.six(H:b0 i p p' k' e' h'):(p'=2\/p'=4)\/(p'=1\/p'=3)\/(p'=5\/p'=6):=by
 induction H with
 |a _ h=>exact h.six
 |b _=>decide
def W.ts(w:W s D)(k:Nat):D.tk (I.N+k)=fV k (s.sk k):=(congrFun w.tk (I.N+k)).trans lq
def W.sT(w:W s D)(u:I.srv=true)(hk:k<I.N):I.N+k<D.nT:=by have:=w.con.nT;rw[u]at this;have e:D.nT=I.N+I.N:=this;rw[e];exact Nat.add_lt_add_left hk _
def eE.up(H:eE ph hd sk)(u:I.srv=true)(ho:z.o=ew (hd k))(hz:z.st=1\/z.st=2):eE ph hd (uF sk k z)where
 o h:=bT (P:=λy (r:Sk)=>y<I.N->r.o=ew (hd y)) (λU=>ho) λy U=>H.o h y
 z:=bT (P:=λy (r:Sk)=>y<I.N->r.st=0->hd y=none) (λU e=>by rw[e]at hz;exact absurd hz (by decide)) λy U=>H.z y
 e:=bT (P:=λy (r:Sk)=>y<I.N->r.st=3->∀i,i<I.N->(ph i).st=6) (λU e=>by rw[e]at hz;exact absurd hz (by decide)) λy U=>H.e y
 l:=bT (P:=λy (r:Sk)=>r.st<=3) (by rcases hz with e|e<;>rw[e]<;>decide) λy U=>H.l y
 b h:=(nomatch(u.symm.trans h))
def gq.sv(F:gq hd q sk)(h:z.st=2->hd k=none->q k=[]):gq hd q (uF sk k z):=bT (P:=λy (r:Sk)=>y<I.N->hd y=none->r.st=2->q y=[]) (λU a b=>h b a) λy U=>F y
def Vd{s':Bs}(hi:i<I.N)(hk:k<I.N)(e:s'.ph=uF s.ph i p)(u:s'.sk=uF s.sk k z)(h:wt i p+2<=wt i (s.ph i)):mu s'<mu s:=by
 unfold mu;rw[e,u,←gS (wt),←gS λU=>sw];have a:=JM (d:=2) (f:=λi=>wt i (s.ph i)) hi h;have b:=sG (f:=λk=>sw (s.sk k)) (v:=sw z) I.N hk;have c:sw z<=1:=by unfold sw;cases Nat.ble z.st 1<;>decide
 have x:=bk (dL _ (sw (s.sk k))) (bk (Nat.le_of_eq b) (fL c _));exact Nat.le_of_succ_le_succ (bk (Nat.le_of_eq (Nat.add_right_comm _ _ 2)) (Nat.add_le_add a x))
def JW(aa:bn I)(w:W s D)(ah:Gd s)(hi:i<I.N)(ni:(s.ph i).k<=100)(hs:I.srv=true)(H:b0 i (s.ph i) p' k' e' h'){wv:Nat}{iY:V}(hw:wv=189\/wv=186)(hk:k<I.N)(hd:dv i p'=.tup [.str wv,.int k,iY])(u:Fs->Prop)
 (ha:∀(j':Jk) (B X':QV),(∀aj nU,j'.le nU->u aj->B .none (hp I.f aj nU))->wG (n+8) (.fn 22) [.ref #[I.f,6,0],.ref #[I.f,2,i],.ref #[I.f,2,I.N+k],.gk wv,.fz [.int i],iY] (hp I.f (dF D i p' k' s.now e' h') j') B X')
 (q:∀aj j',j.le j'->u aj->Q (.bool true) (hp I.f aj j')):
 wG (n+9) (.fn 74) [.ref #[I.f,14,0],.ref #[I.f,2,i],.ref #[I.f,11,i],.int i] (hp I.f D j) Q X:=by
 refine xm aa w ah hi ni H hd λj1 m1 m2 G l hj dG cx J O k1 k2 l1 l2 l3 l4 l5=> ?_;obtain⟨fs,z,_,hf⟩:=w.con.tb;have hG:∀h,bM h (.fz fs) (.int k)=some (.ref #[I.f,2,I.N+k]):=λh=>dI (by rw[hf _ hk,nX hs]) (bU hk (bk aa.n4 (by decide)));have t1:(dF D i p' k' s.now e' h').tb.srv=.bool true:=by rw[←hs];exact aq BR.srv z
 have t2:(dF D i p' k' s.now e' h').tb.dU=.ref #[I.f,6,0]:=aq BR.dU z;have t3:(dF D i p' k' s.now e' h').tb.iC=some (.fz fs):=aq BR.iC z;rw[wn];generalize dF D i p' k' s.now e' h'=aS at*;have Fe:(wv=23)=False:=by rcases hw with e|e<;>rw[e]<;>decide
 rcases hw with e|e
 .have d:(wv=189)=True:=eq_true e;erw[l1,l2,l3,l4,l5,k1,k2,J,O,Fe,d,t1,t2,t3,hG];rw[←e];refine ha j1 _ _ λaj P y x=> ?_;lk;exact aR (q aj P (Jk.le_trans hj y) x)
 .have d:(wv=189)=False:=by rw[e];decide
  erw[l1,l2,l3,l4,l5,k1,k2,J,O,Fe,d,t1,t2,t3,hG];rw[←e];refine ha j1 _ _ λaj P y x=> ?_;lk;exact aR (q aj P (Jk.le_trans hj y) x)
def Uj(h:(pos=1\/pos=3)\/5<=pos):(bif Nat.ble pos 3 then 189 else 186)=186->5<=pos:=λe=>h.resolve_left λh=>by rcases h with h|h<;>rw[h]at e<;>exact absurd e (by decide)
def Ie(B:ed 3 p.pos p.k=true)(u:p.st=3)(h:5<=p.pos):bO i p (aF i p.pos):=by
 have d:=pW B;have:p.pos=5\/p.pos=6:=(Nat.lt_or_ge p.pos 6).imp (λe=>iz (Nat.le_of_lt_succ e) h) λe=>iz d e;unfold bO;rw[u];rcases this with e|e<;>rw[e]
 .exact .inr #[rfl,rfl]
 .exact .inl #[rfl,rfl]
def Yy(w:W s D)(ah:Gd s)(J:I.srv=true)(hi:i<I.N)(hk:k<I.N)(u:s.hd k=some i)(B:(s.ph i).st≠3/\(s.ph i).st≠6):(s.sk k).st=2:=by
 match h:(s.sk k).st,w.sk.l k with
 |0,_=>exact nomatch u.symm.trans (w.sk.z k hk h)
 |2,_=>rfl
 |3,_=>exact(B.2 (w.sk.e k hk h i hi)).elim
 |1,_=>have m:=w.met.b k hk h;have ok:=(ah.loc _ m.1).ok;rw[m.2.1]at ok;have d:=w.sk.o J k hk;rw[u,m.2.2.2.2]at d;have x:=Ie (i:=(s.sk k).m) ok m.2.1 (Uj (Az ok) d);rw[m.2.2.1]at x;have:=(w.hold k hk _).mpr #[m.1,x];rw[u]at this;exact(B.1 (by rw[aL this];exact m.2.1)).elim
 |n+4,y=>exact absurd y (Nat.not_le.mpr (fj 4 n))
def Ny(hp:p'=5\/p'=6):jd i p'=(.ref #[I.f,2,i],.ref (kp (aF i p')),.gk 186,.fz [.int i]):=by rcases hp with e|e<;>subst e<;>rfl
def HK(aa:bn I)(w:W s D)(ah:Gd s)(hi:i<I.N)(ni:(s.ph i).k<=100)(u:I.srv=true)(H:b0 i (s.ph i) p' k' e' h'){wv:Nat}{O dl:V}{cond:Bool}(hw:wv=189\/wv=186)(hd:dv i p'=.tup [.str wv,.int (aF i p'),O])(J:WD s.now O dl cond)
 (hc:jd i p'=(.ref #[I.f,2,i],.ref (kp (aF i p')),.gk wv,.fz [.int i]))(To:wv=bif Nat.ble p' 3 then 189 else 186)(B:(s.sk (aF i p')).st=2)(ho:wv=ew (s.hd (aF i p')))(hY:ed 3 p' k'=true)(tm:iu i p' 3 s.now s.now)
 (q:∀s' aj j',j.le j'->fX s D s' aj->Q (.bool true) (hp I.f aj j')):
 wG (n+9) (.fn 74) [.ref #[I.f,14,0],.ref #[I.f,2,i],.ref #[I.f,11,i],.int i] (hp I.f D j) Q X:=by
 have hk:=lu aa hi p';have ae:=ah.loc i hi;obtain ht:=(w.ti hi).trans (qo H.st);have d:=w.ts (aF i p');obtain zc:=w.sT u hk;have x:D.sv (I.N+aF i p')=[]:=(congrFun w.sv _).trans (lq.trans (by unfold iX;rw[B];rfl));obtain P:pY (s.sk (aF i p'))=.fz [.tup [.int 0,.str 81,.gk wv],.tup [.int 1,.str 155,.none]]:=by unfold pY;rw[B,w.sk.o u _ hk,←ho];rfl
 obtain hZ:(V.str (fM (s.sk (aF i p')).st))=.str 247:=by rw[B];rfl
 obtain G:I.N+aF i p'≠i:=Nat.ne_of_gt (bU hi (dL _ _));rw[←w.now]at J;refine JW aa w ah hi ni u H hw hk hd (λaj=>∃s',fX s D s' aj) (λj' Q' X' q'=> ?_) λaj j' y #[s',h]=>q s' aj j' y h;refine M8 (m:=((D.nT+D.nC:Nat):Int)) (w.iT hi) zc G w.K.num w.K.iA J ((aq TR.state d).trans hZ) ((aq TR.bu d).trans P) (aq TR.cK d) (by show(D.sv _).length<1000;rw[x];decide) ?_;refine q' _ j' j'.le_rfl #[#[uF s.ph i #[p',k',3,D.nC,s.now,e',h'],s.hd,s.q,uF s.sk (aF i p') #[1,i,D.nC,wv],s.now],?_,#[ah.loc.upd (ae.new H hY tm),ah.free.sv λe=>(nomatch e)],rfl,iI (.go H),Vd hi hk rfl rfl (H.wt (st:=3) ae (by decide)),rfl,rfl,rfl,rfl];refine w.gen w.K.up (w.ce.new λU=>#[rfl,by rw[hc,nX u];rfl]) (w.num.new rfl) ?_ ?_ w.aC ?_ (w.hold.upd (jq (H.jh ae))) (w.qp.upd H.ne.1 (by decide:3≠2)) (w.met.join hi hk H.ne.2.1 (by rw[B];decide) #[rfl,rfl] #[rfl,rfl,rfl,To]) ((w.sk.upd hi H.ne.2.2).up u ho (.inl rfl))
 .show uF (uF D.tk i #[(D.tk i).number,(D.tk i).name,(D.tk i).jy,.str 246,(D.tk i).bP,(D.tk i).bu,.none,.ref #[I.f,0,D.nC],(D.tk i).cK,.none,(D.tk i).eu]) (I.N+aF i p') #[(D.tk (I.N+aF i p')).number,(D.tk (I.N+aF i p')).name,(D.tk (I.N+aF i p')).jy,.str 173,(D.tk (I.N+aF i p')).bP,.fz [],.none,(D.tk (I.N+aF i p')).call,(D.tk (I.N+aF i p')).cK,.tup [.str 81,.int 0,.ref #[I.f,0,D.nC]],(D.tk (I.N+aF i p')).eu]=_;rw[ht,d,w.tk];exact(aq (uF · _ _) (gV (p:=#[p',k',3,D.nC,s.now,e',h']) hi)).trans (tf (z:=#[1,i,D.nC,wv]))
 .show uF D.sv _ (D.sv _++[.ref #[I.f,0,D.nC]])=_;rw[x,w.sv];exact te (z:=#[1,i,D.nC,wv])
 .exact(jB (w.qp.cn (p:=#[p',k',3,D.nC,s.now,e',h']) H.ne.1):bS s.ph s.q=_)▸w.b9
def M0(aa:bn I)(w:W s D)(ah:Gd s)(hi:i<I.N)(O:(s.ph i).k<=100)(u:I.srv=true)(H:b0 i (s.ph i) p' k' e' h')(hp:p'=1\/p'=3)(B:(s.sk (aF i p')).st=2->s.hd (aF i p')≠none)
 (q:∀s' aj j',j.le j'->fX s D s' aj->Q (.bool true) (Internal.hp I.f aj j')):
 wG (n+9) (.fn 74) [.ref #[I.f,14,0],.ref #[I.f,2,i],.ref #[I.f,11,i],.int i] (Internal.hp I.f D j) Q X:=by
 obtain⟨hd,P⟩:=BE (i:=i) (k':=k') (e':=e') (h':=h') (now:=s.now) aa hp D.nC;have hk:=lu aa hi p';have ae:=ah.loc i hi;have G:=(w.ti hi).trans (qo H.st);have y:=w.ts (aF i p');obtain zc:=w.sT u hk;obtain bl:=rv w aa hk;obtain bN:I.N+aF i p'≠i:=Nat.ne_of_gt (bU hi (dL _ _));obtain h3:(s.sk (aF i p')).st≠3:=λe=>H.ne.2.2 (w.sk.e _ hk e i hi);obtain hx:∃x,(V.str (fM (s.sk (aF i p')).st))=.str x/\x≠250/\x≠251/\(x≠247\/∃k',k'≠189/\pY (s.sk (aF i p'))=.fz [.tup [.int 0,.str 81,.gk k'],.tup [.int 1,.str 155,.none]]):=by
  obtain l:=w.sk.l (aF i p');match h:(s.sk (aF i p')).st,l with
  |0,_=>exact#[173,rfl,by decide,by decide,.inl (by decide)]
  |1,_=>exact#[173,rfl,by decide,by decide,.inl (by decide)]
  |2,_=>
   refine#[247,rfl,by decide,by decide,.inr #[186,by decide,?_]];have:=B h;unfold pY;rw[h,w.sk.o u _ hk];cases e:s.hd (aF i p')with
   |none=>exact(this e).elim
   |some _=>rfl
  |3,_=>exact(h3 h).elim
  |n+4,hl=>exact absurd hl (Nat.not_le.mpr (fj 4 n))
 obtain⟨x,lX,nN,rH,Tq⟩:=hx;rw[←w.now]at P;refine JW aa w ah hi O u H (.inl rfl) hk hd (λaj=>∃s',fX s D s' aj) (λj' Q' X' J=> ?_) λaj j' hj #[s',h]=>q s' aj j' hj h;refine M7 (x:=x) (qs:=bS s.ph s.q) (m:=((D.nT+D.nC:Nat):Int)) (w.iT hi) zc bN w.K.num w.K.iA P ((aq TR.state y).trans lX) nN rH (Tq.imp id λ#[k',a,b]=>#[k',a,(aq TR.bu y).trans b]) (aq TR.bP y) w.b9 (by rw[mr u];exact el bl (by decide)) rfl (λd=> ?_) λd db ef eO z=> ?_
 .refine J _ j' j'.le_rfl #[#[uF s.ph i #[p',k',1,D.nC,s.now,e',h'],s.hd,s.q,s.sk,s.now],?_,#[ah.loc.upd (ae.new H (by rw[(tD d).1];rfl) (Kk d)),ah.free],rfl,iI (.go H),lb hi rfl rfl (bk (fL (by decide:1<=4-fe 1) _) (H.wt ae (by decide))),rfl,rfl,rfl,rfl];refine w.gen w.K.up (w.ce.new λe=>absurd e (by show¬(1=2\/1=3);decide)) (w.num.new rfl) ?_ w.sv w.aC ?_ (w.hold.upd (jq (H.jh ae))) (w.qp.upd H.ne.1 (by decide:1≠2)) (w.met.upd H.ne.2.1 (by decide:1≠3)) (w.sk.upd hi H.ne.2.2)
  .refine(aq (uF · i _) w.tk).trans (dM (aq (uF (bF s.ph s.sk) i) ?_) (gV hi));show TR.mk (D.tk i).number (D.tk i).name (D.tk i).jy (D.tk i).state (D.tk i).bP (D.tk i).bu (D.tk i).wake .none (D.tk i).cK (.tup [.str 92]) (D.tk i).eu=_;rw[G];exact Ki d
  .exact(jB (w.qp.cn (p:=#[p',k',1,D.nC,s.now,e',h']) H.ne.1):bS s.ph s.q=_)▸w.b9
 .refine J _ j' j'.le_rfl #[#[uF s.ph i #[p',k',2,D.nC,s.now,e',h'],s.hd,uF s.q (aF i p') (s.q (aF i p')++[i]),s.sk,s.now],?_,#[ah.loc.upd (ae.new H (by rcases hp with h|h<;>rw[h]<;>rfl) (vH aa hp (by decide) λU=>d)),ah.free.qu λa b=>B b a],rfl,iI (.go H),lb hi rfl rfl (bk (fL (by decide:1<=4-fe 2) _) (H.wt ae (by decide))),rfl,rfl,rfl,rfl];refine w.gen w.K.up (w.ce.new λU=>#[rfl,by rw[m4 hp,nX u];rfl]) (w.num.new rfl) ?_ w.sv w.aC ?_ (w.hold.upd (jq (H.jh ae))) (w.qp.join hi hk H.ne.1 rfl rfl) (w.met.upd H.ne.2.1 (by decide:2≠3)) (w.sk.upd hi H.ne.2.2)
  .refine(aq (uF · i _) w.tk).trans (dM (aq (uF (bF s.ph s.sk) i) ?_) (gV hi));show TR.mk (D.tk i).number (D.tk i).name (D.tk i).jy (.str 245) (D.tk i).bP (D.tk i).bu (wk i #[p',k',2,D.nC,D.now,e',h']) (.ref #[I.f,0,D.nC]) (D.tk i).cK .none (D.tk i).eu=_;rw[G,w.now];rfl
  .have:=Ja w hk H.ne.1 (p2:=#[p',k',2,D.nC,s.now,e',h']) rfl;rw[mr u]at z;exact this▸z
def QO(aa:bn I)(w:W s D)(ah:Gd s)(hi:i<I.N)(u:(s.ph i).k<=100)(B:(s.ph i).st=0\/(s.ph i).st=1)
 (q:∀s' aj j',j.le j'->fX s D s' aj->Q (.bool true) (hp I.f aj j')):
 wG (n+9) (.fn 74) [.ref #[I.f,14,0],.ref #[I.f,2,i],.ref #[I.f,11,i],.int i] (hp I.f D j) Q X:=by
 have ok:=(ah.loc i hi).ok;have go:∀{p' k':Nat} {e' h':Int},b0 i (s.ph i) p' k' e' h'->wG (n+9) (.fn 74) [.ref #[I.f,14,0],.ref #[I.f,2,i],.ref #[I.f,11,i],.int i] (hp I.f D j) Q X:=λ{p' k' e' h'} H=>by
  rcases H.six with hp|hp|hp
  .exact Xt aa w ah hi u H hp q
  .cases x:I.srv with
   |false=>exact Y6 aa w ah hi u x H hp q
   |true=>
    by_cases h:(s.sk (aF i p')).st=2/\s.hd (aF i p')=none
    .obtain⟨hd,G⟩:=BE (i:=i) (k':=k') (e':=e') (h':=h') (now:=s.now) aa hp D.nC;exact HK aa w ah hi u x H (.inl rfl) hd G (m4 hp) (by rcases hp with e|e<;>rw[e]<;>rfl) h.1 (by rw[h.2];rfl) (by rcases hp with e|e<;>rw[e]<;>rfl) (vH aa hp (by decide) λe=>absurd e (by decide)) q
    .exact M0 aa w ah hi u x H hp (λa b=>h #[a,b]) q
  .cases x:I.srv with
   |false=>exact UA aa w ah hi u x H hp q
   |true=>have y:=(w.hold _ (lu aa hi p') i).mpr #[hi,HA H (ah.loc i hi) hp];exact HK aa w ah hi u x H (.inr rfl) (Ei hp) .none (Ny hp) (by rcases hp with e|e<;>rw[e]<;>rfl) (Yy w ah x hi (lu aa hi p') y H.ne.2) (by rw[y];rfl) (by rcases hp with e|e<;>rw[e]<;>rfl) (by rcases hp with e|e<;>rw[e]<;>trivial) q
 rcases B with h|h
 .rcases VI i (k:=(s.ph i).k) (pW ok)with⟨c,d,z⟩|⟨hp,hk⟩
  .exact go (.a h z)
  .exact Og aa w ah hi h hk hp q
 .exact go (.b h)
def W.tb(aa:bn I)(w:W s D):lI D s.hd:=by obtain⟨fs,h,_⟩:=w.con.tb;exact#[aq BR.dU h,aq BR.srv h,aq BR.aC h,aq BR.sound h,w.aC,#[aa.n2,aa.n4],w.K.iA]
def W.YU(w:W s D)(e:I.srv=true)(hk:k<I.N):oJ D k:=#[w.sT e hk,hk,aq TR.bP (w.ts k),aq TR.cK (w.ts k)]
def W.J4(w:W s D)(k:Nat):D.sv (I.N+k)=iX (s.sk k):=(congrFun w.sv _).trans lq
def Jm(m c:Nat)(r:k06)(h:c∉r):restOf (λc=>((m+c+1:Nat):Int)) c (c::r)=r:=by unfold restOf;rw[List.filter_cons_of_neg (by simp)];refine List.filter_eq_self.mpr λd hd=>dX λe=>h ?_;have e:=Nat.add_left_cancel (Nat.succ.inj (Int.ofNat.inj e));exact e▸hd
def Dd(w:W s D)(L:jG s.ph s.now)(hk:k<I.N){r:k06}(u:s.q k=i::r):(s.ph i).cn∉r.map λx=>(s.ph x).cn:=λm=>by obtain⟨x,h,e⟩:=bv.mp m;have a:=(qt w L hk (x:=i) (by rw[u];exact .head _)).cl;have b:=(qt w L hk (x:=x) (by rw[u];exact .tail _ h)).cl;have e:(s.ph x).cn=(s.ph i).cn:=e;rw[e,a]at b;have d:=(w.qp k hk).1;rw[u]at d;have:=aq (λz:V×V×V×V=>match z.1 with|.ref a=>a.i|_=>0) b;exact(ek.mp d).1 ((show i=x from this)▸h)
def Mu{a e b u w B z J:Nat}(h:e+w=a+B)(k:u+z=b+J):e+u+w+z=a+b+B+J:=by rw[Nat.add_assoc,Nat.add_add_add_comm,h,k,Nat.add_add_add_comm,←Nat.add_assoc]
def Mr{x w m v:Nat}(h:x+w+1=m+v+1)(e:v+1=w):x<m:=by subst e;exact Nat.le_of_eq (Nat.add_right_cancel ((Nat.add_right_comm x 1 v).trans (Nat.succ.inj h)))
def Ms{x w m v:Nat}(e:v+1=w)(h:x+w+1=m+v+0):x+2=m:=by subst e;exact Nat.add_right_cancel ((Nat.add_right_comm x 2 v).trans h)
def Mt{x w m v y:Nat}(h:x+w+0=y+v+1)(e:v+1=w)(k:y+2=m):x<m:=by subst e;exact k▸Nat.add_right_cancel (Nat.succ.inj h)▸Nat.lt_succ_of_lt (bA x)
def u0{s':Bs}(hi:i<I.N)(hk:k<I.N)(e:s'.ph=uF s.ph i p)(u:s'.sk=uF s.sk k z):mu s'+wt i (s.ph i)+sw (s.sk k)=mu s+wt i p+sw z:=by unfold mu;rw[e,u,←gS (wt),←gS λU=>sw];exact Mu (sG (f:=λi=>wt i (s.ph i)) (v:=wt i p) I.N hi) (sG (f:=λk=>sw (s.sk k)) (v:=sw z) I.N hk)
def cq.fin(ae:cq i p now)(h:p.st=3):cq i (p.to 0) now:=by
 have ok:=ae.ok;rw[h]at ok;obtain d:=pW ok;rcases Az ok with hp|hp
 .exact ae.met hp (by rw[h];decide) (.inl rfl)
 .have:p.pos=5\/p.pos=6:=(Nat.lt_or_ge p.pos 6).imp (λe=>iz (Nat.le_of_lt_succ e) hp) λe=>iz d e;refine ae.to ?_ ?_
  .rcases this with e|e<;>rw[e]<;>rfl
  .rcases this with e|e<;>rw[e]<;>trivial
def eE.sM(H:eE ph hd sk)(u:I.srv=true)(ho:z.o=ew v)(hz:z.st=1\/z.st=2):eE ph (uF hd k v) (uF sk k z)where
 o h y d:=by
  by_cases e:y=k
  .rw[e,aD,aD];exact ho
  .rw[aO _ _ _ _ e,aO _ _ _ _ e];exact H.o h y d
 z y d h:=by
  by_cases e:y=k
  .rw[e,aD]at h;rw[h]at hz;exact absurd hz (by decide)
  .rw[aO _ _ _ _ e]at h⊢;exact H.z y d h
 e:=bT (P:=λy (r:Sk)=>y<I.N->r.st=3->∀i,i<I.N->(ph i).st=6) (λU e=>by rw[e]at hz;exact absurd hz (by decide)) λy U=>H.e y
 l:=bT (P:=λy (r:Sk)=>r.st<=3) (by rcases hz with e|e<;>rw[e]<;>decide) λy U=>H.l y
 b h:=(nomatch(u.symm.trans h))
def W.join(w:W s D)(hs:I.srv=true)(hk:k<I.N){r:k06}(u:s.q k=i::r)(hp:(s.ph i).pos=1\/(s.ph i).pos=3)(B:(s.sk k).st≠1)(ho:189=ew (s.hd k)){rc:CR}(O:dD rc=dD (D.cl (s.ph i).cn)/\rc.number=(D.cl (s.ph i).cn).number)
 (J:Qs I.f db ef eO (uF (bS s.ph s.q) (th k) (r.map λy=>(s.ph y).cn))):
 W #[uF s.ph i ((s.ph i).to 3),s.hd,uF s.q k r,uF s.sk k #[1,i,(s.ph i).cn,189],s.now] {D with tq:=db,ql:=ef,nQ:=eO,cl:=uF D.cl (s.ph i).cn rc,tk:=uF (uF D.tk i {D.tk i with state:=.str 246,wake:=.none}) (I.N+k) {D.tk (I.N+k)with state:=.str 173,bu:=.fz [],wake:=.none,answer:=.tup [.str 81,.int 0,.ref #[I.f,0,(s.ph i).cn]]},sv:=uF D.sv (I.N+k) [.ref #[I.f,0,(s.ph i).cn]]}:=by
 have m:=((w.qp k hk).2 i).mp (u▸ .head _);have d:=m.2.1;have h:=io.upd (cl:=D.cl) (s.ph i).cn O;obtain hb:Nat.ble 5 3=Nat.ble 5 (s.ph i).st:=by rw[d];rfl
 refine w.sI hb w.K ((w.ce.sc h).to m.1 (.inl d) rfl rfl) (w.num.sc h) ?_ ?_ w.aC ?_ (w.hold.upd (jq (by rw[d];exact#[rfl,rfl]))) (w.qp.head hk u (by decide:3≠2)) (w.met.join m.1 hk (by rw[d];decide) B #[rfl,rfl] #[rfl,m.2.2,rfl,by rcases hp with e|e<;>show 189=bif Nat.ble (s.ph i).pos 3 then 189 else 186<;>rw[e]<;>rfl]) ((w.sk.upd m.1 (by rw[d];decide)).up hs ho (.inl rfl))
 .rw[w.ti m.1,w.ts k,w.tk];refine dM (aq (uF · _ _) (dM (aq (uF (bF s.ph s.sk) i) ?_) (gV (p:=(s.ph i).to 3) m.1))) (tf (z:=#[1,i,(s.ph i).cn,189]));unfold cV lK fp wk;rw[d];rfl
 .rw[w.sv];exact te (z:=#[1,i,(s.ph i).cn,189])
 .have:=vu (ph':=uF s.ph i ((s.ph i).to 3)) (ph:=s.ph) (q:=s.q) hk (r:=r) (l:=r.map λy=>(s.ph y).cn) (jb λy U=>m8 s.ph i 3 y) λy U U z U=>m8 s.ph i 3 z;exact this▸J
def W.part(w:W s D)(hs:I.srv=true)(hk:k<I.N)(B:(s.sk k).st=1)(O:(s.sk k).m=i)(hi:i<I.N)(u:(s.ph i).st=3)(J:fE (uF s.ph i ((s.ph i).to 0)) (uF s.hd k v))(gf:(Nat.beq (s.ph i).pos 1||Nat.beq (s.ph i).pos 3||I.srv&&Nat.ble 5 (s.ph i).pos)=true){rc:CR}(SY:dD rc=dD (D.cl (s.ph i).cn)/\rc.number=(D.cl (s.ph i).cn).number):
 W #[uF s.ph i ((s.ph i).to 0),uF s.hd k v,s.q,uF s.sk k #[2,0,0,ew v],s.now] {D with aC:=D.aC.set k (dO v),cl:=uF D.cl (s.ph i).cn rc,tk:=uF (uF D.tk i {D.tk i with state:=.str 173,bu:=.fz [],wake:=.none,answer:=.tup [.str 78],call:=.none}) (I.N+k) {D.tk (I.N+k)with answer:=.none,state:=.str 247,bu:=.fz [.tup [.int 0,.str 81,.gk (ew v)],.tup [.int 1,.str 155,.none]]},sv:=uF D.sv (I.N+k) []}:=by
 have d:=io.upd (cl:=D.cl) (s.ph i).cn SY;obtain hb:Nat.ble 5 0=Nat.ble 5 (s.ph i).st:=by rw[u];rfl
 refine w.sI hb w.K ((w.ce.sc d).off #[(by decide:0≠2),(by decide:0≠3)]) (w.num.sc d) ?_ ?_ ?_ ?_ J (w.qp.upd (by rw[u];decide) (by decide:0≠2)) (w.met.part hk B O (by decide:2≠1) (by decide:0≠3)) ((w.sk.upd hi (by rw[u];decide)).sM hs rfl (.inr rfl))
 .rw[w.ti hi,w.ts k,w.tk];refine dM (aq (uF · _ _) (dM (aq (uF (bF s.ph s.sk) i) ?_) (gV (p:=(s.ph i).to 0) hi))) (tf (z:=#[2,0,0,ew v]));obtain e:(bif (Nat.beq 0 0||Nat.ble 5 0)&&(Nat.beq (s.ph i).pos 1||Nat.beq (s.ph i).pos 3||I.srv&&Nat.ble 5 (s.ph i).pos)then V.tup [.str 78]else .none)=.tup [.str 78]:=by rw[gf];rfl
  unfold cV;rw[←e];rfl
 .rw[w.sv];exact te (z:=#[2,0,0,ew v])
 .exact(aq (List.set · k (dO v)) w.aC).trans (s8 v)
 .exact(jB (w.qp.cn (p:=(s.ph i).to 0) (by rw[u];decide)):bS s.ph s.q=_)▸w.b9
def BF(h:(p.st=2/\b=3)\/(p.st=3/\b=0)):wt i (p.to b)+1=wt i p:=by
 rcases h with⟨h,rfl⟩|⟨h,rfl⟩
 .have:=sS (i:=i) (p:=p) (b:=3) (by rw[h];rfl) rfl;rw[h]at this;exact Nat.add_right_cancel (m:=2) this
 .have:=sS (i:=i) (p:=p) (b:=0) (by rw[h];rfl) rfl;rw[h]at this;exact Nat.add_right_cancel (m:=1) this
structure LB(s:Bs)(D:Fs)(k i:Nat):Prop where
 hi:i<I.N
 e3:(s.ph i).st=3
 ht:aF i (s.ph i).pos=k
 ec:(s.sk k).c=(s.ph i).cn
 hc:(s.ph i).cn<D.nC
 cl:dD (D.cl (s.ph i).cn)=(.ref #[I.f,2,i],.ref (kp k),.gk (ew (s.hd k)),.fz [.int i])
 h:(((s.ph i).pos=1\/(s.ph i).pos=3)/\s.hd k=none)\/(5<=(s.ph i).pos/\s.hd k=some i)
def U5(w:W s D)(ah:Gd s)(J:I.srv=true)(hk:k<I.N)(u:(s.sk k).st=1)(B:(s.sk k).m=i):LB s D k i:=by
 have m:=w.met.b k hk u;rw[B]at m;have c:=w.ce i m.1 (.inr m.2.1);have d:=w.sk.o J k hk;have ok:=(ah.loc i m.1).ok;rw[m.2.1]at ok;refine#[m.1,m.2.1,m.2.2.1,m.2.2.2.1,c.1,c.2.trans ?_,?_]
 .unfold jd;rw[m.2.2.1,←m.2.2.2.2,d]
 .have e:=m.2.2.2.2;rw[d]at e;rcases Az ok with hp|hp
  .refine .inl #[hp,?_];cases x:s.hd k with
   |none=>rfl
   |some y=>rw[x]at e;rcases hp with h|h<;>rw[h]at e<;>exact absurd (show(186:Nat)=189 from e) (by decide)
  .refine .inr #[hp,(w.hold k hk i).mpr #[m.1,?_]];have:=Ie (i:=i) ok m.2.1 hp;rwa [m.2.2.1]at this
def IL(aa:bn I)(H:fE ph hd)(hk:k<I.N)(hi:i<I.N)(u:(ph i).st=3)(B:aF i (ph i).pos=k)(J:ed 3 (ph i).pos (ph i).k=true)(h:(((ph i).pos=1\/(ph i).pos=3)/\hd k=none/\v=some i)\/(5<=(ph i).pos/\hd k=some i/\v=none)):fE (uF ph i ((ph i).to 0)) (uF hd k v):=by
 rcases h with⟨hp,d,rfl⟩|⟨hp,d,rfl⟩
 .refine H.take hi d ?_;have:=y3 (i:=i) (p:=ph i) (q:=(ph i).to 0) (by rw[u];exact#[rfl,rfl]) rfl hp;rw[←B];exact this
 .refine H.lay d ?_;obtain hp:(ph i).pos=5\/(ph i).pos=6:=(Nat.lt_or_ge (ph i).pos 6).imp (λe=>iz (Nat.le_of_lt_succ e) hp) λe=>iz (pW J) e;have:=Ge (i:=i) (p:=ph i) (q:=(ph i).to 0) (aa.ab i hi) (by rw[u];exact#[rfl,rfl]) rfl hp;rw[←B];exact this
def Qd(aa:bn I)(w:W s D)(ah:Gd s)(J:I.srv=true)(hk:k<I.N)(QU:(s.sk k).st=0\/(s.sk k).st=1)
 (q:∀s' aj j',j.le j'->fX s D s' aj->Q .none (hp I.f aj j')):
 wG (n+5) (.fn 71) [.ref #[I.f,14,0],.ref #[I.f,2,I.N+k],.int k] (hp I.f D j) Q X:=by
 have T:=w.tb aa;have S:=w.YU J hk;have rF:=w.ts k;have B:=kb (ph:=s.ph) (q:=s.q) hk;have bl:=rv w aa hk;rw[←mr J]at B bl;have bl:=el bl (by decide:2<900);have pA:∀d∈bS s.ph s.q (I.N+k),d<D.nC:=λd hd=>by rw[B]at hd;obtain⟨x,hx,rfl⟩:=bv.mp hd;exact(qt w ah.loc hk hx).hc
 have bN:∀{x},x<I.N->I.N+k≠x:=λhx=>Nat.ne_of_gt (bU hx (dL _ _));have O:=w.J4 k;rcases QU with h0|h1
 .have jW:=w.sk.z k hk h0;have ha:(D.tk (I.N+k)).answer=.none:=by rw[rF];unfold fV;rw[h0];rfl
  have O:D.sv (I.N+k)=[]:=by rw[O];unfold iX;rw[h0];rfl
  cases G:s.q k with
  |nil=>
   rw[G]at B;refine Qj T S ha w.b9 jW B (q #[s.ph,s.hd,s.q,uF s.sk k #[2,0,0,189],s.now] _ _ j.le_rfl #[#[w.con,w.K,?_,?_,w.st,w.dl,w.mn,w.aC,w.now,w.ce,w.num,w.b9,w.hold,w.qp,#[λi hi h=> ?_,bT (P:=λy (u:Sk)=>y<I.N->u.st=1->u.m<I.N/\qF (s.ph u.m) u u.m y) (λU h=>(nomatch h)) λy U=>w.met.b y],w.sk.up J (by rw[jW];rfl) (.inr rfl)],#[ah.loc,ah.free.sv λU U=>G],rfl,λU U=>.inl rfl,?_,rfl,rfl,rfl,rfl])
   .rw[rF,w.tk];refine dM (aq (uF _ _) ?_) (tf (z:=#[2,0,0,189]));unfold fV;rw[h0];rfl
   .rw[←te,←w.sv];exact(ou O).symm
   .have z:=w.met.a i hi h;show(uF s.sk k #[2,0,0,189] (aF i (s.ph i).pos)).st=1/\(uF s.sk k #[2,0,0,189] (aF i (s.ph i).pos)).m=i;rw[aO _ _ _ _ λe:aF i (s.ph i).pos=k=>by rw[e,h0]at z;exact nomatch z.1];exact z
   .have:=u0 (s:=s) (s':=#[s.ph,s.hd,s.q,uF s.sk k #[2,0,0,189],s.now]) (p:=s.ph k) hk hk (lw _ _).symm rfl;have e0:sw (s.sk k)=1:=by unfold sw;rw[h0];rfl
    rw[e0]at this;exact Nat.lt_of_succ_le (Nat.le_of_eq (Nat.add_right_cancel (m:=wt k (s.ph k)) ((Nat.add_right_comm _ _ _).trans this)))
  |cons i r=>
   rw[G]at B;have hm:i∈s.q k:=by rw[G];exact .head _
   have y:=qt w ah.loc hk hm;refine Qh (c:=(s.ph i).cn) (i:=i) (num:=λc=>((D.nT+c+1:Nat):Int)) T S ha w.b9 jW B bl y.ke pA w.num (w.iT y.hi) (bN y.hi) y.ca (by rw[O];decide) λj' db ef eO hj cG=> ?_;rw[B,List.map_cons,Jm _ _ _ (Dd w ah.loc hk G),mr J]at cG;rw[O];refine q #[uF s.ph i ((s.ph i).to 3),s.hd,uF s.q k r,uF s.sk k #[1,i,(s.ph i).cn,189],s.now] _ _ hj #[w.join J hk G y.hp (by rw[h0];decide) (by rw[jW];rfl) #[rfl,rfl] cG,#[ah.loc.upd ((ah.loc i y.hi).met y.hp (by rw[y.e2];decide) (.inr rfl)),(ah.free.qu λU=>by rw[h0];decide).sv λe=>(nomatch e)],rfl,iI (.st (.inl y.e2) 3),?_,rfl,rfl,rfl,rfl];have:=u0 (s:=s) (s':=#[uF s.ph i ((s.ph i).to 3),s.hd,uF s.q k r,uF s.sk k #[1,i,(s.ph i).cn,189],s.now]) (p:=(s.ph i).to 3) (z:=#[1,i,(s.ph i).cn,189]) y.hi hk rfl rfl;have e0:sw (s.sk k)=1:=by unfold sw;rw[h0];rfl
   have e1:sw #[1,i,(s.ph i).cn,189]=1:=rfl;have e3:=BF (i:=i) (p:=s.ph i) (.inl #[y.e2,rfl]);rw[e0,e1]at this;exact Mr this e3
 .obtain⟨i,hm⟩:∃i,(s.sk k).m=i:=#[_,rfl];have z:=U5 w ah J hk h1 hm;have ok:=(ah.loc i z.hi).ok;rw[z.e3]at ok;have ha:(D.tk (I.N+k)).answer=.tup [.str 81,.int 0,.ref #[I.f,0,(s.ph i).cn]]:=by rw[rF,←z.ec];unfold fV;rw[h1];rfl
  have O:D.sv (I.N+k)=[.ref #[I.f,0,(s.ph i).cn]]:=by rw[O,←z.ec];unfold iX;rw[h1];rfl
  have e0:sw (s.sk k)=1:=by unfold sw;rw[h1];rfl
  have e4:=BF (i:=i) (p:=s.ph i) (b:=0) (.inr #[z.e3,rfl]);have pm:∀v,mu #[uF s.ph i ((s.ph i).to 0),uF s.hd k v,s.q,uF s.sk k #[2,0,0,ew v],s.now]+2=mu s:=λv=>by have:=u0 (s:=s) (s':=#[uF s.ph i ((s.ph i).to 0),uF s.hd k v,s.q,uF s.sk k #[2,0,0,ew v],s.now]) (p:=(s.ph i).to 0) (z:=#[2,0,0,ew v]) z.hi hk rfl rfl;have e1:sw #[2,0,0,ew v]=0:=rfl;rw[e0,e1]at this;exact Ms e4 this
  have bZ:∀{a b:Nat},a+2=b->a<b:=λe=>e▸Nat.lt_add_of_pos_right (by decide);have L0:=ah.loc.upd ((ah.loc i z.hi).fin z.e3);rcases z.h with⟨hp,jW⟩|⟨hp,yx⟩
  .have ho:=jW;refine Qi (c:=(s.ph i).cn) (i:=i) (who:=i) T S ha w.b9 jW z.hc ((aq (λz=>z.2.2.1) z.cl).trans (aq (λx=>V.gk (ew x)) ho)) (aq (λz=>z.2.2.2) z.cl) (w.iT z.hi) (bN z.hi) (aq (λz=>z.1) z.cl) O ?_;exact q _ _ _ j.le_rfl #[w.part J hk h1 hm z.hi z.e3 (v:=some i) (IL aa w.hold hk z.hi z.e3 z.ht ok (.inl #[hp,jW,rfl])) (by rcases hp with e|e<;>rw[e]<;>rfl) #[rfl,rfl],#[L0,(ah.free.some).sv λU e=>(nomatch((aD _ _ _).symm.trans e))],rfl,iI (.st (.inr z.e3) 0),bZ (pm _),rfl,rfl,rfl,rfl]
  .have ho:=yx;have W1:=w.part J hk h1 hm z.hi z.e3 (v:=none) (IL aa w.hold hk z.hi z.e3 z.ht ok (.inr #[hp,yx,rfl])) (rc:=#[(D.cl (s.ph i).cn).number,(D.cl (s.ph i).cn).caller,(D.cl (s.ph i).cn).target,(D.cl (s.ph i).cn).key,(D.cl (s.ph i).cn).values,.str 244,(D.cl (s.ph i).cn).kG,(D.cl (s.ph i).cn).cond,.tup [.tup [.str 78],.none]]) (by rw[J,Nat.ble_eq_true_of_le hp,Bool.and_true,Bool.or_true]) #[rfl,rfl];have FW:dO (s.hd k)=.int i:=by rw[yx];rfl
   cases G:s.q k with
   |nil=>rw[G]at B;refine Qe (c:=(s.ph i).cn) (i:=i) (who:=i) T S ha w.b9 FW z.hc ((aq (λz=>z.2.2.1) z.cl).trans (aq (λx=>V.gk (ew x)) ho)) (aq (λz=>z.2.2.2) z.cl) (w.iT z.hi) (bN z.hi) (aq (λz=>z.1) z.cl) O B ?_;exact q _ _ _ j.le_rfl #[W1,#[L0,(ah.free.no λU=>G).sv λU U=>G],rfl,iI (.st (.inr z.e3) 0),bZ (pm _),rfl,rfl,rfl,rfl]
   |cons x r=>
    rw[G]at B;have Sv:x∈s.q k:=by rw[G];exact .head _
    have y:=qt w ah.loc hk Sv;have rI:x≠i:=λe=>by have q:=y.e2;rw[e,z.e3]at q;exact nomatch q
    have FE:(s.ph x).cn≠(s.ph i).cn:=λe=>by have q:=y.cl;rw[e,z.cl]at q;exact rI (aq (λz:V×V×V×V=>match z.1 with|.ref a=>a.i|_=>0) q).symm
    have ex:uF s.ph i ((s.ph i).to 0) x=s.ph x:=aO _ _ _ _ rI;refine Qg (c:=(s.ph i).cn) (i:=i) (who:=i) (c2:=(s.ph x).cn) (i2:=x) (num:=λc=>((D.nT+c+1:Nat):Int)) T S ha w.b9 FW z.hc ((aq (λz=>z.2.2.1) z.cl).trans (aq (λx=>V.gk (ew x)) ho)) (aq (λz=>z.2.2.2) z.cl) (w.iT z.hi) (bN z.hi) (aq (λz=>z.1) z.cl) O B bl y.ke FE pA w.num (w.iT y.hi) (bN y.hi) rI y.ca λj' db ef eO hj cG=> ?_;rw[B,List.map_cons,Jm _ _ _ (Dd w ah.loc hk G),mr J]at cG;have Gl:Qs I.f db ef eO (uF (bS (uF s.ph i ((s.ph i).to 0)) s.q) (th k) (r.map λy=>(uF s.ph i ((s.ph i).to 0) y).cn)):=by rw[←jB (w.qp.cn (p:=(s.ph i).to 0) (by rw[z.e3];decide)),jb (λy U=>m8 s.ph i 0 y)];exact cG
    have W2:=W1.join (i:=x) J hk G (by dsimp only;rw[ex];exact y.hp) (by dsimp only;rw[aD];decide) (by dsimp only;rw[aD];rfl) (rc:=#[(D.cl (s.ph x).cn).number,(D.cl (s.ph x).cn).caller,(D.cl (s.ph x).cn).target,(D.cl (s.ph x).cn).key,(D.cl (s.ph x).cn).values,.str 243,(D.cl (s.ph x).cn).kG,(D.cl (s.ph x).cn).cond,(D.cl (s.ph x).cn).found]) (by dsimp only;rw[ex,aO _ _ _ _ FE];exact#[rfl,rfl]) Gl;dsimp only at W2;rw[ex,aO _ (I.N+k) x _ (bN y.hi).symm,aO _ i x _ rI,aD,Ku (F:=uF D.tk i _) (bN y.hi),fh,fh,fh]at W2;refine q #[uF (uF s.ph i ((s.ph i).to 0)) x ((s.ph x).to 3),uF s.hd k none,uF s.q k r,uF s.sk k #[1,x,(s.ph x).cn,189],s.now] _ _ hj #[W2,#[L0.upd ((ah.loc x y.hi).met y.hp (by rw[y.e2];decide) (.inr rfl)),?_],rfl,HT rI (.st (.inr z.e3) 0) (.st (.inl y.e2) 3),?_,rfl,rfl,rfl,rfl]
    .exact((ah.free.no λe=>absurd (h1.symm.trans e) (by decide)).qu λU=>by rw[h1];decide).sv λe=>(nomatch e)
    .have a:=u0 (s:=#[uF s.ph i ((s.ph i).to 0),uF s.hd k none,s.q,uF s.sk k #[2,0,0,ew none],s.now]) (s':=#[uF (uF s.ph i ((s.ph i).to 0)) x ((s.ph x).to 3),uF s.hd k none,uF s.q k r,uF s.sk k #[1,x,(s.ph x).cn,189],s.now]) (p:=(s.ph x).to 3) (z:=#[1,x,(s.ph x).cn,189]) y.hi hk rfl (fh _ _ _ _).symm;have e1:sw #[1,x,(s.ph x).cn,189]=1:=rfl;have e6:sw #[2,0,0,ew none]=0:=rfl;have e5:=BF (i:=x) (p:=s.ph x) (b:=3) (.inl #[y.e2,rfl]);have b:=pm none;dsimp only at a;rw[aD,ex,e1,e6]at a;exact Mt a e5 b
def W.nG(w:W s D)(e:I.srv=false):D.nG=I.N:=by have:=w.con.nG;rw[e]at this;exact this
def W.E6(w:W s D)(hk:k<I.N)(j:Jk):aT (hp I.f D j (kp k)) 21=some (.ref #[I.f,7,th k]):=by
 cases h:I.srv with
 |false=>rw[uT h,←mq h,vv (by rw[w.nG h];exact hk),EX];exact aq (λz=>some (GR.bP z)) (w.con.gr k)
 |true=>rw[nX h,←mr h,sr (w.sT h hk),EY];exact aq (λz=>some (TR.bP z)) (w.ts k)
def W.I9(w:W s D)(hk:k<I.N):th k<D.nT\/(50<=th k/\th k<50+D.nG):=by
 cases h:I.srv with
 |false=>rw[←mq h,w.nG h];exact .inr #[dL _ _,Nat.add_lt_add_left hk _]
 |true=>rw[←mr h];exact .inl (w.sT h hk)
def Uq(aa:bn I)(w:W s D)(ah:Gd s)(q:Q (.bool true) (hp I.f D j)):wG (n+2) (.fn 75) [.ref #[I.f,14,0]] (hp I.f D j) Q X:=by
 obtain⟨fs,O,_,u⟩:=w.con.tb;refine Ur (th:=th) (kp:=kp) (w.tb aa) w.b9 (aq BR.iC O) u (λk hk=>w.E6 hk j) (λk hk=>w.I9 hk) (λk hk=>rv w aa hk) (λk hk h=> ?_) (λk hk h J=> ?_) q
 .rw[kb hk,be];cases P:s.hd k with
  |none=>exact(h P).elim
  |some y=>rcases(w.qp.one ah.loc w.hold aa hk P).2 with e|⟨x,e⟩<;>rw[e]<;>exact aP rfl
 .have G:(s.sk k).st≠2:=λe=>J (by rw[kb hk,ah.free k hk h e];rfl);cases d:I.srv with
  |false=>exact(G (w.sk.b d k)).elim
  |true=>
   refine#[rfl,fM (s.sk k).st,?_,?_]
   .rw[nX d,sr (w.sT d hk),Qv];exact aq (λz=>some (TR.state z)) (w.ts k)
   .match h:(s.sk k).st,w.sk.l k with
    |0,_=>decide
    |1,_=>decide
    |2,_=>exact(G h).elim
    |3,_=>decide
    |n+4,B=>exact absurd B (Nat.not_le.mpr (fj 4 n))
def Ph.fin(p:Ph):Ph:=bif Nat.beq p.st 5 then p.to 6 else p
def Sk.fin(z:Sk):Sk:=bif Nat.beq z.st 2 then#[3,z.m,z.c,z.o]else z
variable{x:Nat}
def Ph.xE(h:p.st=5):p.fin=p.to 6:=by unfold Ph.fin;rw[h];rfl
def Ph.hH(h:p.st≠5):p.fin=p:=by
 unfold Ph.fin;cases e:Nat.beq p.st 5 with
 |false=>rfl
 |true=>exact(h (gw e)).elim
def kM{P:Ph->Prop}(u:p.st=5->P (p.to 6))(h:p.st≠5->P p):P p.fin:=by
 by_cases e:p.st=5
 .rw[Ph.xE e];exact u e
 .rw[Ph.hH e];exact h e
def Sk.tS(h:z.st=2):z.fin=#[3,z.m,z.c,z.o]:=by unfold Sk.fin;rw[h];rfl
def Sk.hH(h:z.st≠2):z.fin=z:=by
 unfold Sk.fin;cases e:Nat.beq z.st 2 with
 |false=>rfl
 |true=>exact(h (gw e)).elim
def jR:∀m,(code m=250↔m=5)/\code m≠247/\code m≠50/\code m≠142
 |0=>by decide
 |1=>by decide
 |2=>by decide
 |3=>by decide
 |4=>by decide
 |5=>by decide
 |n+6=>#[#[λe=>absurd (show 251=250 from e) (by decide),λe=>absurd (Nat.succ.inj (Nat.succ.inj (Nat.succ.inj (Nat.succ.inj (Nat.succ.inj e))))) (Nat.succ_ne_zero n)],(by decide:251≠247),(by decide:251≠50),(by decide:251≠142)]
def jQ:∀m,fM m≠250/\(fM m=247↔m=2)/\fM m≠50/\fM m≠142
 |0=>by decide
 |1=>by decide
 |2=>by decide
 |n+3=>#[(by decide:251≠250),#[λe=>absurd (show 251=247 from e) (by decide),λe=>absurd (Nat.succ.inj (Nat.succ.inj e)) (Nat.succ_ne_zero n)],(by decide:251≠50),(by decide:251≠142)]
def oV{f:TR->Bool}{g:TR->TR}{tk:Nat->TR}(h:f (tk x)=false):bd f g tk n x=tk x:=by unfold bd;rw[h];split<;>rfl
def wC{f:TR->Bool}{g:TR->TR}{tk:Nat->TR}(h:x<n)(hf:f (tk x)=true):bd f g tk n x=g (tk x):=by unfold bd;rw[al h,hf];rfl
def wa(hx:x<I.N):bF ph sk x=cV x (ph x):=lp hx
def wc:bF ph sk (I.N+k)=fV k (sk k):=lq
def Ze(hx:x<I.N)(u:I.N<=n):bd bH toD (bF ph sk) n x=cV x (ph x).fin:=by
 have e:bF ph sk x=cV x (ph x):=lp hx;by_cases h:(ph x).st=5
 .rw[wC (bU hx u) (by rw[e];exact dX ((jR _).1.mpr h)),e,Ph.xE h];unfold cV wk lK fp toD;rw[h];rfl
 .rw[oV (by rw[e];exact gz λz=>h ((jR _).1.mp z)),e,Ph.hH h]
def LR(u:I.N<=n):bd bH toD (bF ph sk) n=bF (λx=>(ph x).fin) sk:=funext λx=>by
 by_cases h:x<I.N
 .exact(Ze h u).trans (wa (ph:=λx=>(ph x).fin) h).symm
 .obtain⟨k,rfl⟩:=Nat.le.dest (Nat.not_lt.mp h);have e:bF ph sk (I.N+k)=fV k (sk k):=lq;rw[oV (by rw[e];exact gz (jQ _).1),e];exact wc.symm
def iR(sk:Nat->Sk):Nat->Sk:=λk=>if k<I.N then(sk k).fin else sk k
def LS(u:∀x,x<I.N->(ph x).st≠5):bd bH toD (bd cQ toC (bF ph sk) (I.N+I.N)) (I.N+I.N)=bF ph (iR sk):=funext λx=>by
 by_cases G:x<I.N
 .have e:bF ph sk x=cV x (ph x):=lp G;have d:bd cQ toC (bF ph sk) (I.N+I.N) x=cV x (ph x):=(oV (by rw[e];exact gz (jR _).2.1)).trans e;exact(oV (by rw[d];exact gz λz=>u x G ((jR _).1.mp z))).trans (d.trans (wa G).symm)
 .obtain⟨k,rfl⟩:=Nat.le.dest (Nat.not_lt.mp G);have e:bF ph sk (I.N+k)=fV k (sk k):=lq;refine dM ?_ wc.symm;unfold iR;by_cases hk:k<I.N
  .rw[al hk];by_cases y:(sk k).st=2
   .have D:=Nat.add_lt_add_left hk I.N;have d:bd cQ toC (bF ph sk) (I.N+I.N) (I.N+k)=toC (fV k (sk k)):=(wC D (by rw[e];exact dX ((jQ _).2.1.mpr y))).trans (aq toC e);rw[wC D (by rw[d];rfl),d,Sk.tS y];unfold fV toC toD;rw[y];rfl
   .have d:bd cQ toC (bF ph sk) (I.N+I.N) (I.N+k)=fV k (sk k):=(oV (by rw[e];exact gz λz=>y ((jQ _).2.1.mp z))).trans e;rw[oV (by rw[d];exact gz (jQ _).1),d,Sk.hH y]
  .have D:¬I.N+k<I.N+I.N:=λh=>hk (Nat.lt_of_add_lt_add_left h);rw[ak hk];exact(ak D).trans ((ak D).trans e)
def LQ:kv (iR sk)=kv sk:=aq (ij I.N _) (funext λk=>by
 unfold iR;by_cases hk:k<I.N
 .rw[al hk];by_cases h:(sk k).st=2
  .rw[Sk.tS h];unfold iX;rw[h];rfl
  .rw[Sk.hH h]
 .rw[ak hk])
def PT(p:Ph):p.fin.cn=p.cn:=kM (P:=λr=>r.cn=p.cn) (λU=>rfl) λU=>rfl
def Bi(f:Nat->Ph->af)(h:∀i p,p.st=5->f i (p.to 6)=f i p):(λi=>f i (ph i).fin)=λi=>f i (ph i):=funext λi=>kM (P:=λr=>f i r=f i (ph i)) (h i _) λU=>rfl
def xH(u:a≠6)(h:p.fin.st=a):p.st=a/\p.fin=p:=by
 by_cases e:p.st=5
 .rw[Ph.xE e]at h;exact(u h.symm).elim
 .rw[Ph.hH e]at h⊢;exact#[h,rfl]
def W.fin(w:W s D)(B:KP K' (D.nT+D.nC) D.nL)(tk:O=bF (λx=>(s.ph x).fin) u)(sv:kv u=kv s.sk)(met:fG (λx=>(s.ph x).fin) u)(J:eE (λx=>(s.ph x).fin) s.hd u):
 W #[λx=>(s.ph x).fin,s.hd,s.q,u,s.now] {D with K:=K',tk:=O}where
 con:=w.con
 K:=B
 tk:=tk
 sv:=w.sv.trans sv.symm
 st:=w.st.trans (Bi (on) λU U U=>rfl).symm
 dl:=w.dl.trans (Bi (nc) λU U U=>rfl).symm
 mn:=w.mn.trans (Bi (k9) λi p h=>by unfold k9;rw[h];rfl).symm
 aC:=w.aC
 now:=w.now
 ce i d h:=by
  show(s.ph i).fin.cn<D.nC/\dD (D.cl (s.ph i).fin.cn)=jd i (s.ph i).fin.pos;rcases h with h|h
  .have e:=xH (by decide) h;rw[e.2];exact w.ce i d (.inl e.1)
  .have e:=xH (by decide) h;rw[e.2];exact w.ce i d (.inr e.1)
 num:=w.num
 b9:=(jB λU U x U=>PT (s.ph x):bS s.ph s.q=_)▸w.b9
 hold k hk i:=kM (P:=λr=>s.hd k=some i↔i<I.N/\bO i r k) (λh=>(w.hold k hk i).trans (and_congr Iff.rfl (jq (by rw[h];exact#[rfl,rfl]) k).symm)) λU=>w.hold k hk i
 qp k hk:=#[(w.qp k hk).1,λi=>kM (P:=λr=>i∈s.q k↔i<I.N/\r.st=2/\aF i r.pos=k) (λh=>((w.qp k hk).2 i).trans #[λz=>absurd (h.symm.trans z.2.1) (by decide),λz=>absurd z.2.1 (by show 6≠2;decide)]) λU=>(w.qp k hk).2 i]
 met:=met
 sk:=J
def fG.fin(M:fG ph sk):fG (λx=>(ph x).fin) sk:=#[λi d h=>by
 have e:=xH (by decide) h;rw[e.2];exact M.a i d e.1,λk hk h=>by
 have m:=M.b k hk h;rw[Ph.hH (by rw[m.2.1];decide)];exact m]
def eE.fin(S:eE ph hd sk):eE (λx=>(ph x).fin) hd sk:=#[S.o,S.z,λk hk h i d=>by
 have e:=S.e k hk h i d;rw[Ph.hH (by rw[e];decide)];exact e,S.l,S.b]
def jG.fin(L:jG ph now):jG (λx=>(ph x).fin) now:=λi d=>kM (P:=λr=>cq i r now) (λh=>by
 have ae:=L i d;have ok:=ae.ok;rw[h]at ok;have o:=lg ok;exact ae.to (by rw[o.2.1];rcases o.2.2 with e|e<;>rw[e]<;>rfl) (by rcases o.2.2 with e|e<;>rw[e]<;>trivial)) λU=>L i d
def sF{f g:Nat->Nat}(h:∀x,f x<=g x):∀n,sm f n<=sm g n
 |0=>bG _
 |n+1=>Nat.add_le_add (sF h n) (h n)
def KN:wt i p.fin<=wt i p:=kM (P:=λr=>wt i r<=wt i p) (λU=>cD _) λU=>bG _
def W.at(w:W s D)(i:Nat):(i<I.N/\D.tk i=cV i (s.ph i))\/∃k,i=I.N+k/\D.tk i=fV k (s.sk k):=by
 by_cases h:i<I.N
 .exact .inl #[h,w.ti h]
 .obtain⟨k,rfl⟩:=Nat.le.dest (Nat.not_lt.mp h);exact .inr #[k,rfl,w.ts k]
def W.vb(w:W s D):I.N<=D.nT/\D.nT<=I.N+I.N:=by
 obtain e:D.nT=if I.srv then I.N+I.N else I.N:=w.con.nT
 rw[e];split
 .exact#[dL _ _,bG _]
 .exact#[bG _,dL _ _]
def W.kN(w:W s D)(h:I.N+k<D.nT):I.srv=true/\k<I.N:=by
 have e:D.nT=if I.srv then I.N+I.N else I.N:=w.con.nT
 cases d:I.srv with
 |false=>rw[e,d]at h;exact absurd h (Nat.not_lt.mpr (dL _ _))
 |true=>exact#[rfl,Nat.lt_of_add_lt_add_left (bU h w.vb.2)]
def W.TS(aa:bn I)(w:W s D):TS I.f D where
 aY:=w.con.aY
 bC:=w.con.bC
 n:=bk w.vb.2 (bk (Nat.add_le_add aa.n4 aa.n4) (by decide))
 fQ:=w.K.aY
 nW:=w.K.l9
 j6:=w.K.iA
 k8:=aq MR.bC w.con.M
 st i _:=by rcases w.at i with⟨_,e⟩|⟨k,_,e⟩<;>rw[e]<;>rfl
 lv i _:=by
  rcases w.at i with⟨_,e⟩|⟨k,_,e⟩<;>rw[e]
  .exact(jR _).2.2.1
  .exact(jQ _).2.2.1
 op i _ h:=by
  rcases w.at i with⟨_,e⟩|⟨k,_,e⟩<;>rw[e]at h⊢
  .exact((jR _).2.1 h).elim
  .have d:=(jQ _).2.1.mp h;refine#[(s.sk k).o,?_];unfold fV pY;rw[d];rfl
def Df:∀m,(code m=251\/code m=247\/code m=250)↔5<=m
 |0=>by decide
 |1=>by decide
 |2=>by decide
 |3=>by decide
 |4=>by decide
 |5=>by decide
 |n+6=>#[λU=>fj 5 (n+1),λU=>.inl rfl]
def De:∀m,(fM m=251\/fM m=247\/fM m=250)↔2<=m
 |0=>by decide
 |1=>by decide
 |2=>by decide
 |n+3=>#[λU=>fj 2 (n+1),λU=>.inl rfl]
def W.dN(w:W s D):Internal.dN D.tk D.nT↔(∀i,i<I.N->5<=(s.ph i).st)/\(I.srv=true->∀k,k<I.N->2<=(s.sk k).st):=by
 rw[qS];refine#[λh=>#[λi d=> ?_,λx k hk=> ?_],λh i d=> ?_]
 .have:=h i (w.iT d);rw[w.ti d]at this;exact(Df _).mp this
 .have:=h _ (w.sT x hk);rw[w.ts k]at this;exact(De _).mp this
 .rcases w.at i with⟨B,e⟩|⟨k,rfl,e⟩<;>rw[e]
  .exact(Df _).mpr (h.1 i B)
  .have:=w.kN d;exact(De _).mpr (h.2 this.1 k this.2)
structure oF(s:Bs)(D:Fs)(s':Bs)(aj:Fs):Prop where
 w:W s' aj
 g:Gd s'
 now:s'.now=s.now
 hd:s'.hd=s.hd
 ph:s'.ph=λx=>(s.ph x).fin
 mu:mu s'<=mu s
 fr:aj.steps=D.steps/\aj.K.choose=D.K.choose/\aj.o=D.o/\aj.zs=D.zs
 all:I.srv=true->(∀i,i<I.N->(s'.ph i).st=6)->(∀k,k<I.N->2<=(s'.sk k).st)->∀k,k<I.N->(s'.sk k).st=3
def Ya(aa:bn I)(w:W s D)(ah:Gd s)(q:∀s' aj j',j.le j'->oF s D s' aj->Q .none (hp I.f aj j')):wG (n+5) (.fn 58) [.ref #[I.f,6,0]] (hp I.f D j) Q X:=by
 have hA:=w.dN;obtain hn:=w.vb;obtain⟨x0,zh⟩:=w.K.set;have O:∀a:Int,KP {D.K with settled:=.int a} (D.nT+D.nC) D.nL:=λa=>#[w.K.iA,w.K.aY,w.K.l9,w.K.num,#[_,rfl],w.K.dR];have hT:=w.tk▸LR (ph:=s.ph) (sk:=s.sk) hn.1;refine Yb (E:=I.srv) (w.TS aa) (aq MR.ended w.con.M) zh (λd i G h a=> ?_) (λh a=> ?_) λd a b j' hj=> ?_
 .rcases w.at i with⟨_,e⟩|⟨k,rfl,e⟩<;>rw[e]at h
  .exact((jR _).2.1 h).elim
  .have hk:=(w.kN G).2;have y:=(jQ _).2.1.mp h;refine#[w.b9.nil ?_,aq TR.bP e,aq TR.cK e,(w.J4 k).trans (by unfold iX;rw[y];rfl)];rw[mr d,kb hk];cases B:s.q k with
   |nil=>rfl
   |cons x r=>have m:=((w.qp k hk).2 x).mp (by rw[B];exact .head _);exact absurd ((hA.mp a).1 x m.1) (by rw[m.2.1];decide)
 .refine q #[λx=>(s.ph x).fin,s.hd,s.q,s.sk,s.now] _ j j.le_rfl #[w.fin (O a) hT rfl w.met.fin w.sk.fin,#[ah.loc.fin,ah.free],rfl,rfl,rfl,Nat.add_le_add_right (sF (λx=>KN) _) _,#[rfl,rfl,rfl,rfl],λd h5 y k hk=> ?_];rcases h with h|h|h
  .exact nomatch d.symm.trans h
  .exact(h (hA.mpr #[λi G=>kM (p:=s.ph i) (P:=λr=>r.st=6->5<=(s.ph i).st) (λe U=>by rw[e];exact bG 5) (λU e=>by rw[e];decide) (h5 i G),λU=>y])).elim
  .have h:=h _ (w.sT d hk);rw[w.ts k]at h;have y:=y k hk;exact iz (w.sk.l k) (Nat.lt_of_le_of_ne y λe=>h ((jQ _).2.1.mpr e.symm))
 .have B:=hA.mp a;obtain y:=B.2 d;obtain e:D.nT=I.N+I.N:=by have:=w.con.nT;rw[d]at this;exact this
  have JY:∀k,k<I.N->((s.sk k).fin).st=3:=λk hk=>by
   by_cases h:(s.sk k).st=2
   .rw[Sk.tS h]
   .rw[Sk.hH h];exact iz (w.sk.l k) (Nat.lt_of_le_of_ne (y k hk) (Ne.symm h))
  have u:∀k,k<I.N->(iR s.sk k).st=3:=λk hk=>by unfold iR;rw[al hk];exact JY k hk
  have J:∀i,i<I.N->((s.ph i).fin).st=6:=λi G=>kM (P:=λr=>r.st=6) (λU=>rfl) λh=>by
   have ok:=(ah.loc i G).ok;obtain⟨m,hm⟩:=Nat.le.dest (B.1 i G);rw[←hm,Nat.add_comm]at ok h⊢;have:=(lg ok).1;match m,this with
   |0,_=>exact(h rfl).elim
   |1,_=>rfl
   |m+2,h=>exact absurd h (Nat.not_le.mpr (fj 2 m))
  obtain ho:∀z:Sk,z.fin.o=z.o:=λz=>by
   by_cases h:z.st=2
   .rw[Sk.tS h]
   .rw[Sk.hH h]
  refine q #[λx=>(s.ph x).fin,s.hd,s.q,iR s.sk,s.now] _ j' hj #[w.fin (O b) ?_ LQ #[λi G h=> ?_,λk hk h=> ?_] #[λU k hk=> ?_,λk hk h=> ?_,λk hk U=>J,λk=> ?_,λh=>(nomatch(d.symm.trans h))],#[ah.loc.fin,λk hk U h=> ?_],rfl,rfl,rfl,Nat.add_le_add (sF (λx=>KN) _) (sF (λk=> ?_) _),#[rfl,rfl,rfl,rfl],λU U U=>u]
  .rw[hT,e];exact LS λx hx h=>absurd ((J x hx).symm.trans h) (by decide)
  .exact absurd ((J i G).symm.trans h) (by decide)
  .exact absurd ((u k hk).symm.trans h) (by decide)
  .exact dM (by unfold iR;rw[al hk,ho]) (w.sk.o d k hk)
  .exact absurd ((u k hk).symm.trans h) (by decide)
  .by_cases hk:k<I.N
   .exact Nat.le_of_eq (u k hk)
   .show(iR s.sk k).st<=3;unfold iR;rw[ak hk];exact w.sk.l k
  .exact absurd ((u k hk).symm.trans h) (by decide)
  .show sw (iR s.sk k)<=sw (s.sk k);unfold iR;by_cases hk:k<I.N
   .rw[al hk];have:sw (s.sk k).fin=0:=by unfold sw;rw[JY k hk];rfl
    rw[this];exact cD _
   .rw[ak hk];exact bG _
def CL(h:x≠i):Nat.beq x i=false:=by
 cases e:Nat.beq x i with
 |false=>rfl
 |true=>exact(h (gw e)).elim
def Jl(m:Nat)(cn:Nat->Nat)(i:Nat):∀L:List Nat,(∀x∈L,cn x=cn i->x=i)->restOf (λc=>((m+c+1:Nat):Int)) (cn i) (L.map cn)=(L.filter λx=> !Nat.beq x i).map cn
 |[],_=>rfl
 |x::L,h=>by
  have d:=Jl m cn i L λy D=>h y (.tail _ D);unfold restOf at d⊢;by_cases e:x=i
  .rw[List.map_cons,List.filter_cons_of_neg (by rw[e];simp),List.filter_cons_of_neg (by rw[e,Nat.beq_refl];decide),d]
  .have z:¬((m+cn x+1:Nat):Int)=((m+cn i+1:Nat):Int):=λh'=>e (h x (.head _) (Nat.add_left_cancel (Nat.succ.inj (Int.ofNat.inj h'))));have hb:Nat.beq x i=false:=CL e;rw[List.map_cons,List.filter_cons_of_pos (by exact dX z),List.filter_cons_of_pos (by rw[hb];rfl),d,List.map_cons]
def dg.UD(H:dg ph q)(hk:k<I.N)(B:i∈q k)(u:p.st≠2):dg (uF ph i p) (uF q k ((q k).filter λx=> !Nat.beq x i)):=λy h=>by
 have m:=((H k hk).2 i).mp B;by_cases e:y=k
 .subst e;rw[aD];refine#[(H y h).1.sublist List.filter_sublist,bT (P:=λx (z:Ph)=>x∈(q y).filter (λx=> !Nat.beq x i)↔x<I.N/\z.st=2/\aF x z.pos=y) #[λz=> ?_,λz=>(u z.2.1).elim] λx d=> ?_]
  .have:=(fZ.mp z).2;rw[Nat.beq_refl]at this;exact nomatch this
  .rw[←(H y h).2 x,fZ];exact#[And.left,λz=>#[z,by rw[CL d];rfl]]
 .rw[aO _ _ _ _ e];exact#[(H y h).1,bT (P:=λx (z:Ph)=>x∈q y↔x<I.N/\z.st=2/\aF x z.pos=y) #[λz=>(e ((((H y h).2 i).mp z).2.2.symm.trans m.2.2)).elim,λz=>(u z.2.1).elim] λx U=>(H y h).2 x]
def W.ZT(w:W s D)(hi:i<I.N)(u:(s.ph i).st=4)(hp:(s.ph i).pos=2\/(s.ph i).pos=4):
 W #[uF s.ph i ((s.ph i).to 0),s.hd,s.q,s.sk,s.now] {D with tk:=uF D.tk i {D.tk i with state:=.str 173,bu:=.fz [],wake:=.none,answer:=.none}}:=by
 refine w.sI (by rw[u];rfl) w.K (w.ce.off #[(by decide:0≠2),(by decide:0≠3)]) w.num ?_ w.sv w.aC ((jB (w.qp.cn (p:=(s.ph i).to 0) (by rw[u];decide)):bS s.ph s.q=_)▸w.b9) (w.hold.upd (jq (by rw[u];rcases hp with e|e<;>show hA 0 (s.ph i).pos=_/\hB 0 (s.ph i).pos=_<;>rw[e]<;>exact#[rfl,rfl]))) (w.qp.upd (by rw[u];decide) (by decide:0≠2)) (w.met.upd (by rw[u];decide) (by decide:0≠3)) (w.sk.upd hi (by rw[u];decide));rw[w.ti hi,w.tk];refine dM (aq (uF (bF s.ph s.sk) i) ?_) (gV (p:=(s.ph i).to 0) hi);have e:fp i ((s.ph i).to 0)=.none:=by show(bif (Nat.beq 0 0||Nat.ble 5 0)&&(Nat.beq (s.ph i).pos 1||Nat.beq (s.ph i).pos 3||I.srv&&Nat.ble 5 (s.ph i).pos)then V.tup [.str 78]else .none)=.none;rcases hp with e|e<;>rw[e]<;>cases I.srv<;>rfl
 unfold cV;rw[e];unfold lK;rw[u];rfl
def NI(w:W s D)(L:∀x,x∈s.q k->(s.ph x).pos=1\/(s.ph x).pos=3)(hk:k<I.N)(hi:i∈s.q k)(hx:x∈s.q k)(e:(s.ph x).cn=(s.ph i).cn):x=i:=by have m:=((w.qp k hk).2 i).mp hi;have d:=((w.qp k hk).2 x).mp hx;have a:=(w.ce i m.1 (.inl m.2.1)).2;have b:=(w.ce x d.1 (.inl d.2.1)).2;rw[e,a,m4 (L x hx),m4 (L i hi)]at b;exact(aq (λz:V×V×V×V=>match z.1 with|.ref a=>a.i|_=>0) b).symm
def W.ZS(w:W s D)(L:∀x,x∈s.q k->(s.ph x).pos=1\/(s.ph x).pos=3)(hk:k<I.N)(u:i∈s.q k)(hp:I.aV i=.int v){rc:CR}(J:dD rc=dD (D.cl (s.ph i).cn)/\rc.number=(D.cl (s.ph i).cn).number)
 (B:Qs I.f db ef O (uF (bS s.ph s.q) (th k) (restOf (λc=>((D.nT+c+1:Nat):Int)) (s.ph i).cn (bS s.ph s.q (th k))))):
 W #[uF s.ph i ((s.ph i).to 1),s.hd,uF s.q k ((s.q k).filter λx=> !Nat.beq x i),s.sk,s.now] {D with tq:=db,ql:=ef,nQ:=O,cl:=uF D.cl (s.ph i).cn rc,tk:=uF D.tk i {D.tk i with call:=.none,state:=.str 173,bu:=.fz [],wake:=.none,answer:=.tup [.str 66]}}:=by
 have m:=((w.qp k hk).2 i).mp u;have h:=m.2.1;have d:=io.upd (cl:=D.cl) (s.ph i).cn J;refine w.sI (by rw[h];rfl) w.K ((w.ce.sc d).off #[(by decide:1≠2),(by decide:1≠3)]) (w.num.sc d) ?_ w.sv w.aC ?_ (w.hold.upd (jq (by rw[h];exact#[rfl,rfl]))) (w.qp.UD hk u (by decide:1≠2)) (w.met.upd (by rw[h];decide) (by decide:1≠3)) (w.sk.upd m.1 (by rw[h];decide))
 .rw[w.ti m.1,w.tk];refine dM (aq (uF (bF s.ph s.sk) i) ?_) (gV (p:=(s.ph i).to 1) m.1);have e:fp i ((s.ph i).to 1)=.tup [.str 66]:=by show(match I.aV i with|.bB=>V.tup [.str 92]|_=>.tup [.str 66])=_;rw[hp]
  unfold cV;rw[e];rfl
 .rw[kb hk,Jl D.nT (λx=>(s.ph x).cn) i (s.q k) λx G e=>NI w L hk u G e]at B;have:=vu (ph':=uF s.ph i ((s.ph i).to 1)) (ph:=s.ph) (q:=s.q) hk (r:=(s.q k).filter λx=> !Nat.beq x i) (l:=((s.q k).filter λx=> !Nat.beq x i).map λy=>(s.ph y).cn) (jb λy U=>m8 s.ph i 1 y) λy U U z U=>m8 s.ph i 1 z;exact this▸B
def eF(t:Int)(x:Nat)(p:Ph):Bool:=Nat.blt x I.N&&(match wk x p with|.int w=>decide (w<=t)|_=>false)
def wb(p:Ph):Nat:=bif Nat.beq p.st 4 then 0 else 1
def de(t:Int)(m:Nat)(ph:Nat->Ph):Nat->Ph:=λx=>bif Nat.blt x m&&eF t x (ph x)then(ph x).to (wb (ph x))else ph x
section
variable{n m:Nat}{s s':Bs}{D:Fs}{i k x:Nat}{t:Int}{j:Jk}{Q X:QV}{p:Ph}{now:Int}{ph:Nat->Ph}{hd:k27}{q:k30}{sk:Nat->Sk}{z:Sk}
def kD(h:a<b):Nat.blt a b=true:=Nat.ble_eq_true_of_le h
def qT(h:¬a<b):Nat.blt a b=false:=by
 cases e:Nat.blt a b with
 |false=>rfl
 |true=>exact(h (gW e)).elim
def KI:de t m ph m=ph m:=by unfold de;rw[qT (fK m)];rfl
def ZV:de t 0 ph=ph:=funext λx=>by unfold de;rw[qT (Nat.not_lt_zero x)];rfl
def KJ(h:y≠m):de t (m+1) ph y=de t m ph y:=by
 unfold de;by_cases e:y<m
 .rw[kD e,kD (Nat.lt_succ_of_lt e)]
 .rw[qT e,qT λh'=>e (Nat.lt_of_le_of_ne (Nat.le_of_lt_succ h') h)]
def ZZ(h:eF t m (ph m)=true):de t (m+1) ph=uF (de t m ph) m ((ph m).to (wb (ph m))):=funext λy=>by
 by_cases e:y=m
 .rw[e,aD];unfold de;rw[kD (bA m),h];rfl
 .rw[aO _ _ _ _ e,KJ e]
def ZY(h:eF t m (ph m)=false):de t (m+1) ph=de t m ph:=funext λy=>by
 by_cases e:y=m
 .rw[e,KI];unfold de;rw[h,Bool.and_false];rfl
 .exact KJ e
def vO(e:I.N<=m)(hx:x<I.N):de t m ph x=bif eF t x (ph x)then(ph x).to (wb (ph x))else ph x:=by unfold de;rw[kD (bU hx e),Bool.true_and]
def vP(x:Nat)(p:Ph):wk x p=.none\/∃w,wk x p=.int w:=by
 unfold wk;by_cases h:p.st=4
 .rw[al h];exact .inr #[_,rfl]
 .rw[ak h];by_cases h:p.st=2/\p.pos=3
  .rw[al h];cases I.aV x with
   |int w=>exact .inr #[_,rfl]
   |none=>exact .inl rfl
   |bB=>exact .inl rfl
  .rw[ak h];exact .inl rfl
def tM(h:eF t x p=true):x<I.N/\∃w,wk x p=.int w/\w<=t:=by
 have h:=iy.mp h;refine#[gW h.1,?_];rcases vP x p with e|⟨w,e⟩
 .have:=h.2;rw[e]at this;exact nomatch this
 .have:=h.2;rw[e]at this;exact#[w,e,aP this]
def xq(hx:x<I.N)(h:eF t x p=false):wk x p=.none\/∃w,wk x p=.int w/\t<w:=by
 unfold eF at h;rw[kD hx,Bool.true_and]at h;rcases vP x p with e|⟨w,e⟩
 .exact .inl e
 .rw[e]at h;exact .inr #[w,e,Int.not_le.mp (of_decide_eq_false h)]
def sP(ae:cq x p now)(h:wk x p=.int w):(p.st=4/\((p.pos=2/\w=p.bb+I.rest x)\/(p.pos=4/\w=p.bb+I.bI x))/\now<w)\/(p.st=2/\p.pos=3/\∃v,I.aV x=.int v/\w=p.bb+v/\now<w):=by
 unfold wk at h;have ok:=ae.ok;have tm:=ae.tm;by_cases z:p.st=4
 .rw[al z]at h;rw[z]at ok tm;rcases Ij ok with e|e<;>rw[e]at tm h
  .have d:p.bb+I.rest x=w:=V.int.inj h;exact .inl #[z,.inl #[e,d.symm],d▸tm]
  .have d:p.bb+I.bI x=w:=V.int.inj h;exact .inl #[z,.inr #[e,d.symm],d▸tm]
 .rw[ak z]at h;by_cases y:p.st=2/\p.pos=3
  .rw[al y]at h;rw[y.1,y.2]at tm;have tm:match I.aV x with|.none=>2≠1|.bB=>2≠2/\now=p.bb|.int w=>if 2=1 then now=p.bb+w else now<p.bb+w:=tm
   cases hp:I.aV x with
   |none=>rw[hp]at h;exact nomatch h
   |bB=>rw[hp]at h;exact nomatch h
   |int v=>rw[hp]at h tm;have d:p.bb+v=w:=V.int.inj h;exact .inr #[y.1,y.2,v,rfl,d.symm,d▸tm]
  .rw[ak y]at h;exact nomatch h
def W.eX(w:W s D)(t:Int):W #[s.ph,s.hd,s.q,s.sk,t] {D with now:=t}:=#[w.con,w.K,w.tk,w.sv,w.st,w.dl,w.mn,w.aC,rfl,w.ce,w.num,w.b9,w.hold,w.qp,w.met,w.sk]
def W.ls(w:W s D)(ls:Nat->List V):W s {D with ls:=ls}:=#[w.con,w.K,w.tk,w.sv,w.st,w.dl,w.mn,w.aC,w.now,w.ce,w.num,w.b9,w.hold,w.qp,w.met,w.sk]
structure mQ(s:Bs)(t:Int)(s':Bs):Prop where
 ph:s'.ph=de t I.N s.ph
 hd:s'.hd=s.hd
 sk:s'.sk=s.sk
 now:s'.now=t
 ex:∃i,i<I.N/\wk i (s.ph i)=.int t
def mQ.gd(w:W s D)(w':W s' aj)(ah:Gd s)(K:mQ s t s')(ht:s.now<t)(yg:∀i,i<I.N->(s.ph i).st=2\/(s.ph i).st=4\/(s.ph i).st=6)(yQ:∀i,i<I.N->∀w,wk i (s.ph i)=.int w->t<=w):Gd s':=by
 refine#[λi G=> ?_,λk hk O P=> ?_]
 .have ae:=ah.loc i G;have Q:=Int.le_trans ae.bb (Int.le_of_lt ht);rw[K.ph,K.now,vO (bG _) G];cases hd:eF t i (s.ph i)with
  |true=>
   obtain⟨_,w,d,nD⟩:=tM hd;have e:=Int.le_antisymm (yQ i G w d) nD;rcases sP ae d with⟨h4,hp,_⟩|⟨P,hp,v,hv,u,_⟩
   .have B:wb (s.ph i)=0:=by unfold wb;rw[h4];rfl
    rw[cond_true,B];rcases hp with⟨hp,u⟩|⟨hp,u⟩
    .exact#[by show ed 0 (s.ph i).pos _=true;rw[hp];rfl,Q,by show iu i (s.ph i).pos 0 _ _;rw[hp];exact e.trans u,by exact ae.cnt,ae.nK]
    .exact#[by show ed 0 (s.ph i).pos _=true;rw[hp];rfl,Q,by show iu i (s.ph i).pos 0 _ _;rw[hp];exact e.trans u,by exact ae.cnt,ae.nK]
   .have B:wb (s.ph i)=1:=by unfold wb;rw[P];rfl
    rw[cond_true,B];refine#[by show ed 1 (s.ph i).pos _=true;rw[hp];rfl,Q,?_,by exact ae.cnt,ae.nK];show iu i (s.ph i).pos 1 _ _;rw[hp];show match I.aV i with|.none=>1≠1|.bB=>1≠2/\t=(s.ph i).bb|.int w=>if 1=1 then t=(s.ph i).bb+w else t<(s.ph i).bb+w
    rw[hv];exact e.trans u
  |false=>
   rw[cond_false];have tm:=ae.tm;have ok:=ae.ok;refine#[ok,Q,?_,ae.cnt,ae.nK];rcases yg i G with h|h|h<;>rw[h]at ok tm⊢
   .rcases pV ok with e|e<;>rw[e]at tm⊢
    .trivial
    .have tm:match I.aV i with|.none=>2≠1|.bB=>2≠2/\s.now=(s.ph i).bb|.int w=>if 2=1 then s.now=(s.ph i).bb+w else s.now<(s.ph i).bb+w:=tm
     show match I.aV i with|.none=>2≠1|.bB=>2≠2/\t=(s.ph i).bb|.int w=>if 2=1 then t=(s.ph i).bb+w else t<(s.ph i).bb+w
     cases hp:I.aV i with
     |none=>exact(by decide:2≠1)
     |bB=>rw[hp]at tm;exact(tm.1 rfl).elim
     |int v=>
      show t<(s.ph i).bb+v;have d:wk i (s.ph i)=.int ((s.ph i).bb+v):=by unfold wk;rw[ak (by rw[h];decide),al #[h,e],hp]
      rcases xq G hd with z|⟨w,z,J⟩
      .exact nomatch d.symm.trans z
      .exact(V.int.inj (d.symm.trans z))▸J
   .have d:wk i (s.ph i)=.int ((s.ph i).bb+(if(s.ph i).pos=2 then I.rest i else I.bI i)):=al h;have bZ:t<(s.ph i).bb+(if(s.ph i).pos=2 then I.rest i else I.bI i):=by
     rcases xq G hd with z|⟨w,z,J⟩
     .exact nomatch d.symm.trans z
     .exact(V.int.inj (d.symm.trans z))▸J
    rcases Ij ok with e|e<;>rw[e]at bZ⊢ <;>exact bZ
   .rcases(lg ok).2.2 with e|e<;>rw[e]<;>trivial
 .rw[K.hd]at O;rw[K.sk]at P;have hq:=ah.free k hk O P;cases cG:s'.q k with
  |nil=>rfl
  |cons x r=>
   have m:=((w'.qp k hk).2 x).mp (by rw[cG];exact .head _);have e:s'.ph x=s.ph x:=by
    have y:=m.2.1;rw[K.ph,vO (bG _) m.1]at y⊢;cases hd:eF t x (s.ph x)with
    |false=>rfl
    |true=>rw[hd]at y;have y:wb (s.ph x)=2:=y;unfold wb at y;cases e:Nat.beq (s.ph x).st 4<;>rw[e]at y<;>exact nomatch y
   rw[e]at m;have:=((w.qp k hk).2 x).mpr m;rw[hq]at this;exact nomatch this
def KO(u:p.st=2\/p.st=4):wt i (p.to (wb p))<=wt i p:=by
 rcases u with h|h
 .have e:wb p=1:=by unfold wb;rw[h];rfl
  have:=sS (i:=i) (p:=p) (b:=1) (by rw[h];rfl) rfl;rw[h]at this;rw[e];exact Nat.le_of_add_le_add_right (b:=1) (bk (fL (by decide:1<=fe 2) _) (Nat.le_of_eq this))
 .have e:wb p=0:=by unfold wb;rw[h];rfl
  have:=sS (i:=i) (p:=p) (b:=0) (by rw[h];rfl) rfl;rw[h]at this;rw[e];exact Nat.le_of_add_le_add_right (b:=1) (bk (fL (by decide:1<=fe 4) _) (Nat.le_of_eq this))
end
section
variable{n m:Nat}{s s':Bs}{D aj:Fs}{i k x l:Nat}{t:Int}{j j':Jk}{Q X:QV}{p:Ph}{ph:Nat->Ph}
def ZW(h:(de t m ph x).st=2):de t m ph x=ph x:=by
 unfold de at h⊢;cases e:Nat.blt x m&&eF t x (ph x)with
 |false=>rfl
 |true=>rw[e]at h;have h:wb (ph x)=2:=h;unfold wb at h;cases e:Nat.beq (ph x).st 4<;>rw[e]at h<;>exact nomatch h
structure TI(s:Bs)(D:Fs)(j:Jk)(t:Int)(l k:Nat)(s':Bs)(aj:Fs)(j':Jk):Prop where
 w:W s' aj
 ph:s'.ph=de t k s.ph
 hd:s'.hd=s.hd
 sk:s'.sk=s.sk
 now:s'.now=t
 j:j.le j'
 nT:aj.nT=D.nT
 lo:aj.K.dR=.ref #[I.f,19,l]
 lN:l<aj.nL
 ll:(aj.ls l).length<=k
 fr:aj.steps=D.steps/\aj.K.choose=D.K.choose/\aj.o=D.o/\aj.zs=D.zs
def TI.at(h:TI s D j t l k s' aj j'):s'.ph k=s.ph k:=by rw[h.ph];exact KI
def Zz(aa:bn I)(ah:Gd s)(T:TI s D j t l k s' aj j')(hk:k<I.N)(yM:k<900)(hd:eF t k (s.ph k)=true):
 ∃x,(aj.tk k).state=.str x/\((x≠245/\∀Q X:QV,(∀s2 J e,TI s D j t l (k+1) s2 J e->Q .none (hp I.f J e))->wG (n+3) (.fn 29) [.ref #[I.f,2,k]] (hp I.f aj j') Q X)\/
  (x=245/\∃c a,(aj.tk k).call=.ref #[I.f,0,c]/\c<aj.nC/\(aj.cl c).target=.ref a/\∀Q X:QV,(∀s2 J e,TI s D j t l (k+1) s2 J e->Q .none (hp I.f J e))->wG (n+3) (.fn 29) [.ref #[I.f,2,k]] (hp I.f {aj with ls:=uF aj.ls l (aj.ls l++[.ref a])} j') Q X)):=by
 obtain⟨_,w,hw,_⟩:=tM hd;have ae:=ah.loc k hk;have y:=T.at;have P:=T.w.ti hk;have eT:=ZZ hd;rcases sP ae hw with⟨h4,hp,_⟩|⟨h2,h3,v,hv,_,_⟩
 .have eb:wb (s.ph k)=0:=by unfold wb;rw[h4];rfl
  rw[eb,←T.ph]at eT;refine#[248,?_,.inl #[by decide,λQ X q=> ?_]]
  .rw[P,y];show V.str (code (s.ph k).st)=_;rw[h4];rfl
  .refine ZB (n:=n+1) (T.w.iT hk) ?_ (q #[uF s'.ph k ((s'.ph k).to 0),s'.hd,s'.q,s'.sk,s'.now] _ _ #[T.w.ZT hk (by rw[y];exact h4) (by rw[y];exact hp.imp And.left And.left),?_,T.hd,T.sk,T.now,T.j,T.nT,T.lo,T.lN,Nat.le_succ_of_le T.ll,T.fr])
   .rw[P,y];show V.str (code (s.ph k).st)=_;rw[h4];rfl
   .show uF s'.ph k ((s'.ph k).to 0)=_;rw[y,eT]
 .have eb:wb (s.ph k)=1:=by unfold wb;rw[h2];rfl
  rw[eb,←T.ph]at eT;have jU:(s'.ph k).st=2:=by rw[y];exact h2
  have G:=lu aa hk (s'.ph k).pos;have hm:=((T.w.qp _ G).2 k).mpr #[hk,jU,rfl];have uv:∀x,x∈s'.q (aF k (s'.ph k).pos)->(s'.ph x).pos=1\/(s'.ph x).pos=3:=λx B=>by have m:=((T.w.qp _ G).2 x).mp B;have O:=m.2.1;rw[T.ph]at O⊢;have e3:=ZW O;rw[e3]at O⊢;have ok:=(ah.loc x m.1).ok;rw[O]at ok;exact pV ok
  have cl:∀x,x∈s'.q (aF k (s'.ph k).pos)->(s'.ph x).cn<aj.nC:=λx B=>by have m:=((T.w.qp _ G).2 x).mp B;exact(T.w.ce x m.1 (.inl m.2.1)).1
  have c:=T.w.ce k hk (.inl jU);have u:=c.2;rw[m4 (uv k hm)]at u;have hq:=kb (ph:=s'.ph) (q:=s'.q) G;refine#[245,?_,.inr #[rfl,(s'.ph k).cn,kp (aF k (s'.ph k).pos),?_,c.1,aq (λz=>z.2.1) u,λQ X q=> ?_]]
  .rw[P,y];show V.str (code (s.ph k).st)=_;rw[h2];rfl
  .rw[P];unfold cV lK;rw[jU];rfl
  .have w1:=T.w.ls (uF aj.ls l (aj.ls l++[.ref (kp (aF k (s'.ph k).pos))]));refine ZA (i:=k) (c:=(s'.ph k).cn) (t:=th (aF k (s'.ph k).pos)) (num:=λc=>((aj.nT+c+1:Nat):Int)) w1.b9 (w1.I9 G) c.1 (aq (λz=>z.2.2.1) u) (λh=> ?_) (λd hd=> ?_) T.w.num (el (rv T.w aa G) (by decide)) (aq (λz=>z.2.1) u) (w1.E6 G _) (T.w.iT hk) (aq (λz=>z.1) u) ?_ ?_ λe db ef eO hj cG=> ?_
   .rw[hq]at h;rw[List.map_eq_nil_iff.mp h]at hm;exact nomatch hm
   .rw[hq]at hd;obtain⟨x,B,rfl⟩:=bv.mp hd;exact cl x B
   .rw[P,y];show V.str (code (s.ph k).st)=_;rw[h2];rfl
   .rw[P];unfold cV lK;rw[jU];rfl
   .refine q #[uF s'.ph k ((s'.ph k).to 1),s'.hd,uF s'.q (aF k (s'.ph k).pos) ((s'.q (aF k (s'.ph k).pos)).filter λx=> !Nat.beq x k),s'.sk,s'.now] _ _ #[w1.ZS uv G hm hv #[rfl,rfl] cG,?_,T.hd,T.sk,T.now,Jk.le_trans T.j hj,T.nT,T.lo,T.lN,?_,T.fr]
    .show uF s'.ph k ((s'.ph k).to 1)=_;rw[y,eT]
    .show(uF aj.ls l _ l).length<=k+1;rw[aD,eV];exact Nat.succ_le_succ T.ll
def W.wk(w:W s D)(i:Nat):(i<I.N/\(D.tk i).wake=Internal.wk i (s.ph i))\/(¬i<I.N/\(D.tk i).wake=.none):=by
 rcases w.at i with⟨h,e⟩|⟨k,rfl,e⟩
 .exact .inl #[h,aq TR.wake e]
 .exact .inr #[Nat.not_lt.mpr (dL _ _),aq TR.wake e]
def W.vf(w:W s D)(i:Nat):(D.tk i).number=.int (i+1):=by
 rcases w.at i with⟨h,e⟩|⟨k,rfl,e⟩
 .exact aq TR.number e
 .exact aq TR.number e
def ZX(h:I.N<=N):de t N ph=de t I.N ph:=funext λx=>by
 unfold de;by_cases e:x<I.N
 .rw[kD e,kD (bU e h)]
 .have:eF t x (ph x)=false:=by unfold eF;rw[qT e];rfl
  rw[this,Bool.and_false,Bool.and_false]
def Oj{f:Nat}{v:V}(hv:v=.none\/∃w,v=.int w/\D.now<w)(q:Q (.bool false) (hp f D j)):wG (n+1) (.fn 11) [.ref #[f,1,0],v] (hp f D j) Q X:=by
 rcases hv with rfl|⟨w,rfl,h⟩
 .exact q8 (.inl rfl) q
 .refine q8 (.inr #[_,rfl]) ?_;show Q (.bool (decide (w<=D.now))) _;rw[gz (Int.not_le.mpr h)];exact q
def Zd(aa:bn I)(w:W s D)(ah:Gd s)(yg:∀i,i<I.N->(s.ph i).st=2\/(s.ph i).st=4\/(s.ph i).st=6)(kQ:D.K.dR=.ref #[I.f,19,l])(hl:l<D.nL)(rx:D.ls l=[])
 (qX:(∀i,i<I.N->wk i (s.ph i)=.none)->X (.fz (((List.range D.nT).filter λi=>decide (aE (D.tk i)≠251/\aE (D.tk i)≠142)).map λi:Nat=>V.int (i+1))) (hp I.f D j))
 (q:∀t s' aj j',j.le j'->s.now<t->W s' aj->Gd s'->mQ s t s'->(aj.steps=D.steps/\aj.K.choose=D.K.choose/\aj.o=D.o/\aj.zs=D.zs)->Q .none (hp I.f aj j')):
 wG (n+5) (.fn 63) [.ref #[I.f,6,0]] (hp I.f D j) Q X:=by
 have T:=w.TS aa;obtain yU:=w.vb;k_lt D1;have hn:(bD I.f D.nT).length<=1000:=by rw[fB];exact bk T.n (by decide)
 erw[T.fQ,T.aY,hn];refine kZ (λU=>true) (λi=>(D.tk i).wake) D.nT (by rw[iM,T.aY]) (λi d K q=> ?_) ?_
 .simp only[if_true]at q;erw[d];exact q
 .rw[List.filter_eq_self.mpr (by simp)];have uA:((List.range D.nT).map λi=>(D.tk i).wake).length<=1000:=by rw[be,cC];exact bk T.n (by decide)
  erw[uA];refine Vo uA (λv hv=> ?_) (λSE=> ?_) (λt ht yQ=> ?_)
  .obtain⟨i,d,rfl⟩:=bv.mp hv;rcases w.wk i with⟨_,e⟩|⟨_,e⟩<;>rw[e]
   .exact vP i _
   .exact .inl rfl
  .lk;refine KH T (λi U=>w.vf i) ?_;lk;refine KY (qX λi d=> ?_);have:=SE _ (bv.mpr #[i,ej.mpr (w.iT d),rfl]);rw[w.ti d]at this;exact this
  .obtain Sq:∀i,i<I.N->∀v,wk i (s.ph i)=.int v->t<=v:=λi d v hv=>yQ v (bv.mpr #[i,ej.mpr (w.iT d),by rw[w.ti d];exact hv]);have hex:∃i,i<I.N/\wk i (s.ph i)=.int t:=by
    obtain⟨i,d,B⟩:=bv.mp ht;rcases w.wk i with⟨h,e⟩|⟨_,e⟩<;>rw[e]at B
    .exact#[i,h,B]
    .exact nomatch B
   have bZ:s.now<t:=by
    obtain⟨i,h,B⟩:=hex;rcases sP (ah.loc i h) B with z|z
    .exact z.2.2
    .obtain⟨_,_,_,_,_,z⟩:=z;exact z
   erw[T.j6];refine U9 (by rw[w.now];exact Int.le_of_lt bZ) ?_;erw[T.fQ,T.aY,hn];refine fO (λxs l2 h=>∃k s' aj j',k<=D.nT/\xs=(bD I.f D.nT).drop k/\l2 93=some (.ref #[I.f,6,0])/\h=hp I.f aj j'/\TI s D j t l k s' aj j') (λxs l2 h i=> ?_) (λx xs l2 h i K q=> ?_) _ _ _
    #[0,#[s.ph,s.hd,s.q,s.sk,t],{D with now:=t},j,cD _,rfl,rfl,by simp only[T.aY],#[w.eX t,ZV.symm,rfl,rfl,rfl,j.le_rfl,rfl,kQ,hl,by show(D.ls l).length<=0;rw[rx];exact bG 0,rfl,rfl,rfl,rfl]] λl' h' i=> ?_
   .obtain⟨k,s',aj,j',_,_,_,rfl,ae⟩:=i;exact dh (lx (by rw[iM,(ae.w.TS aa).aY,ae.nT]))
   .obtain⟨k,s',aj,j',hk,J,y,rfl,ae⟩:=i;obtain⟨eH,rfl,rfl⟩:=Br J.symm;have lT:k<aj.nT:=by rw[ae.nT];exact eH
    have T':=ae.w.TS aa;have ur:aj.now=t:=ae.w.now.trans ae.now;have yM:k<900:=bU eH (bk T.n (by decide));have fin:∀(O:Bs) (u:Fs) (G:Jk) (l3:Lc),l3 93=some (.ref #[I.f,6,0])->TI s D j t l (k+1) O u G->K .next l3 (hp I.f u G):=λO u G l3 a1 a2=>q l3 _ #[k+1,O,u,G,eH,rfl,a1,rfl,a2];cases hd:eF t k (s.ph k)with
    |true=>
     obtain⟨F4,w',B,Tp⟩:=tM hd;obtain Tn:(aj.tk k).wake=.int w':=by rw[ae.w.ti F4,ae.at];exact B
     obtain rG:w'<=aj.now:=by rw[ur];exact Tp
     erw[lT,y,T'.j6,Tn];refine q8 (.inr #[_,rfl]) ?_;erw[rG,y];obtain⟨x,lX,nN⟩:=Zz (n:=n+1) aa ah ae F4 yM hd;rcases nN with⟨J,yh⟩|⟨J,c,a,hc,yu,rE,yh⟩
     .refine VB lT (x:=x) lX J ?_;erw[y];refine yh _ _ λO u G I2=> ?_;lk;exact fin O u G _ (by exact y) I2
     .refine VC lT (J▸lX) hc yu rE ae.lo ae.lN (el ae.ll (Nat.lt_trans yM (by decide))) ?_;erw[y];refine yh _ _ λO u G I2=> ?_;lk;exact fin O u G _ (by exact y) I2
    |false=>
     obtain I2:TI s D j t l (k+1) s' aj j':=#[ae.w,ae.ph.trans (ZY hd).symm,ae.hd,ae.sk,ae.now,ae.j,ae.nT,ae.lo,ae.lN,Nat.le_succ_of_le ae.ll,ae.fr];obtain zg:(aj.tk k).wake=.none\/∃w,(aj.tk k).wake=.int w/\t<w:=by
      rcases ae.w.wk k with⟨h,e⟩|⟨_,e⟩<;>rw[e]
      .rw[ae.at];exact xq h hd
      .exact .inl rfl
     erw[lT,y,T'.j6];refine Oj (zg.imp id λ#[w,h1,h2]=>#[w,h1,by rw[ur];exact h2]) ?_;lk;exact fin _ _ _ _ (by exact y) I2
   .obtain⟨k,s',aj,j',hk,J,y,rfl,ae⟩:=i;obtain yN:k=D.nT:=iz hk (Bt J.symm);obtain P:s'.ph=de t I.N s.ph:=by rw[ae.ph];exact ZX (yN▸yU.1)
    have K:mQ s t s':=#[P,ae.hd,ae.sk,ae.now,hex];lk;exact bt (q t s' aj j' ae.j bZ ae.w (K.gd w ae.w ah bZ yg Sq) K ae.fr)
end
def sq:Ss:=match tK.body with|.cons (.gT _ b) _=>b|r=>r
def Wr:tK.body=.cons (.gT .tt sq) .nil:=rfl
def Wq:sq=.cons (.ex (.call (.ba 162) (.cons (.loc 93) .nil))) (.cons (.gT (.eP (.call (.ba 171) (.cons (.loc 93) .nil)) (.call (.ba 172) (.cons (.loc 93) .nil))) (.cons (.ex (.call (.ba 162) (.cons (.loc 93) .nil))) .nil)) (.cons (.asg false 173 (.call (.ba 168) (.cons (.loc 93) .nil))) (.cons (.ite (.loc 173) (.cons (.ret (.call (.ba 175) (.cons (.loc 93) (.cons (.loc 173) .nil)))) .nil) .nil) (.cons (.ite (.cmp .eq (.call (.ba 169) (.cons (.loc 93) .nil)) (.lst true .nil)) (.cons (.ret .none) .nil) .nil) (.cons (.ex (.call (.ba 170) (.cons (.loc 93) .nil))) .nil))))):=rfl
structure NR(s:Bs):Prop where
 ph:∀i,i<I.N->(s.ph i).st=2\/(s.ph i).st=4\/(s.ph i).st=6
 sv:I.srv=true->∀k,k<I.N->2<=(s.sk k).st
structure oA(f:Nat)(W:V)(m:Nat)(D:Fs)(j:Jk):Prop where
 w:WL W m
 c:∃m1 m2,m1<j.n/\m2<j.n/\j.g m1=.live (.cell (some W))/\j.g m2=.live (.cell (some (.ref #[f,16,0])))/\D.K.choose=.clo 82 [(230,#[f+2,0,m1]),(134,#[f+2,0,m2])]
def oA.le{f W m D j aj j'}(h:oA f W m D j)(u:j.le j')(e:aj.K.choose=D.K.choose):oA f W m aj j':=by obtain⟨w,x,y,a,b,c,d,g⟩:=h;exact#[w,x,y,bU a u.1,bU b u.1,(u.2 _ a).trans c,(u.2 _ b).trans d,e.trans g]
def rP(s:Bs)(i:Nat):Prop:=(i<I.N/\((s.ph i).st=0\/(s.ph i).st=1))\/(I.srv=true/\∃k,k<I.N/\i=I.N+k/\((s.sk k).st=0\/(s.sk k).st=1))
structure PC(P:Bs->Prop):Prop where
 go:∀s D s' aj,W s D->Gd s->fX s D s' aj->P s->P s'
 st:∀s D s' aj,oF s D s' aj->P s->P s'
 wk:∀s D t s' aj,W s D->Gd s->NR s->W s' aj->Gd s'->mQ s t s'->P s->P s'
structure In(P:Bs->Prop)(W0:V)(m0:Nat)(σ0:Fs)(M:Nat)(s:Bs)(D:Fs)(j:Jk):Prop where
 w:W s D
 g:Gd s
 p:P s
 ch:oA I.f W0 m0 D j
 mu:mu s<=M
 st:D.steps=σ0.steps
 o:D.o=σ0.o
 zs:D.zs=σ0.zs
structure jE(s:Bs)(D:Fs):Prop where
 nr:NR s
 wk:∀i,i<I.N->wk i (s.ph i)=.none
 ex:∃i,i<D.nT/\aE (D.tk i)≠251
 all:I.srv=true->(∀i,i<I.N->(s.ph i).st=6)->∀k,k<I.N->(s.sk k).st=3
section
variable{n m:Nat}{s s':Bs}{D aj σ0:Fs}{i k x l:Nat}{t:Int}{j j':Jk}{Q X:QV}{P:Bs->Prop}{W0:V}{m0 M:Nat}
def Dg:∀m,(code m=173↔m=0\/m=1)/\(code m=251->6<=m)/\(code m=245↔m=2)
 |0=>by decide
 |1=>by decide
 |2=>by decide
 |3=>by decide
 |4=>by decide
 |5=>by decide
 |n+6=>#[#[λe=>absurd (show 251=173 from e) (by decide),λe=>e.elim (λe=>nomatch e) λe=>nomatch e],λU=>fj 6 n,λe=>absurd (show 251=245 from e) (by decide),λe=>nomatch e]
def NN:∀m,(fM m=173↔m=0\/m=1)/\fM m≠245
 |0=>by decide
 |1=>by decide
 |2=>by decide
 |n+3=>#[#[λe=>absurd (show 251=173 from e) (by decide),λe=>e.elim (λe=>nomatch e) λe=>nomatch e],(by decide:251≠245)]
def W.Jh(w:W s D)(hi:i<D.nT):aE (D.tk i)=173↔rP s i:=by
 rcases w.at i with⟨h,e⟩|⟨k,rfl,e⟩<;>rw[e]
 .refine(Dg _).1.trans #[λz=>.inl #[h,z],λz=>z.elim And.right λ#[_,k,_,e,_]=> ?_];exact absurd h (Nat.not_lt.mpr (e▸dL _ _))
 .refine(NN _).1.trans #[λz=>.inr #[(w.kN hi).1,k,(w.kN hi).2,rfl,z],λz=>z.elim (λz=>absurd z.1 (Nat.not_lt.mpr (dL _ _))) λ#[_,k',_,e,h]=> ?_];rw[Nat.add_left_cancel e];exact h
def VE(aa:bn I)(w:W s D)(ah:Gd s)(u:∀i,i<I.N->(s.ph i).st≠5)(h:∀i,i<D.nT->¬rP s i):NR s:=by
 have z:I.srv=true->∀k,k<I.N->2<=(s.sk k).st:=λx k hk=>by
  have:=λe=>h _ (w.sT x hk) (.inr #[x,k,hk,rfl,e]);match e:(s.sk k).st with
  |0=>exact(this (.inl e)).elim
  |1=>exact(this (.inr e)).elim
  |n+2=>exact fj 2 n
 refine#[λi d=> ?_,z];have y:=λe=>h _ (w.iT d) (.inl #[d,e]);have ok:=(ah.loc i d).ok;match e:(s.ph i).st with
 |0=>exact(y (.inl e)).elim
 |1=>exact(y (.inr e)).elim
 |2=>exact .inl rfl
 |4=>exact .inr (.inl rfl)
 |5=>exact(u i d e).elim
 |6=>exact .inr (.inr rfl)
 |n+7=>rw[e]at ok;exact absurd (lg ok).1 (Nat.not_le.mpr (fj 2 n))
 |3=>
  have m:=(w.met.a i d e).1;cases x:I.srv with
  |false=>exact absurd ((w.sk.b x _).symm.trans m) (by decide)
  |true=>exact absurd (z x _ (lu aa d _)) (by rw[m];decide)
def oF.Vr(h:oF s D s' aj)(i:Nat):(s'.ph i).st≠5:=by rw[h.ph];exact kM (P:=λr=>r.st≠5) (λU=>(by decide:6≠5)) λh=>h
def Vx(ah:Gd s)(w:W s D)(i:Nat)(h:aE (D.tk i)=245):(D.tk i).wake=.none\/∃w,(D.tk i).wake=.int w/\D.now<w:=by
 rcases w.at i with⟨d,e⟩|⟨k,rfl,e⟩<;>rw[e]at h⊢
 .rcases vP i (s.ph i)with z|⟨v,z⟩
  .exact .inl z
  .rw[w.now];refine .inr #[v,z,?_];rcases sP (ah.loc i d) z with y|y
   .exact y.2.2
   .obtain⟨_,_,_,_,_,y⟩:=y;exact y
 .exact .inl rfl
def numsOf(D:Fs):List V:=((List.range D.nT).filter λi=>decide (aE (D.tk i)≠251/\aE (D.tk i)≠142)).map λi:Nat=>V.int (i+1)
def W.dR(w:W s D):W s {D with K:={D.K with dR:=.ref #[I.f,19,D.nL]},ls:=uF D.ls D.nL [],nL:=D.nL+1}:=#[w.con,#[w.K.iA,w.K.aY,w.K.l9,w.K.num,w.K.set,_,rfl,bA _],w.tk,w.sv,w.st,w.dl,w.mn,w.aC,w.now,w.ce,w.num,w.b9,w.hold,w.qp,w.met,w.sk]
def In.dR(h:In P W0 m0 σ0 M s D j):In P W0 m0 σ0 M s {D with K:={D.K with dR:=.ref #[I.f,19,D.nL]},ls:=uF D.ls D.nL [],nL:=D.nL+1} j:=#[h.w.dR,h.g,h.p,#[h.ch.w,h.ch.c],h.mu,h.st,h.o,h.zs]
def In.le(h:In P W0 m0 σ0 M s D j)(e:j.le j'):In P W0 m0 σ0 M s D j':=#[h.w,h.g,h.p,h.ch.le e rfl,h.mu,h.st,h.o,h.zs]
def In.set(e:PC P)(h:In P W0 m0 σ0 M s D j)(u:j.le j')(S:oF s D s' aj):In P W0 m0 σ0 M s' aj j':=#[S.w,S.g,e.st _ _ _ _ S h.p,h.ch.le u S.fr.2.1,bk S.mu h.mu,S.fr.1.trans h.st,S.fr.2.2.1.trans h.o,S.fr.2.2.2.trans h.zs]
def Z1(K:mQ s t s')(u:NR s):mu s'<=mu s:=by
 unfold mu;rw[K.ph,K.sk];refine Nat.add_le_add_right (sF (λx=> ?_) _) _;show wt x (de t I.N s.ph x)<=wt x (s.ph x);unfold de;cases e:Nat.blt x I.N&&eF t x (s.ph x)with
 |false=>exact bG _
 |true=>
  have e:=iy.mp e;have y:x<I.N:=gW e.1;obtain⟨_,w,d,_⟩:=tM e.2;rcases u.ph x y with h|h|h
  .exact KO (.inl h)
  .exact KO (.inr h)
  .unfold wk at d;rw[ak (by rw[h];decide),ak (by rw[h];exactλz=>absurd z.1 (by decide))]at d;exact nomatch d
def IN(aa:bn I)(HP:PC P)(h0:In P W0 m0 σ0 M s D j)(hZ:σ0.steps.length<999)(m:Nat){l:Lc}(u:l 93=some (.ref #[I.f,6,0])){Rk:k02}{Z:k08}
 (qA:∀s' aj j' i r l',j.le j'->In P W0 m0 σ0 M s' aj j'->rP s' i->i<aj.nT->Rk (.ret (.ref #[I.f,2,i])) l' (hp I.f {aj with steps:=aj.steps++[.int r]} j'))
 (qB:∀s' aj j' l',j.le j'->In P W0 m0 σ0 M s' aj j'->NR s'->s'.ph=(λx=>(s.ph x).fin)->(∀i,i<I.N->(s'.ph i).st=6)->Rk (.ret .none) l' (hp I.f aj j'))
 (qX:∀s' aj j' l',j.le j'->In P W0 m0 σ0 M s' aj j'->s'.ph=(λx=>(s.ph x).fin)->jE s' aj->Z (.fz (numsOf aj)) l' (hp I.f aj j'))
 (qD:∀e s' aj j' l',j.le j'->In P W0 m0 σ0 M s' aj j'->NR e->e.ph=(λx=>(s.ph x).fin)->(∃i,i<I.N/\((s'.ph i).st=0\/(s'.ph i).st=1))->l' 93=some (.ref #[I.f,6,0])->
   dJ (dY az (wG (n+6)) bx .tt Z) (en az (wG (n+6)) bx sq Z) m l' (hp I.f aj j') Rk):
 dJ (dY az (wG (n+6)) bx .tt Z) (en az (wG (n+6)) bx sq Z) (m+1) l (hp I.f D j) Rk:=by
 rw[BD];generalize Fg:dY az (wG (n+6)) bx .tt Z=aay at qD⊢;generalize Ff:en az (wG (n+6)) bx sq Z=aax at qD⊢;rw[←Fg,BB,WZ,Zk,Y1,fw,BC,KE,←Ff,KC,Ff,Fg,Wq];erw[u];refine Ya aa h0.w h0.g λe aS j1 ru J=> ?_;have h1:=h0.set HP ru J;lk;refine ow ?_;erw[u];refine Uu (h1.w.TS aa) (λi U h=>Vx h1.g h1.w i h) λj2 fP=> ?_;erw[u];refine X4 ?_;have ul:=Jk.le_trans ru fP;have y:=(h1.le fP).dR;have kQ:({aS with K:={aS.K with dR:=.ref #[I.f,19,aS.nL]},ls:=uF aS.ls aS.nL [],nL:=aS.nL+1}:Fs).K.dR=.ref #[I.f,19,aS.nL]:=rfl;have rx:({aS with K:={aS.K with dR:=.ref #[I.f,19,aS.nL]},ls:=uF aS.ls aS.nL [],nL:=aS.nL+1}:Fs).ls aS.nL=[]:=aD _ _ _;have bZ:aS.nL<({aS with K:={aS.K with dR:=.ref #[I.f,19,aS.nL]},ls:=uF aS.ls aS.nL [],nL:=aS.nL+1}:Fs).nL:=bA _;generalize ({aS with K:={aS.K with dR:=.ref #[I.f,19,aS.nL]},ls:=uF aS.ls aS.nL [],nL:=aS.nL+1}:Fs)=z at y kQ rx bZ⊢;generalize aS.nL=aex at kQ rx bZ;have T2:=y.w.TS aa;have jo:=λi (U:i<z.nT)=>y.w.vf i;erw[u];refine Xr T2 ?_;by_cases hr:((List.range z.nT).filter λi=>decide (aE (z.tk i)=173))=[]
 .rw[hr];have Q:NR e:=VE aa y.w y.g (λi U=>J.Vr i) λi G h=>by have:=(mU _ _).mp hr i G;rw[decide_eq_false_iff_not]at this;exact this ((y.w.Jh G).mpr h)
  erw[u];refine KH T2 jo ?_;by_cases O:((List.range z.nT).filter λi=>decide (aE (z.tk i)≠251/\aE (z.tk i)≠142))=[]
  .rw[O];erw[u];refine qB e z j2 _ ul y Q J.ph λi G=> ?_;have:=(mU _ _).mp O i (y.w.iT G);rw[decide_eq_false_iff_not,y.w.ti G]at this;obtain QX:=(jR (e.ph i).st).2.2.2;obtain Q0:code (e.ph i).st=251:=Decidable.byContradiction λh=>this #[h,QX];have B:=(Dg _).2.1 Q0;rcases Q.ph i G with h|h|h
   .rw[h]at B;exact absurd B (by decide)
   .rw[h]at B;exact absurd B (by decide)
   .exact h
  .obtain bN:∀xs:List Nat,xs≠[]->da (xs.map λi:Nat=>V.int (i+1)) []=some false:=λxs h=>by
    cases xs with
    |nil=>exact absurd rfl h
    |cons x r=>rfl
   erw[u,bN _ O];refine Zd aa y.w y.g Q.ph kQ bZ rx (λzg=> ?_) (λt s3 aau j3 iE ht w3 g3 K3 F3=> ?_)
   .obtain⟨i,G⟩:=List.exists_mem_of_ne_nil _ O;obtain⟨a1,a2⟩:=fZ.mp G;exact qX e z j2 _ ul y J.ph #[Q,zg,#[i,ej.mp a1,(aP a2).1],λhs B=>J.all hs B (Q.sv hs)]
   .lk;refine qD e s3 aau j3 _ (Jk.le_trans ul iE) #[w3,g3,HP.wk _ _ _ _ _ y.w y.g Q w3 g3 K3 y.p,y.ch.le iE F3.2.1,bk (Z1 K3 Q) y.mu,F3.1.trans y.st,F3.2.2.1.trans y.o,F3.2.2.2.trans y.zs] Q J.ph ?_ (by exact u);obtain⟨i,G,O⟩:=K3.ex;refine#[i,G,?_];obtain hd:eF t i (e.ph i)=true:=by unfold eF;rw[kD G,O];exact dX (Int.le_refl t)
    rw[K3.ph,vO (bG _) G,hd];show wb (e.ph i)=0\/wb (e.ph i)=1;unfold wb;cases Nat.beq (e.ph i).st 4 with
    |true=>exact .inl rfl
    |false=>exact .inr rfl
 .obtain bl:(((List.range z.nT).filter λi=>decide (aE (z.tk i)=173)).map λi=>V.ref #[I.f,2,i]).length<=1000:=o9 _ _ _ T2.n;obtain ze:ia (((List.range z.nT).filter λi=>decide (aE (z.tk i)=173)).map λi=>V.ref #[I.f,2,i])=some true:=by
   unfold ia;rw[al bl];cases hc:(List.range z.nT).filter λi=>decide (aE (z.tk i)=173)with
   |nil=>exact absurd hc hr
   |cons x r=>rfl
  obtain Ti:∀h:H,truthy h (.fz (((List.range z.nT).filter λi=>decide (aE (z.tk i)=173)).map λi=>V.ref #[I.f,2,i]))=some true:=λh=>ze;erw[u,Ti];obtain⟨w,m1,m2,a,b,c,d,g⟩:=y.ch;refine Nu (p:=λi=>decide (aE (z.tk i)=173)) w c d g (by rw[y.st];exact hZ) T2.n jo hr λi r G hp=> ?_;lk;exact qA e z j2 i r _ ul y ((y.w.Jh G).mp (aP hp)) G
def W.steps(w:W s D)(xs:k00):W s {D with steps:=xs}:=#[w.con,w.K,w.tk,w.sv,w.st,w.dl,w.mn,w.aC,w.now,w.ce,w.num,w.b9,w.hold,w.qp,w.met,w.sk]
def IM(aa:bn I)(O:PC P)(h0:In P W0 m0 σ0 M s D j)(hZ:σ0.steps.length<999)
 (qA:∀s' aj j' i r,j.le j'->In P W0 m0 {σ0 with steps:=σ0.steps++[.int r]} M s' aj j'->rP s' i->i<aj.nT->Q (.ref #[I.f,2,i]) (hp I.f aj j'))
 (qB:∀s' aj j',j.le j'->In P W0 m0 σ0 M s' aj j'->(∀i,i<I.N->(s'.ph i).st=6)->Q .none (hp I.f aj j'))
 (qX:∀s' aj j',j.le j'->In P W0 m0 σ0 M s' aj j'->jE s' aj->X (.fz (numsOf aj)) (hp I.f aj j')):
 wG (n+7) (.fn 67) [.ref #[I.f,6,0]] (hp I.f D j) Q X:=by
 have JZ:∀{s' aj j'} (r:Int),In P W0 m0 σ0 M s' aj j'->In P W0 m0 {σ0 with steps:=σ0.steps++[.int r]} M s' {aj with steps:=aj.steps++[.int r]} j':=λr h=>#[h.w.steps _,h.g,h.p,#[h.ch.w,h.ch.c],h.mu,aq (· ++[V.int r]) h.st,h.o,h.zs];have aQ:∀{a b:Bs},b.ph=(λx=>(a.ph x).fin)->(∃i,i<I.N/\((a.ph i).st=0\/(a.ph i).st=1))->NR b->False:=λ{a b} hb #[i,G,hz] z=>by have:=z.ph i G;rw[hb]at this;have this:(a.ph i).fin.st=2\/(a.ph i).fin.st=4\/(a.ph i).fin.st=6:=this;rw[Ph.hH (by rcases hz with e|e<;>rw[e]<;>decide)]at this;rcases hz with e|e<;>rw[e]at this<;>exact absurd this (by decide)
 refine rd (d:=tK) rfl rfl rfl ?_;rw[Wr,iN,vA];refine#[2,IN aa O h0 hZ 1 rfl (λs' aj j' i r u y h J G=> ?_) (λs' aj j' u y h z U h6=> ?_) (λs' aj j' u y h U B=> ?_) (λs1 s2 aS j1 l1 ru h1 rp U hex Se=> ?_)]
 .rw[vz];exact aR (qA s' _ j' i r y (JZ r h) J G)
 .rw[vz];exact aR (qB s' aj j' y h h6)
 .exact KY (qX s' aj j' y h B)
 .refine IN aa O h1 hZ 0 Se (λs' aj j' i r u y h J G=> ?_) (λs' aj j' u y h z hp h6=>(aQ hp hex z).elim) (λs' aj j' u y h hp B=>(aQ hp hex B.nr).elim) (λs3 s' U U U U U z hp U U=>(aQ hp hex z).elim);rw[vz];exact aR (qA s' _ j' i r (Jk.le_trans ru y) (JZ r h) J G)
end
def pU(e:k00):oZ (some e)=.live (.list e):=rfl
def rZ:Ss:=.cons (.ite (.not (.call (.ba 216) (.cons (.loc 193) .nil))) (.cons (.ret .none) .nil) .nil) (.cons (.asg false 72 (.call (.ba 176) (.cons (.cf 93) .nil))) .nil)
def k7:Ss:=.cons (.ite (.cmp .gt (.attr (.loc 72) 17) (.loc 220)) (.cons (.ex (.call (.ba 203) (.cons (.loc 193) (.cons (.loc 72) (.cons (.bin .sub (.bin .sub (.attr (.loc 72) 17) (.loc 220)) (.int 1)) .nil))))) .nil) (.cons (.ite (.not (.call (.ba 214) (.cons (.loc 193) (.cons (.loc 72) (.cons (.item (.loc 222) (.bin .sub (.attr (.loc 72) 17) (.int 1))) (.cons (.bin .sub (.attr (.loc 72) 17) (.int 1)) .nil)))))) (.cons (.ret .none) .nil) .nil) .nil)) rZ
def UJ:rZ=.cons (.ite (.not (.call (.ba 216) (.cons (.loc 193) .nil))) (.cons (.ret .none) .nil) .nil) (.cons (.asg false 72 (.call (.ba 176) (.cons (.cf 93) .nil))) .nil):=rfl
def UK:k7=.cons (.ite (.cmp .gt (.attr (.loc 72) 17) (.loc 220)) (.cons (.ex (.call (.ba 203) (.cons (.loc 193) (.cons (.loc 72) (.cons (.bin .sub (.bin .sub (.attr (.loc 72) 17) (.loc 220)) (.int 1)) .nil))))) .nil) (.cons (.ite (.not (.call (.ba 214) (.cons (.loc 193) (.cons (.loc 72) (.cons (.item (.loc 222) (.bin .sub (.attr (.loc 72) 17) (.int 1))) (.cons (.bin .sub (.attr (.loc 72) 17) (.int 1)) .nil)))))) (.cons (.ret .none) .nil) .nil) .nil)) rZ:=rfl
def me:E:=.cmp .dy (.loc 72) .none
structure LE(G:Ka)(hF:V)(oo:H)(l:Lc)(D:Fs)(j:Jk):Prop where
 oo:D.o=oo
 t:l 193=some (.ref #[I.f,14,0])
 n:l 220=some (.int I.N)
 s:l 222=some (.ref #[I.f,20,0])
 c:l 223=some hF
 w:l 26=some (.fz [])
 z:D.zs=some ((List.range I.N).map λi=>V.ref #[I.f,11,i])
 k:∃m,G 93=some #[I.f+2,0,m]/\m<j.n/\j.g m=.live (.cell (some (.ref #[I.f,6,0])))
def LE.mv{G hF oo l D j l' aj j'}(h:LE G hF oo l D j)(e:∀x,x≠72->l' x=l x)(hz:aj.zs=D.zs)(ho:aj.o=D.o)(u:j.le j'):LE G hF oo l' aj j':=by obtain⟨m,k1,k2,k3⟩:=h.k;exact#[ho.trans h.oo,(e _ (by decide)).trans h.t,(e _ (by decide)).trans h.n,(e _ (by decide)).trans h.s,(e _ (by decide)).trans h.c,(e _ (by decide)).trans h.w,hz.trans h.z,m,k1,bU k2 u.1,(u.2 _ k2).trans k3]
variable{s':Bs}{aj σ0:Fs}{G:Ka}{hF:V}{oo:H}{P:Bs->Prop}{W0:V}{m0 M:Nat}
def Ks(i:Nat):∀k,k<=(cW i k).length
 |0=>bG _
 |k+1=>by unfold cW;rw[eV,gu];exact bk (Nat.le_of_eq (Nat.add_comm k 1)) (Nat.add_le_add (fj 1 _) (Ks i k))
def JN{f:Nat->Nat}:∀n,i<n->f i<=sm f n
 |n+1,h=>by
  by_cases e:i=n
  .rw[e];exact fj _ _
  .exact bk (JN n (Nat.lt_of_le_of_ne (Nat.le_of_lt_succ h) e)) (dL _ _)
def Vc(hi:i<I.N)(u:(s.ph i).st=0\/(s.ph i).st=1)(B:mu s<=250):(s.ph i).k<=100:=by
 have a:=bk (JN (f:=λi=>wt i (s.ph i)) I.N hi) (bk (dL _ _) B);have e:wt i (s.ph i)=1+3*(rem i (s.ph i).pos (s.ph i).k).length:=by unfold wt;rcases u with h|h<;>rw[h]<;>rfl
 have b:(s.ph i).k<=(rem i (s.ph i).pos (s.ph i).k).length:=by unfold rem;rw[eV];exact bk (Ks i _) (fj _ _)
 rw[e]at a;lia
def HG(aa:bn I)(HP:PC P){Rk:k02}{Z:k08}
 (cB:∀s D j l,W s D->Gd s->P s->(∀i,i<I.N->(s.ph i).st=6)->LE G hF oo l D j->Rk .next l (hp I.f D j))
 (cX:∀s D j l,W s D->Gd s->P s->jE s D->LE G hF oo l D j->Z (.fz (numsOf D)) l (hp I.f D j)):
 ∀(m:Nat) (s:Bs) (D:Fs) (j:Jk) (l:Lc) (v:V),W s D->Gd s->P s->LE G hF oo l D j->oA I.f W0 m0 D j->D.steps.length+mu s<=900->mu s<=250->l 72=some v->
  ((∃i,v=.ref #[I.f,2,i]/\rP s i/\i<D.nT/\mu s<m)\/(v=.none/\(∀i,i<I.N->(s.ph i).st=6)/\0<m))->
  dJ (dY az (wG 40) G me Z) (en az (wG 40) G k7 Z) m l (hp I.f D j) Rk:=by
 intro m;induction m with
 |zero=>intro s D j l v _ _ _ _ _ _ _ _ h;rcases h with⟨_,_,_,_,h⟩|⟨_,_,h⟩<;>exact absurd h (Nat.not_lt_zero _)
 |succ m ih=>
  intro s D j l v w O hP hL HC aeg F8 t9 Rs;rcases Rs with⟨i,rfl,hr,hi,hm⟩|⟨rfl,h6,_⟩
  .have next:∀s' aj j',j.le j'->fX s D s' aj->bc az (wG 40) G rZ l (hp I.f aj j') (l8 (dY az (wG 40) G me Z) (en az (wG 40) G k7 Z) m Rk) Z:=by
    intro s' aj j' d N;have Q:=hL.mv (l':=l) (λU U=>rfl) N.fr.2.2.2 N.fr.2.2.1 d;obtain⟨mk',Ua,k2',Ue⟩:=Q.k;obtain ht:=Q.t;have aef:=N.mu;rw[UJ];generalize hK:l8 (dY az (wG 40) G me Z) (en az (wG 40) G k7 Z) m Rk=KK;erw[ht];refine Uq (n:=38) aa N.w N.g ?_;erw[Ua,Ue];refine IM (n:=33) (σ0:=aj) (M:=mu s') aa HP #[N.w,N.g,HP.go _ _ _ _ w O N hP,HC.le d N.fr.2.1,bG _,rfl,rfl,rfl] (by rw[N.fr.1];lia) (λJ y B i2 r u h rz bZ=> ?_) (λJ y B u h h6=> ?_) (λJ y B u h hD=> ?_)
    .lk;rw[←hK];obtain cx:=h.mu;have e:=aq List.length h.st;obtain e:y.steps.length=aj.steps.length+1:=e.trans (eV);refine ih J y B _ _ h.w h.g h.p (Q.mv (λx hx=>by simp[upd,hx]) h.zs h.o u) h.ch ?_ (by lia) (by simp[upd]) (.inl #[i2,rfl,rz,bZ,by lia]);rw[e,N.fr.1];lia
    .lk;rw[←hK];have cx:=h.mu;refine ih J y B _ _ h.w h.g h.p (Q.mv (λx hx=>by simp[upd,hx]) h.zs h.o u) h.ch ?_ (by lia) (by simp[upd]) (.inr #[rfl,h6,by lia]);rw[h.st,N.fr.1];lia
    .exact cX J y B _ h.w h.g h.p hD (Q.mv (λx U=>rfl) h.zs h.o u)
   have jo:=w.vf i;rw[BD];obtain e0:dY az (wG 40) G me Z l (hp I.f D j) (rU (dY az (wG 40) G me Z) (en az (wG 40) G k7 Z) m l Rk)=bc az (wG 40) G k7 l (hp I.f D j) (l8 (dY az (wG 40) G me Z) (en az (wG 40) G k7 Z) m Rk) Z:=by rw[BB];show au az (wG 40) G (.cmp .dy (.loc 72) .none) true l _ _ _=_;rw[I0,oj,t9,fw,kz,fA,Cg,I3,fA,Ch,CW,fw,Cf,Vh,Bool.not_false,BC,KE,KC]
   rw[e0];generalize hK:l8 (dY az (wG 40) G me Z) (en az (wG 40) G k7 Z) m Rk=KK at next⊢
   rw[UK];generalize hA:rZ=A at next⊢
   rcases hr with⟨yK,hZ⟩|⟨hs,k,hk,rfl,kU⟩
   .obtain nD:¬((I.N:Int)<(i:Int)+1):=by lia
    have e1:((i:Int)+1-1)=i:=by lia
    obtain rC:eg ((List.range I.N).map λi=>V.ref #[I.f,11,i]) i=some (.ref #[I.f,11,i]):=dI (by rw[eW,iw yK];rfl) (by have:=aa.n4;lia);erw[t9,hi,jo,hL.n,gt_iff_lt,nD,hL.t,hL.s,hL.z,pU,e1,rC];refine QO (n:=31) aa w O yK (Vc yK hZ F8) hZ λs' aj j' d N=> ?_;lk;exact next s' aj j' d N
   .have bZ:(I.N:Int)<((I.N+k:Nat):Int)+1:=by lia
    have e1:((I.N+k:Nat):Int)+1-I.N-1=k:=by lia
    rw[Int.natCast_add]at bZ e1;erw[t9,hi,jo,hL.n,gt_iff_lt,bZ,hL.t,e1];refine Qd (n:=35) aa w O hs hk kU λs' aj j' d N=> ?_;lk;exact next s' aj j' d N
  .rw[BD,BB];show au az (wG 40) G (.cmp .dy (.loc 72) .none) true l _ _ _;rw[I0,oj,t9,fw,kz,fA,Cg,I3,fA,Ch,CW,fw,Cf,Vg,Bool.not_true,BC,ZQ];exact cB s D j l w O hP h6 hL
def Dm{P:Nat->Prop}(h:∀z,z<N->P z->P ((z+1) % N))(hz:e<N)(u:P e):∀i,i<N->P i:=λi x=>by
 obtain all:∀d,P ((e+d) % N):=λd=>by
  induction d with
  |zero=>rw[Nat.add_zero,Nat.mod_eq_of_lt hz];exact u
  |succ d y=>have:=h _ (Nat.mod_lt _ (el (cD _) hz)) y;rw[Nat.mod_add_mod]at this;exact this
 have:=all (N-e+i);rw[←Nat.add_assoc,Nat.add_sub_cancel' (Nat.le_of_lt hz),Nat.add_mod_left,Nat.mod_eq_of_lt x]at this;exact this
def succ_inj:∀N,N<5->∀x,x<N->∀y,y<N->(x+1) % N=(y+1) % N->x=y:=by decide
def WJ:∀N,N<5->∀x,x<N->∃y,y<N/\(y+1) % N=x:=by decide
section
variable{s s':Bs}{D aj:Fs}{x y z:Nat}{p:Ph}
def FN(w:W s D)(ah:Gd s)(B:NR s)(aa:bn I)(hz:z<I.N)(u:(s.ph z).st=2):∃y,y<I.N/\s.hd (aF z (s.ph z).pos)=some y/\bO y (s.ph y) (aF z (s.ph z).pos):=by
 have hk:=lu aa hz (s.ph z).pos;have d:=((w.qp _ hk).2 z).mpr #[hz,u,rfl];cases h:s.hd (aF z (s.ph z).pos)with
 |none=>
  have e:(s.sk (aF z (s.ph z).pos)).st=2:=by
   cases x:I.srv with
   |false=>exact w.sk.b x _
   |true=>obtain a:=B.sv x _ hk;obtain b:=w.sk.l (aF z (s.ph z).pos);refine iz (Nat.le_of_lt_succ (Nat.lt_of_le_of_ne b λe=> ?_)) a;exact absurd ((w.sk.e _ hk e z hz).symm.trans u) (by decide)
  rw[ah.free _ hk h e]at d;exact nomatch d
 |some y=>have:=(w.hold _ hk y).mp h;exact#[y,this.1,rfl,this.2]
def Gc(u:ed p.st p.pos p.k=true)(h:p.st=2\/p.st=6)(gG:bO y p k):p.st=2/\p.pos=3/\k=I.fa y:=by
 unfold bO at gG;rcases h with h|h<;>rw[h]at u gG
 .rcases pV u with e|e<;>rw[e]at gG
  .exact gG.elim (λz=>nomatch z.1) λz=>nomatch z.1
  .exact gG.elim (λz=>#[h,e,z.2]) λz=>nomatch z.1
 .rcases(lg u).2.2 with e|e<;>rw[e]at gG<;>exact gG.elim (λz=>nomatch z.1) λz=>nomatch z.1
def J2(aa:bn I)(hh:∀i,I.hand i=0\/I.hand i=1)(w:W s D)(ah:Gd s)(ai:jE s D):(∀i,i<I.N->(s.ph i).st=2/\(s.ph i).pos=3/\I.aV i=.none/\I.hand i=I.hand 0/\s.hd (I.fa i)=some i)/\(I.srv=true->∀k,k<I.N->(s.sk k).st=2):=by
 have N5:=Nat.lt_succ_of_le aa.n4;have JX:∀i,i<I.N->(s.ph i).st=2\/(s.ph i).st=6:=λi x=>(ai.nr.ph i x).imp id λh=>h.resolve_left λe=>by have:=ai.wk i x;unfold wk at this;rw[al e]at this;exact nomatch this
 have YA:∃y,y<I.N/\(s.ph y).st=2:=Classical.byContradiction λh=>by
  have h6:∀i,i<I.N->(s.ph i).st=6:=λi x=>(JX i x).resolve_left λe=>h #[i,x,e];obtain⟨i,x,bN⟩:=ai.ex;rcases w.at i with⟨h',e⟩|⟨k,rfl,e⟩<;>rw[e]at bN
  .exact bN (show code (s.ph i).st=251 by rw[h6 i h'];rfl)
  .have:=w.kN x;exact bN (show fM (s.sk k).st=251 by rw[ai.all this.1 h6 k this.2];rfl)
 have step:∀z,z<I.N->(s.ph z).st=2->∃y,y<I.N/\(s.ph y).st=2/\(s.ph y).pos=3/\I.aV y=.none/\aF z (s.ph z).pos=I.fa y:=λz hz h2=>by
  obtain⟨y,u,hd,gG⟩:=FN w ah ai.nr aa hz h2;have ae:=ah.loc y u;obtain⟨a,b,c⟩:=Gc ae.ok (JX y u) gG;refine#[y,u,a,b,?_,c];have tm:=ae.tm;rw[a,b]at tm;have tm:match I.aV y with|.none=>2≠1|.bB=>2≠2/\s.now=(s.ph y).bb|.int w=>if 2=1 then s.now=(s.ph y).bb+w else s.now<(s.ph y).bb+w:=tm
  have J:=ai.wk y u;unfold wk at J;rw[ak (by rw[a];decide),al #[a,b]]at J;cases Gi:I.aV y with
  |none=>rfl
  |bB=>rw[Gi]at tm;exact(tm.1 rfl).elim
  |int w=>rw[Gi]at J;exact nomatch J
 obtain⟨y0,G,Fd⟩:=YA;obtain⟨B,Gv,a1,a2,a3,_⟩:=step y0 G Fd;have Fb:∀i,i<I.N->((s.ph i).st=2/\(s.ph i).pos=3/\I.aV i=.none/\I.hand i=I.hand B):=by
  rcases hh B with h0|h1
  .refine Dm (λz hz Q=> ?_) Gv #[a1,a2,a3,rfl];obtain⟨y,u,O,b2,b3,d⟩:=step z hz Q.1;rw[Q.2.1]at d;have d:I.fb z=I.fa y:=d;unfold ck.fb ck.fa at d;rw[al (Q.2.2.2.trans h0)]at d;by_cases G:I.hand y=0
   .rw[al G]at d;rw[d];exact#[O,b2,b3,G.trans h0.symm]
   .rw[ak G]at d;have:=succ_inj I.N N5 z hz y u d;rw[←this]at G;exact absurd (Q.2.2.2.trans h0) G
  .have MG:∀z,z<I.N->((s.ph z).st=2/\(s.ph z).pos=3/\I.aV z=.none/\I.hand z=I.hand B)->∃y,y<I.N/\(y+1) % I.N=z/\(s.ph y).st=2/\(s.ph y).pos=3/\I.aV y=.none/\I.hand y=I.hand B:=λz hz Q=>by
    obtain⟨y,u,O,b2,b3,d⟩:=step z hz Q.1;have zj:I.hand z=1:=Q.2.2.2.trans h1;rw[Q.2.1]at d;have d:I.fb z=I.fa y:=d;unfold ck.fb ck.fa at d;rw[ak (by rw[zj];decide)]at d;rcases hh y with G|Gs
    .rw[al G]at d;rw[d,G]at zj;exact nomatch zj
    .rw[ak (by rw[Gs];decide)]at d;exact#[y,u,d.symm,O,b2,b3,Gs.trans h1.symm]
   intro i x;refine Classical.byContradiction λRl=> ?_;exact Dm (P:=λi=>¬((s.ph i).st=2/\(s.ph i).pos=3/\I.aV i=.none/\I.hand i=I.hand B)) (λz hz Q RS=>by
    obtain⟨y,u,zi,b⟩:=MG _ (Nat.mod_lt _ (el (cD _) hz)) RS;rw[succ_inj I.N N5 y u z hz zi]at b;exact Q b) x Rl B Gv #[a1,a2,a3,rfl]
 have nj:0<I.N:=bU (by decide) aa.n2;refine#[λi x=> ?_,λhs k hk=> ?_]
 .have g:=Fb i x;refine#[g.1,g.2.1,g.2.2.1,g.2.2.2.trans (Fb 0 nj).2.2.2.symm,(w.hold _ (aa.a i x) i).mpr #[x,.inl #[?_,rfl]]];rw[g.1,g.2.1];rfl
 .have a:=ai.nr.sv hs k hk;exact iz (Nat.le_of_lt_succ (Nat.lt_of_le_of_ne (w.sk.l k) λe=>absurd ((w.sk.e k hk e y0 G).symm.trans Fd) (by decide))) a
end
def E0(p:Ph):Prop:=(p.pos=0/\p.st=0/\p.k=1)\/(p.pos=1/\(p.st=0\/p.st=2\/p.st=3))\/(p.pos=2/\p.st=4)
def E1(p:Ph):Prop:=(p.pos=2/\p.st=0)\/(p.pos=3/\p.st=2)
def Ex(s:Bs):Prop:=(s.now=0/\∀i,i<I.N->E0 (s.ph i))\/(s.now=1/\∀i,i<I.N->E1 (s.ph i))
section
variable{s s':Bs}{D aj:Fs}{i x y z:Nat}{p r:Ph}{now t:Int}
def PB(aa:bn I)(S:jJ I)(hx:x<I.N)(e:y<I.N)(h:I.fa x=I.fa y):x=y:=by
 unfold ck.fa at h;rw[S.hand x,S.hand y]at h;by_cases d:I.hand 0=0
 .rw[al d,al d]at h;exact h
 .rw[ak d,ak d]at h;exact succ_inj I.N (Nat.lt_succ_of_le aa.n4) x hx y e h
def PD(aa:bn I)(S:jJ I)(hk:k<I.N):∃y,y<I.N/\I.fa y=k:=by
 by_cases h:I.hand 0=0
 .exact#[k,hk,by unfold ck.fa;rw[S.hand k,al h]]
 .obtain⟨y,d,e⟩:=WJ I.N (Nat.lt_succ_of_le aa.n4) k hk;exact#[y,d,by unfold ck.fa;rw[S.hand y,ak h];exact e]
def Im(h:ed b 1 k=true):b=0\/b=2\/b=3:=match b,h with
 |0,_=>.inl rfl
 |2,_=>.inr (.inl rfl)
 |3,_=>.inr (.inr rfl)
 |n+5,h=>by rcases(lg h).2.2 with e|e<;>exact nomatch e
def VX(h:ed b 2 k=true):b=0\/b=4:=match b,h with
 |0,_=>.inl rfl
 |4,_=>.inr rfl
 |n+5,h=>by rcases(lg h).2.2 with e|e<;>exact nomatch e
def VY(h:ed b 3 k=true):b=0\/b=1\/b=2\/b=3:=match b,h with
 |0,_=>.inl rfl
 |1,_=>.inr (.inl rfl)
 |2,_=>.inr (.inr (.inl rfl))
 |3,_=>.inr (.inr (.inr rfl))
 |n+5,h=>by rcases(lg h).2.2 with e|e<;>exact nomatch e
def Nx.at(S:jJ I)(h:Nx i a b c d):(a=0->c=1)/\(a=1->c=2)/\(a=2->c=3):=by
 induction h with
 |n1 _ h=>exact absurd (by rw[S.rest i];decide) h
 |_=>decide
def Ve(S:jJ I)(ae:cq x r now)(h:E0 p)(m:Mv now x p r):E0 r:=by
 have ok:=ae.ok;have tm:=ae.tm;induction m with
 |st z b=>
  have y:p.pos=1:=by
   rcases h with e|e|e
   .rw[e.2.1]at z;exact absurd z (by decide)
   .exact e.1
   .rw[e.2]at z;exact absurd z (by decide)
  have ok:ed b p.pos p.k=true:=ok;rw[y]at ok;exact .inr (.inl #[y,Im ok])
 |@go p' k' st cn e' h' H=>
  induction H with
  |b y=>rcases h with e|e|e<;>rw[y]at e<;>exact absurd e (by lia)
  |@a p' k' G P=>
   have n:=P.at S;have ok:ed st p' k'=true:=ok;have tm:iu x p' st now now:=tm;rcases h with e|e|e
   .have d:=n.1 e.1;rw[d]at ok;exact .inr (.inl #[d,Im ok])
   .have d:=n.2.1 e.1;rw[d]at ok tm;rcases VX ok with D|D
    .rw[D]at tm;have tm:now=now+I.rest x:=tm;rw[S.rest x]at tm;exact absurd tm (by lia)
    .exact .inr (.inr #[d,D])
   .rw[e.2]at G;exact absurd G (by decide)
 |fin G hk hp=>
  rcases h with e|e|e
  .rw[e.2.2]at hk;exact absurd hk (by decide)
  .rw[e.1]at hp;exact absurd hp (by decide)
  .rw[e.1]at hp;exact absurd hp (by decide)
def Vf(S:jJ I)(ae:cq x r now)(h:E1 p)(m:Mv now x p r):r.pos=3/\(r.st=0\/r.st=2\/r.st=3):=by
 have ok:=ae.ok;have tm:=ae.tm;have key:r.pos=3->r.pos=3/\(r.st=0\/r.st=2\/r.st=3):=λe=>by
  rw[e]at ok tm;refine#[e,?_];rcases VY ok with h|h|h|h
  .exact .inl h
  .rw[h]at tm;have tm:match I.aV x with|.none=>1≠1|.bB=>1≠2/\now=r.bb|.int w=>if 1=1 then now=r.bb+w else now<r.bb+w:=tm
   rw[S.aV x]at tm;exact(tm rfl).elim
  .exact .inr (.inl h)
  .exact .inr (.inr h)
 induction m with
 |st y b=>refine key (h.elim (λe=> ?_) λe=>e.1);rw[e.2]at y;exact absurd y (by decide)
 |@go p' k' st cn e' h' H=>
  induction H with
  |b z=>rcases h with e|e<;>rw[z]at e<;>exact absurd e.2 (by decide)
  |@a p' k' d D=>refine key (h.elim (λe=>(D.at S).2.2 e.1) λe=> ?_);rw[e.2]at d;exact absurd d (by decide)
 |fin d hk hp=>rcases h with e|e<;>rw[e.1]at hp<;>exact absurd hp (by decide)
def SI(h:(r.pos=2/\r.st=0)\/(r.pos=3/\(r.st=0\/r.st=2\/r.st=3))):bO x r (I.fa x):=by
 refine .inl #[?_,rfl];rcases h with e|⟨e,d|d|d⟩
 .rw[e.1,e.2];rfl
 .rw[e,d];rfl
 .rw[e,d];rfl
 .rw[e,d];rfl
def Ex.go(aa:bn I)(S:jJ I)(N:fX s D s' aj)(E:Ex s):Ex s':=by
 rcases E with⟨B,E⟩|⟨J,E⟩
 .refine .inl #[N.now.trans B,λi d=> ?_];rcases N.mv i d with e|m
  .rw[e];exact E i d
  .have ae:=N.g.loc i d;rw[N.now]at ae;exact Ve S ae (E i d) m
 .have A:∀i,i<I.N->((s'.ph i).pos=2/\(s'.ph i).st=0)\/((s'.ph i).pos=3/\((s'.ph i).st=0\/(s'.ph i).st=2\/(s'.ph i).st=3)):=λi d=>by
   rcases N.mv i d with e|m
   .rw[e];exact(E i d).imp id λe=>#[e.1,.inr (.inl e.2)]
   .have ae:=N.g.loc i d;rw[N.now]at ae;exact .inr (Vf S ae (E i d) m)
  have u:∀k,k<I.N->∃y,y<I.N/\I.fa y=k/\s'.hd k=some y:=λk hk=>by obtain⟨y,x,e⟩:=PD aa S hk;exact#[y,x,e,(N.w.hold k hk y).mpr #[x,e▸SI (A y x)]]
  refine .inr #[N.now.trans J,λi d=>(A i d).imp id λe=>#[e.1,?_]];obtain⟨y,x,Q,hd⟩:=u _ (aa.b i d);rcases e.2 with h|h|h
  .have hb:bO i (s'.ph i) (I.fb i):=.inr #[by rw[e.1,h];rfl,rfl];have:=(N.w.hold _ (aa.b i d) i).mpr #[d,hb];rw[hd]at this;exact(aa.ab i d (by rw[←Q,aL this])).elim
  .exact h
  .have a:=N.w.met.a i d h;have P:aF i (s'.ph i).pos=I.fb i:=by rw[e.1];rfl
   rw[P]at a;have b:=(N.w.met.b _ (aa.b i d) a.1).2;rw[a.2]at b;have o:=b.2.2.2;rw[e.1]at o;cases z:I.srv with
   |false=>exact absurd ((N.w.sk.b z _).symm.trans a.1) (by decide)
   |true=>have G:=N.w.sk.o z _ (aa.b i d);rw[hd,o]at G;exact absurd (show(189:Nat)=186 from G) (by decide)
def BV(h:E0 p\/E1 p):p.st≠5:=by
 rcases h with(h|h|h)|h|h
 .rw[h.2.1];decide
 .rcases h.2 with e|e|e<;>rw[e]<;>decide
 .rw[h.2];decide
 .rw[h.2];decide
 .rw[h.2];decide
def Ex.set(T:oF s D s' aj)(E:Ex s):Ex s':=by
 unfold Ex;rw[T.ph,T.now];refine E.imp (λh=>#[h.1,λi d=> ?_]) λh=>#[h.1,λi d=> ?_]
 .show E0 (s.ph i).fin;rw[Ph.hH (BV (.inl (h.2 i d)))];exact h.2 i d
 .show E1 (s.ph i).fin;rw[Ph.hH (BV (.inr (h.2 i d)))];exact h.2 i d
def Ex.Z0(aa:bn I)(S:jJ I)(w:W s D)(ah:Gd s)(u:NR s)(K:mQ s t s')(E:Ex s):Ex s':=by
 rcases E with⟨Q,E⟩|⟨h1,E⟩
 .have P:∀i,i<I.N->((s.ph i).pos=1/\(s.ph i).st=2)\/((s.ph i).pos=2/\(s.ph i).st=4):=λi d=>by
   have n:=u.ph i d;rcases E i d with e|e|e
   .rw[e.2.1]at n;exact absurd n (by decide)
   .rcases e.2 with h|h|h
    .rw[h]at n;exact absurd n (by decide)
    .exact .inl #[e.1,h]
    .rw[h]at n;exact absurd n (by decide)
   .exact .inr e
  have all:∀i,i<I.N->(s.ph i).pos=2/\(s.ph i).st=4:=λi d=>(P i d).resolve_left λe=>by
   obtain⟨y,J,_,x⟩:=FN w ah u aa d e.2;rw[e.1]at x;unfold bO at x;rcases P y J with g|g<;>rw[g.1,g.2]at x
   .exact x.elim (λz=>nomatch z.1) λz=>nomatch z.1
   .refine x.elim (λz=> ?_) λz=>nomatch z.1;have:=PB aa S d J z.2;rw[←this,e.2]at g;exact absurd g.2 (by decide)
  have O:∀i,i<I.N->wk i (s.ph i)=.int 1:=λi d=>by have ae:=ah.loc i d;have tm:=ae.tm;obtain G:=ae.bb;rw[(all i d).1,(all i d).2,Q]at tm;obtain tm:(0:Int)<(s.ph i).bb+I.rest i:=tm;rw[Q]at G;unfold wk;rw[al (all i d).2,al (all i d).1,S.rest i];rw[S.rest i]at tm;rw[show(s.ph i).bb+1=1 by lia]
  have B:t=1:=by obtain⟨i,d,e⟩:=K.ex;exact V.int.inj (e.symm.trans (O i d))
  refine .inr #[K.now.trans B,λi d=>.inl ?_];obtain hd:eF t i (s.ph i)=true:=by unfold eF;rw[kD d,O i d,B];rfl
  rw[K.ph,vO (bG _) d,hd];exact#[(all i d).1,by show wb (s.ph i)=0;unfold wb;rw[(all i d).2];rfl]
 .obtain⟨i,d,e⟩:=K.ex;rcases sP (ah.loc i d) e with z|⟨_,_,v,z,_⟩
  .rcases E i d with h|h<;>rw[h.2]at z<;>exact absurd z.1 (by decide)
  .rw[S.aV i]at z;exact nomatch z
def Pu(aa:bn I)(S:jJ I):PC (Ex):=#[λU U U U U U N E=>E.go aa S N,λU U U U T E=>E.set T,λU U U U U w d h U U K E=>E.Z0 aa S w d h K]
def Wl:PC λU=>True:=#[λU U U U U U U U=>trivial,λU U U U U U=>trivial,λU U U U U U U U U U U U=>trivial]
end
def pB{f:Nat}{D:Fs}{j:Jk}{a:Nm}(e:a.f≠f)(u:a.f≠f+2):hp f D j a=D.o a:=by unfold hp er;rw[ak e,ak (λh=>u h.1)]
variable{pv:V}
def IZ{f:Nat}{ps:k00}(h:fY f D.o ps pv)(t:Bool)(Q:QV)(j:Jk):j5 t Q pv (hp f D j)=(ps.length<=1000/\tq t Q (.int ps.length) (hp f D j)):=by
 rcases h with rfl|⟨a,rfl,d,x,y⟩
 .rfl
 .rw[Cj,Hz,pB d x,y,Hy,fw,Ci]
def vt{f:Nat}{ps:k00}(h:fY f D.o ps pv)(j:Jk){i:Nat}{x:V}(hx:ps[i]? =some x)(hi:i<1000):bM (hp f D j) pv (.int i)=some x:=by
 rcases h with rfl|⟨a,rfl,d,y,z⟩
 .exact dI hx hi
 .rw[uD,pB d y,z,uE];exact dI hx hi
def vn(hi:i<I.N):(dH I)[i]? =some (gm I i):=by unfold dH;rw[eW,iw hi];rfl
def li:(dH I).length=I.N:=by simp[dH]
def Yw{i N:Nat}{hd:Int}{h:H}(u:0<N)(q:Q (if hd=0 then .fz [.int i,.int ((i+1) % N:Nat)]else .fz [.int ((i+1) % N:Nat),.int i]) h):wG (n+1) (.fn 76) [.int i,.int N,.int hd] h Q X:=by
 k_lt DU;have x:((N:Nat):Int)≠0:=by lia
 have e:((i:Int)+1).fmod N=((i+1) % N:Nat):=xR (i+1) N;by_cases d:hd=0
 .rw[al d]at q;erw[mX _ _ x,e,d];exact aR q
 .rw[ak d]at q;erw[mX _ _ x,e,d];exact aR q
def JK(h:H)(e:0<I.N)(q:Q (.fz [.int (I.fa i),.int (I.fb i)]) h):wG (n+1) (.fn 76) [.int i,.int I.N,.int (I.hand i)] h Q X:=by
 refine Yw e ?_;unfold ck.fa ck.fb at q;by_cases h0:I.hand i=0
 .simp only[h0,if_true]at q⊢;exact q
 .simp only[h0,if_false]at q⊢;exact q
def Uo(w:W s D)(hk:k<I.N):∃m:Int,∀j,aT (hp I.f D j (kp k)) 17=some (.int m):=by
 cases h:I.srv with
 |false=>exact#[_,λj=>by rw[uT h,vv (by rw[w.nG h];exact hk),Qu];exact aq (λz=>some (GR.number z)) (w.con.gr k)]
 |true=>exact#[_,λj=>by rw[nX h,sr (w.sT h hk),Qw];exact aq (λz=>some (TR.number z)) (w.ts k)]
def TP(g:Nat->Int):∀xs:List Nat,da (xs.map λi=>V.int (g i)) (xs.map λi=>V.int (g i))=some true:=by
 intro xs;unfold da;rw[al rfl];induction xs with
 |nil=>rfl
 |cons x xs d=>simp only[List.map_cons,eZ,rb,d];simp
def kL(hF w:V):V:=.tup [.ref #[I.f,14,0],hF,.ref #[I.f,20,0],w]
def fN:V:=.fz ((List.range I.N).map λi=>V.ref #[I.f,2,i])
def J3(aa:bn I)(hh:∀i,I.hand i=0\/I.hand i=1)(w:W s D)(ah:Gd s)(ai:jE s D)(O:fY I.f D.o (dH I) pv)(q:Q (.bool true) (hp I.f D j)):
 wG (n+2) (.fn 78) [kL (fN) (.fz (numsOf D)),pv] (hp I.f D j) Q X:=by
 refine rd (d:=xa) rfl rfl rfl ?_;unfold xa kL;obtain⟨B,BS⟩:=J2 aa hh w ah ai;have T:=w.TS aa;have J:=w.tb aa;have h4:=aa.n4;have h2:=aa.n2;have nj:0<I.N:=by lia
 obtain rp:I.N<=1000:=by lia
 obtain hn:(bD I.f D.nT).length<=1000:=by rw[fB];have:=T.n;lia
 obtain SF:numsOf D=(List.range D.nT).map λi:Nat=>V.int (i+1):=by
  unfold numsOf;congr 1;rw[List.filter_eq_self];intro i P;rw[ej]at P;rcases w.at i with⟨h,e⟩|⟨k,rfl,e⟩<;>rw[e]
  .show decide (code (s.ph i).st≠251/\code (s.ph i).st≠142)=true;rw[(B i h).1];decide
  .have:=w.kN P;show decide (fM (s.sk k).st≠251/\fM (s.sk k).st≠142)=true;rw[BS this.1 k this.2];decide
 obtain gH:∀t Q j,j5 t Q pv (hp I.f D j)=(I.N<=1000/\tq t Q (.int I.N) (hp I.f D j)):=λt Q j=>by rw[IZ O,li]
 have ut:∀j,bM (hp I.f D j) pv (.int 0)=some (gm I 0):=λj=>vt (i:=0) O j (vn nj) (by decide);obtain S8:=TP (λi=>(i:Int)+1) (List.range D.nT);obtain hl:((List.range D.nT).map λi:Nat=>V.int (i+1)).length<=1000:=by rw[be,cC];have:=T.n;lia
 erw[gH,rp,J.dU,T.fQ,T.aY,hn];refine kZ (λU=>true) (λi=>V.int (i+1)) D.nT (by rw[iM,T.aY]) (λi P K q=> ?_) ?_
 .simp only[if_true]at q;erw[P,w.vf i];exact q
 rw[List.filter_eq_self.mpr (by simp)];obtain et:eA true (.int I.N) (hp I.f D j)=some (aX I.N):=by unfold eA;simp only[if_true];show(if(-1000:Int)<=I.N then some (aX I.N)else none)=_;rw[al (by lia)]
 obtain gI:(aX I.N).length<=1000:=by unfold aX;rw[be,cC];lia
 obtain e0:({D with aY:=bD I.f D.nT}:Fs)=D:=by rw[←T.aY]
 erw[hl,SF,S8,et,gI];refine fO (λxs l h=>(∀x∈xs,∃k:Nat,k<I.N/\x=V.int k)/\l 193=some (.ref #[I.f,14,0])/\l 220=some (.int I.N)/\l 224=some pv/\l 223=some (fN)/\h=hp I.f D j) (λxs l h i=>dh (kn _ _ _)) (λx xs l h i K q=> ?_) _ _ _ #[λx u=> ?_,rfl,rfl,rfl,rfl,?_] λl' h' i=> ?_
 .obtain⟨u,l1,l2,l3,l4,rfl⟩:=i;obtain⟨k,hk,rfl⟩:=u x (.head _);have G:=B k hk;obtain⟨fs,Tg,abv,f3⟩:=w.con.tb;obtain f1:D.tb.iC=some (.fz fs):=aq BR.iC Tg;have c:=w.ce k hk (.inl G.1);obtain rE:(D.cl (s.ph k).cn).target=.ref (kp (I.fb k)):=by have:=aq (λz=>z.2.1) c.2;rw[G.2.1]at this;exact this
  obtain⟨mm,Sr⟩:=Uo w (aa.b k hk);obtain R8:=w.iT hk;obtain lU:∀j,bM (hp I.f D j) pv (.int k)=some (gm I k):=λj=>vt O j (vn hk) (by lia);obtain Rw:bM (hp I.f D j) (fN) (.int k)=some (.ref #[I.f,2,k]):=dI (by rw[eW,iw hk];rfl) (by lia);obtain RP:∀h:H,bM h (.fz fs) (.int (I.fb k))=some (.ref (kp (I.fb k))):=λh=>dI (f3 _ (aa.b k hk)) (by have:=aa.b k hk;lia);obtain hL:eg D.aC (I.fa k)=some (.int k):=by have:=nk J (aa.a k hk);rw[G.2.2.2.2]at this;exact dI this (by have:=aa.a k hk;lia)
  obtain Rr:(D.tk k).call=.ref #[I.f,0,(s.ph k).cn]:=by rw[w.ti hk];unfold cV lK;rw[G.1];rfl
  obtain yH:eZ [.int (I.hand k),(I.aV k).v] [.int (I.hand 0),.none]=some true:=by rw[G.2.2.1,G.2.2.2.1];simp[eZ,rb,tQ,dK.v]
  obtain Td:(D.tk k).state=.str 245:=by rw[w.ti hk];show V.str (code (s.ph k).st)=_;rw[G.1];rfl
  obtain h5:∀(t:Bool) (Q:QV) (h:H),z8 2 t Q (gm I k) h=tq t Q (.tup [.int (I.hand k),(I.aV k).v]) h:=λt Q h=>by unfold gm;rw[Mi];simp
  have Gf:∀j,bM (hp I.f D j) (gm I 0) (.int 0)=some (.int (I.hand 0)):=λj=>rfl;erw[l1,l2,l3,l4,ut,Gf];rw[←G.2.2.2.1];refine JK _ nj ?_;erw[l1,l2,l3,l4,ut,Gf,lU,h5,yH,J.hh,hL,Rw,R8,Rr,Td,c.1,rE,Sr,f1,RP];exact q _ _ #[λy hy=>u y (.tail _ hy),by simp[upd,l1],by simp[upd,l2],by simp[upd,l3],by simp[upd,l4],rfl]
 .obtain⟨k,hk,rfl⟩:=bv.mp u;exact#[k,by simpa using ej.mp hk,rfl]
 .first|rfl|exact aq (λD=>hp I.f D j) e0
 .obtain⟨_,_,_,_,_,rfl⟩:=i;lk;exact aR q
def Xv(aa:bn I)(u:∀i,I.hand i=0\/I.hand i=1)(w:W s D)(ah:Gd s)(ai:jE s D)(B:fY I.f D.o (dH I) pv)(q:Q (.bool true) (hp I.f D j)):
 wG (n+3) (.fn 79) [kL (fN) (.fz (numsOf D)),pv] (hp I.f D j) Q X:=by
 k_lt tI;obtain z:numsOf D≠[]:=by
  unfold numsOf;obtain⟨i,y,h⟩:=ai.ex;intro e;rw[List.map_eq_nil_iff]at e;have:=(mU _ _).mp e i y;rw[decide_eq_false_iff_not]at this;refine this #[h,?_];rcases w.at i with⟨h',e⟩|⟨k,rfl,e⟩<;>rw[e]
  .exact(jR _).2.2.2
  .exact(jQ _).2.2.2
 obtain P:∀xs:List V,xs≠[]->da xs []=some false:=λxs h=>by
  cases xs with
  |nil=>exact absurd rfl h
  |cons x r=>rfl
 obtain d:∀(G:Ka) (l:Lc) (Q:k02) (h:H),pJ G [(false,193),(false,223),(false,222),(false,26)] l Q (kL (fN) (.fz (numsOf D))) h=Q .next (upd (upd (upd (upd l 193 (.ref #[I.f,14,0])) 223 (fN)) 222 (.ref #[I.f,20,0])) 26 (.fz (numsOf D))) h:=λG l Q h=>rfl;erw[d,P _ z];refine J3 aa u w ah ai B ?_;lk;exact aR q
def Xu(aa:bn I)(w:W s D)(ah:Gd s)(h6:∀i,i<I.N->(s.ph i).st=6)(hz:D.zs=some ((List.range I.N).map λi=>V.ref #[I.f,11,i]))(gf:fY I.f D.o (dH I) pv)(q:Q (.bool true) (hp I.f D j)):
 wG (n+3) (.fn 79) [kL (fN) (.fz []),pv] (hp I.f D j) Q X:=by
 refine rd (d:=tI) rfl rfl rfl ?_;unfold tI kL;have h4:=aa.n4;have h2:=aa.n2;have rp:I.N<=1000:=by lia
 have gH:∀t Q j,j5 t Q pv (hp I.f D j)=(I.N<=1000/\tq t Q (.int I.N) (hp I.f D j)):=λt Q j=>by rw[IZ gf,li]
 obtain et:eA true (.int I.N) (hp I.f D j)=some (aX I.N):=by unfold eA;simp only[if_true];show(if(-1000:Int)<=I.N then some (aX I.N)else none)=_;rw[al (by lia)]
 obtain gI:(aX I.N).length<=1000:=by unfold aX;rw[be,cC];lia
 erw[gH,rp,et,gI];refine fO (λxs l h=>(∀x∈xs,∃k:Nat,k<I.N/\x=V.int k)/\l 193=some (.ref #[I.f,14,0])/\l 224=some pv/\l 222=some (.ref #[I.f,20,0])/\h=hp I.f D j) (λxs l h i=>dh (kn _ _ _)) (λx xs l h i K q=> ?_) _ _ _ #[λx hx=> ?_,rfl,rfl,rfl,rfl] λl' h' i=> ?_
 .obtain⟨hx,z,P,u,rfl⟩:=i;obtain⟨k,hk,rfl⟩:=hx x (.head _);have L:=ah.loc k hk;have ok:=L.ok;rw[h6 k hk]at ok;have h5:=(lg ok).2;have v8:(D.st k).cw=.int (s.ph k).cw:=aq SR.cw (congrFun w.st k);have v9:(D.st k).cg=.int (s.ph k).cg:=aq SR.cg (congrFun w.st k);have lU:∀j,bM (hp I.f D j) pv (.int k)=some (gm I k):=λj=>vt gf j (vn hk) (by lia);have rC:eg ((List.range I.N).map λi=>V.ref #[I.f,11,i]) k=some (.ref #[I.f,11,k]):=dI (by rw[eW,iw hk];rfl) (by lia);have B:(s.ph k).cw+(s.ph k).cg=I.bE k:=by
   have:=L.cnt;rw[h5.1]at this;have e:((0+wP (s.ph k).pos:Nat):Int)=0:=by rcases h5.2 with e|e<;>rw[e]<;>rfl
   rw[e,Int.add_zero]at this;exact this
  have hU:∀(G:Ka) (l:Lc) (Q:k02) (h:H),pJ G [(false,190),(false,188),(false,23),(false,187),(false,183)] l Q (gm I k) h=Q .next (upd (upd (upd (upd (upd l 190 (.int (I.hand k))) 188 (I.aV k).v) 23 (.int (I.rest k))) 187 (.int (I.bI k))) 183 (.int (I.bE k))) h:=λG l Q h=>rfl;have hS:=w.iS hk;have fin:∀l',(∀x,x≠219->x≠190->x≠188->x≠23->x≠187->x≠183->x≠207->l' x=l x)->K .next l' (hp I.f D j):=λl' du=>q _ _ #[λy hy=>hx y (.tail _ hy),by rw[du 193 (by decide) (by decide) (by decide) (by decide) (by decide) (by decide) (by decide)];exact z,by rw[du 224 (by decide) (by decide) (by decide) (by decide) (by decide) (by decide) (by decide)];exact P,by rw[du 222 (by decide) (by decide) (by decide) (by decide) (by decide) (by decide) (by decide)];exact u,rfl];cases O:I.aV k with
  |none=>
   have FY:=L.nK O;obtain kR:¬((0:Int)<0):=by lia
   obtain Rv:(s.ph k).cw+0=I.bE k:=by rw[FY]at B;exact B
   erw[z,P,u,lU,hU,O,dK.v,hz,pU,rC,hS,v8,v9,Rv,FY,gt_iff_lt,kR];exact fin _ λx a b c d e f g=>by simp[upd,a,b,c,d,e,f,g]
  |bB=>erw[z,P,u,lU,hU,O,dK.v,hz,pU,rC,hS,v8,v9,B];exact fin _ λx a b c d e f g=>by simp[upd,a,b,c,d,e,f,g]
  |int w=>erw[z,P,u,lU,hU,O,dK.v,hz,pU,rC,hS,v8,v9,B];exact fin _ λx a b c d e f g=>by simp[upd,a,b,c,d,e,f,g]
 .obtain⟨k,hk,rfl⟩:=bv.mp hx;exact#[k,by simpa using ej.mp hk,rfl]
 .obtain⟨_,z,P,u,rfl⟩:=i;have FX:D.aC=List.replicate I.N V.none:=by
   rw[w.aC];unfold jF;rw[List.eq_replicate_iff];refine#[by simp,λb hb=> ?_];obtain⟨k,hk,rfl⟩:=bv.mp hb;obtain eH:=ej.mp hk;cases hd:s.hd k with
   |none=>rfl
   |some i=>exfalso;have J:=(w.hold k eH i).mp hd;have:=(Gc (ah.loc i J.1).ok (.inr (h6 i J.1)) J.2).1;rw[h6 i J.1]at this;exact absurd this (by decide)
  obtain S6:∀m:Nat,da (List.replicate m V.none) (List.replicate m V.none)=some true:=λm=>by
   unfold da;rw[al rfl];induction m with
   |zero=>rfl
   |succ m ih=>simp only[List.replicate_succ,eZ,tQ,ih];simp
  obtain iD:(-200:Int)<I.N:=by lia
  obtain hX:(I.N:Int)<200:=by lia
  obtain za:(List.replicate I.N V.none).length<=1000:=by rw[List.length_replicate];lia
  erw[z,P,gH,rp,iD,hX,Int.toNat_natCast,za,(w.tb aa).hh,FX,S6];exact aR (by simpa only[FX]using q)
def Bp{af:Type}{p p':Nat->Prop}[DecidablePred p][DecidablePred p']{o:af->Slot}{F:Nat->af}{t:af}(h:∀z,z≠i->(p' z↔p z))(z:Nat)(hz:z≠i):tab p' (λz=>o (uF F i t z)) z=tab p (λz=>o (F z)) z:=(gQ (p:=p') z hz).trans (lr h z hz)
def Jx{f:Nat}{l:k32}{j:Jk}{o:H}{k k' k'' i u B:Nat}{s s' J:Slot}(c c' e:Nat->Slot)(hk:k<l.length/\k'<l.length/\k''<l.length)(O:c i=s)(h2:∀z,z≠i->c z=iL l k z)(t8:c' u=s')(jU:∀z,z≠u->c' z=iL (l.set k c) k' z)
 (QW:e B=J)(QZ:∀z,z≠B->e z=iL ((l.set k c).set k' c') k'' z):(((er f l j o).set #[f,k,i] s).set #[f,k',u] s').set #[f,k'',B] J=er f (((l.set k c).set k' c').set k'' e) j o:=by
 rw[cL k c hk.1 O h2,cL k' c' (by rw[List.length_set];exact hk.2.1) t8 jU,cL k'' e (by rw[List.length_set,List.length_set];exact hk.2.2) QW QZ]
def iQ(h:H)(f k i:Nat)(s:Slot)(k' u:Nat)(hk:(k'=k)=False):(h.set #[f,k,i] s) #[f,k',u]=h #[f,k',u]:=ak (by rw[Nm.mk.injEq];rintro⟨_,e,_⟩;rw[hk]at e;exact e)
def pN:Slot:=.live (.inst 4 [(135,.int 32),(134,.int 1000000),(133,.int 50),(132,.int 10000),(131,.int 100000),(130,.int 50),(129,.int 1000000)])
section
variable{n f:Nat}{h:H}{D:Fs}{j:Jk}{Q X:QV}
def iG(h:Nat.beq k k'=false):(#[f,k,i]:Nm)≠#[u,k',B]:=λe=>Nat.ne_of_beq_eq_false h (aq Nm.k e)
def NC(hf:h #[f,1,0]=.fresh)(q:Q (.ref #[f,1,0]) (h.set #[f,1,0] (.live (.inst 1 [(33,.int 0)])))):wG (n+1) (.cls 1) [] h Q X:=
 m5 (d:=Dn) #[f,1,0] rfl rfl rfl hf rfl (ft (nm:=λU=>#[f,0,0]) rfl (aP rfl) (nP rfl q))
def UH(hf:h #[f,4,0]=.fresh)(q:Q (.ref #[f,4,0]) (h.set #[f,4,0] pN)):wG (n+1) (.cls 4) [] h Q X:=
 m5 (d:=je) #[f,4,0] rfl rfl rfl hf rfl (ft (nm:=λU=>#[f,0,0]) rfl (aP rfl) (nP rfl q))
def U1(hf:h #[f,5,0]=.fresh)(e:h #[f,18,0]=.fresh)(q:Q (.ref #[f,5,0]) ((h.set #[f,18,0] (.live (.list []))).set #[f,5,0] (oM #[.ref #[f,18,0],.bool false]))):wG (n+1) (.cls 5) [.int 0,.none] h Q X:=
 m5 (d:=Dq) #[f,5,0] rfl rfl rfl hf rfl (ft (nm:=λU=>#[f,18,0]) rfl (aP rfl) (aG (aG (iG rfl) e) (nP rfl q)))
def GA{a:Nm}{c g:Nat}{l:Lc}{e:E}{r:Ss}{fs:k16}{u:V}{h':H}(B:l 6=some (.ref a))(J:fs.length+1<=100)(he:∀K X':QV,K u (h'.set a (.live (.inst c fs)))->au az (wG n) bx e false l (h.set a (.live (.inst c fs))) K X')
 (q:iW n a c l Q X r h' (cc g u fs)):iW n a c l Q X (.cons (.fg (.loc 6) g e) r) h fs:=rK.mpr (he _ _ (lZ B J q))
def rQ(f:Nat)(h:H)(e u:V):H:=((((((h.set #[f,1,0] (.live (.inst 1 [(33,.int 0)]))).set #[f,17,0] (.live (.list []))).set #[f,18,0] (.live (.list []))).set #[f,5,0] (oM #[.ref #[f,18,0],.bool false])).set #[f,19,0] (.live (.list []))).set #[f,6,0] (oK #[e,u,.ref #[f,1,0],.ref #[f,17,0],.int 0,.int 0,.ref #[f,5,0],.ref #[f,19,0]]))
def Y9{B J:V}(hf:∀k i,h #[f,k,i]=.fresh\/k=16\/k=4)(q:Q (.ref #[f,6,0]) (rQ f h B J)):wG (n+2) (.cls 6) [B,J] h Q X:=by
 have x:∀k i,k≠16->k≠4->h #[f,k,i]=.fresh:=λk i D G=>by
  rcases hf k i with h|h|h
  .exact h
  .exact absurd h D
  .exact absurd h G
 obtain e:∀(h:H) (s s':Slot),(h.set #[f,6,0] s).set #[f,1,0] s'=(h.set #[f,1,0] s').set #[f,6,0] s:=λh s s'=>qg _ _ _ _ _ (iG rfl);obtain z:∀(h:H) (s s' y:Slot),((h.set #[f,6,0] s).set #[f,18,0] s').set #[f,5,0] y=((h.set #[f,18,0] s').set #[f,5,0] y).set #[f,6,0] s:=λh s s' y=>by rw[qg h _ _ _ _ (iG rfl),qg _ _ _ _ _ (iG rfl)]
 refine m5 (d:=Dt) #[f,6,0] rfl rfl rfl (x _ _ (by decide) (by decide)) rfl (ft (nm:=λU=>#[f,0,0]) rfl (aP rfl) ?_);refine GA (h':=h.set #[f,1,0] (.live (.inst 1 [(33,.int 0)]))) (u:=.ref #[f,1,0]) rfl (gW (by kernel_rfl)) (λK X' q=> ?_) (ft (nm:=λU=>#[f,17,0]) rfl (gW (by kernel_rfl)) (aG (aG (iG rfl) ((ak (iG rfl)).trans (x _ _ (by decide) (by decide)))) ?_))
 .rw[←e]at q;exact NC (n:=n) (f:=f) ((ak (iG rfl)).trans (x _ _ (by decide) (by decide))) q
 refine GA (h':=(((h.set #[f,1,0] (.live (.inst 1 [(33,.int 0)]))).set #[f,17,0] (.live (.list []))).set #[f,18,0] (.live (.list []))).set #[f,5,0] (oM #[.ref #[f,18,0],.bool false])) (u:=.ref #[f,5,0]) rfl (gW (by kernel_rfl)) (λK X' q=> ?_) (ft (nm:=λU=>#[f,19,0]) rfl (gW (by kernel_rfl)) (aG (aG (iG rfl) ?_) (nP rfl q)))
 .rw[←z]at q;exact U1 (n:=n) (f:=f) (by simp only[iQ,Nat.reduceEqDiff];exact x _ _ (by decide) (by decide)) (by simp only[iQ,Nat.reduceEqDiff];exact x _ _ (by decide) (by decide)) q
 .simp only[iQ,Nat.reduceEqDiff];exact x _ _ (by decide) (by decide)
def Y8{nm ms:V}{m:Int}(e:D.nT<50)(q:Q (.ref #[f,2,D.nT]) (hp f {D with tk:=uF D.tk D.nT #[.int m,nm,ms,.str 142,.ref #[f,7,D.nT],.fz [],.none,.none,.ref #[f,10,D.nT],.none,.int 0],tq:=uF D.tq D.nT [],sv:=uF D.sv D.nT [],nT:=D.nT+1} j)):
 wG (n+1) (.cls 2) [.int m,nm,ms] (hp f D j) Q X:=by
 obtain y:hp f D j #[f,2,D.nT]=.fresh:=by rw[cy];exact ak (fK _)
 obtain G:hp f D j #[f,7,D.nT]=.fresh:=by rw[cy];exact ak (by lia)
 obtain h:hp f D j #[f,10,D.nT]=.fresh:=by rw[cy];exact ak (fK _)
 refine m5 (d:=Ds) #[f,2,D.nT] rfl rfl rfl y rfl (ft (nm:=λk=>#[f,bif Nat.beq k 21 then 7 else 10,D.nT]) rfl (aP rfl) (aG (aG (iG rfl) G) (aG (aG (iG rfl) ((ak (iG rfl)).trans h))
  (nP (s:=oT #[.int m,nm,ms,.str 142,.ref #[f,7,D.nT],.fz [],.none,.none,.ref #[f,10,D.nT],.none,.int 0]) (by kernel_rfl) (cast (aq (Q (.ref #[f,2,D.nT])) ?_) q)))))
 exact(Jx (l:=cv D) (o:=D.o) (k:=7) (k':=10) (k'':=2) (tab (λi=>i<D.nT+1\/(50<=i/\i<50+D.nG)) λi=>.live (.aU (uF D.tq D.nT [] i))) (tab (λi=>i<D.nT+1) λi=>.live (.list (uF D.sv D.nT [] i)))
  (tab (λi=>i<D.nT+1) λi=>oT (uF D.tk D.nT #[.int m,nm,ms,.str 142,.ref #[f,7,D.nT],.fz [],.none,.none,.ref #[f,10,D.nT],.none,.int 0] i)) (aP rfl)
  (fU (p:=λi=>i<D.nT+1\/(50<=i/\i<50+D.nG)) (o:=λx=>.live (.aU x)) (.inl (bA _))) (Bp (o:=λx=>.live (.aU x)) λz hz=>or_congr (jx z hz) Iff.rfl)
  (fU (p:=λi=>i<D.nT+1) (o:=λx=>.live (.list x)) (bA _)) (Bp (o:=λx=>.live (.list x)) jx)
  (fU (p:=λi=>i<D.nT+1) (o:=oT) (bA _)) (Bp (o:=oT) jx)).symm
def UZ{nm:V}{m:Int}(hT:D.nT<40)(u:D.lim=pN)(e:D.K.rX=.ref #[f,4,0])(B:D.K.aY=.ref #[f,17,0])(htl:D.aY.length<=40)(O:D.K.cJ=.int m)(J:D.M.bC=.ref #[f,18,0])(ug:D.bC.length<=40)
 (q:Q (.ref #[f,2,D.nT]) (hp f {D with K:={D.K with cJ:=.int (m+1)},tk:=uF D.tk D.nT #[.int (m+1),nm,.ref #[f,5,0],.str 142,.ref #[f,7,D.nT],.fz [],.none,.none,.ref #[f,10,D.nT],.none,.int 0],tq:=uF D.tq D.nT [],sv:=uF D.sv D.nT [],nT:=D.nT+1,aY:=D.aY++[.ref #[f,2,D.nT]],bC:=D.bC++[.ref #[f,2,D.nT]]} j)):
 wG (n+2) (.fn 44) [.ref #[f,6,0],nm,.ref #[f,5,0],.int 1] (hp f D j) Q X:=by
 k_lt DY;obtain h:D.aY.length<=1000:=by lia
 obtain d:¬((D.aY.length:Int)>=50):=by lia
 obtain x:D.aY.length<1000:=by lia
 obtain y:D.bC.length<1000:=by lia
 obtain z:aT pN 130=some (.int 50):=rfl;erw[e,B,h,Xn,u,z,d];refine vd O ?_;lk;refine Y8 (by show D.nT<50;lia) ?_;erw[bA,J,y,B,x];exact aR (by simpa only[e,B,J,u]using q)
end
def lc(f i:Nat)(nm:V)(st:Nat):TR:=#[.int (i+1),nm,.ref #[f,5,0],.str st,.ref #[f,7,i],.fz [],.none,.none,.ref #[f,10,i],.none,.int 0]
structure Bd(f:Nat)(D:Fs):Prop where
 lim:D.lim=pN
 kl:D.K.rX=.ref #[f,4,0]
 kt:D.K.aY=.ref #[f,17,0]
 l9:D.K.nZ=.ref #[f,5,0]
 num:D.K.cJ=.int (D.nT:Nat)
 md:D.M.bC=.ref #[f,18,0]
 aY:D.aY=bD f D.nT
 bC:D.bC=bD f D.nT
def Ko(f n:Nat):bD f (n+1)=bD f n++[.ref #[f,2,n]]:=by unfold bD;rw[List.range_succ,List.map_append];rfl
def j8(f:Nat)(D:Fs)(m:Nat):Fs:={D with nT:=m,aY:=bD f m,bC:=bD f m,K:={D.K with cJ:=.int (m:Nat)}}
def HR{f:Nat}{D:Fs}{m:Nat}{n:V}{a b:k00}{tk:Nat->TR}{tq:Nat->List (Nat×V)}{sv:Nat->List V}(e:tk=D.tk)(u:tq=D.tq)(B:sv=D.sv)(J:a=bD f m)(hb:b=bD f m)(O:n=.int (m:Nat)):{D with K:={D.K with cJ:=n},tk:=tk,tq:=tq,sv:=sv,nT:=m,aY:=a,bC:=b}=j8 f D m:=by subst e u B J hb O;rfl
def Y4{p:Nat->Prop}[DecidablePred p]{g e:Nat->Slot}(h:∀i,p i->g i=e i):tab p g=tab p e:=funext λi=>by
 unfold tab;by_cases d:p i
 .rw[al d,al d,h i d]
 .rw[ak d,ak d]
def SN{f:Nat}{D:Fs}{j:Jk}{g:Nat->TR}(h:∀i,i<D.nT->D.tk i=g i):hp f D j=hp f {D with tk:=g} j:=
 aq (λc=>er f ((cv D).set 2 c) j D.o) (Y4 (p:=λi=>i<D.nT) λi d=>aq oT (h i d))
section
variable{n f:Nat}{h:H}{D:Fs}{j:Jk}{Q X:QV}
def sd(nm:E):E:=.call (.ba 141) (.cons (.cf 93) (.cons nm (.cons (.attr (.cf 93) 148) (.cons (.int 1) .nil))))
def Dl{G:Ka}{u:Nat}{o:H}{c:H->Prop}{mk:Nat}(O:G 93=some #[f+2,0,mk])(J:j.g mk=.live (.cell (some (.ref #[f,6,0]))))(hc:∀D:Fs,D.o=o->c (hp f D j)):
 ∀(ps acc:k00) (D:Fs) (e:k21),D.o=o->Bd f D->D.nT+ps.length<=10->(∀i,D.nT<=i->i<D.nT+ps.length->D.tk i=lc f i (.str u) 142/\D.tq i=[]/\D.sv i=[])->e (acc++(List.range' D.nT ps.length).map λi=>V.ref #[f,2,i]) (hp f (j8 f D (D.nT+ps.length)) j)->
  gZ c (kC az (wG (n+2)) G (sd (.str u)) [191] .nil) ps acc (hp f D j) e:=by
 intro ps;induction ps with
 |nil=>intro acc D e h B y er q;have q:e (acc++[]) (hp f (j8 f D D.nT) j):=q;rw[←HR (f:=f) (D:=D) (m:=D.nT) rfl rfl rfl B.aY B.bC B.num,List.append_nil]at q;exact#[hc D h,q]
 |cons p ps d=>
  intro acc D e h B y er q;rw[gu]at y er;obtain⟨P,Q,t3⟩:=er D.nT (bG _) (by lia);have d:=d (acc++[.ref #[f,2,D.nT]]) (j8 f D (D.nT+1)) e h #[B.lim,B.kl,B.kt,B.l9,rfl,B.md,rfl,rfl] (by show D.nT+1+ps.length<=10;lia) (λi z x=>er i (Nat.le_of_succ_le z) (by have x:i<D.nT+1+ps.length:=x;lia)) (by
   rw[List.append_assoc];show e _ (hp f (j8 f D (D.nT+1+ps.length)) j);rw[Nat.add_assoc,Nat.add_comm 1];exact q)
  rw[←HR (f:=f) (D:=D) (n:=.int ((D.nT:Int)+1)) (ou P) (ou Q) (ou t3) ((aq (· ++_) B.aY).trans (Ko f D.nT).symm) ((aq (· ++_) B.bC).trans (Ko f D.nT).symm) rfl]at d;refine#[hc D h,?_];unfold sd;erw[O,J,B.l9];refine UZ (by lia) B.lim B.kl B.kt (by rw[B.aY,fB];lia) B.num B.md (by rw[B.bC,fB];lia) ?_;lk;simpa only[B.l9,sd,lc]using d
def i9(tk:Nat->TR)(xs:k06):Nat->TR:=λi=>if i∈xs then{tk i with state:=.str 173}else tk i
def Cq{xs:k06}(bl:xs.length<=100)(hx:∀i∈xs,i<D.nT/\(D.tk i).state=.str 142)(u:xs.Nodup)(q:Q .none (hp f {D with tk:=i9 D.tk xs} j)):
 wG (n+1) (.fn 45) [.none,.fz (xs.map λi=>V.ref #[f,2,i])] (hp f D j) Q X:=by
 k_lt Dv;have hl:(xs.map λi=>V.ref #[f,2,i]).length<=1000:=by rw[be];lia
 erw[hl];refine fO (λP l h=>∃pre post,xs=pre++post/\P=post.map (λi=>V.ref #[f,2,i])/\l 59=some .none/\h=hp f {D with tk:=i9 D.tk pre} j) (λP l h i=>dh (mx _ _)) (λy P l h i K q=> ?_) _ _ _ #[[],xs,rfl,rfl,rfl,?_] λl' h' i=> ?_
 .obtain⟨pre,post,e,d,G,rfl⟩:=i;cases post with
  |nil=>cases d
  |cons x post=>
   rw[List.map_cons]at d;cases d;have uB:x∈xs:=by rw[e];simp
   have J:x∉pre:=by rw[e,List.nodup_append]at u;intro h;exact u.2.2 x h x (.head _) rfl
   have B:=hx x uB;have O:i9 D.tk pre x=D.tk x:=ak J;have hs:(i9 D.tk pre x).state=.str 142:=by rw[O];exact B.2
   erw[B.1,hs,G];refine q _ _ #[pre++[x],post,by rw[e];simp,rfl,by simpa[upd]using G,?_];congr 2;funext i;unfold i9;by_cases z:i=x
   .subst z;rw[aD];simp[J]
   .rw[aO _ _ _ _ z];simp[z]
 .have:i9 D.tk []=D.tk:=by funext i;simp[i9]
  rw[this]
 .obtain⟨pre,post,e,d,G,rfl⟩:=i;have:post=[]:=by
   cases post with
   |nil=>rfl
   |cons _ _=>cases d
  subst this;rw[List.append_nil]at e;subst e;lk;exact bt q
def O6(T:D.M.bC=.ref #[f,18,0])(J:D.K.nZ=.ref #[f,5,0])(hm:m<=10)(hd:D.bC=bD f m)(u:m<=D.nT)(O:∀i,i<m->∃x,(D.tk i).state=.str x/\x≠142)(q:Q .none (hp f {D with M:={D.M with ended:=.bool true}} j)):
 wG (n+2) (.fn 50) [.ref #[f,6,0]] (hp f D j) Q X:=by
 k_lt DJ;erw[J];k_lt DH;obtain e:(bD f m).length<=1000:=by rw[fB];lia
 erw[T,hd,e];refine fO (λz l h=>(∀y∈z,∃i,i<m/\y=V.ref #[f,2,i])/\h=hp f D j) (λz l h i=>by rw[i.2];exact dh (lx (by rw[qb,hd]))) (λy z l h i K q=> ?_) _ _ _ #[λy d=>sL d,?_] λl' h' i=> ?_
 .obtain⟨d,rfl⟩:=i;obtain⟨i,G,rfl⟩:=d y (.head _);obtain⟨x,hx,B⟩:=O i G;obtain P:i<D.nT:=by lia
  erw[P,hx,B];exact q _ _ #[λy zi=>d y (.tail _ zi),rfl]
 .simp only[hd]
 .obtain⟨_,rfl⟩:=i;lk;refine bt ?_;erw[J];exact bt (by simpa only[T]using q)
end
def Kt(i:Nat):∀t,cW i t++(1::jK i 1)=cW i (t+1)
 |0=>by simp[cW]
 |t+1=>by have d:=Kt i t;show((1::jK i 1)++cW i t)++(1::jK i 1)=(1::jK i 1)++cW i (t+1);rw[List.append_assoc,d]
section
variable{n f:Nat}{h:H}{D:Fs}{j:Jk}{Q X:QV}
def tw{a:Nm}{l:Lc}{e:E}{v:V}{r:Ss}{ai:k00}{K:k02}{ax:k08}{b:Nat}(hb:Nat.ble b 1000=true)(hD:ai.length<b)(u:l 182=some (.ref a))(he:∀(h:H) (Q X:QV),au az (wG n) bx e false l h Q X=Q v h)(q:(ai++[v]).length<b+1->bc az (wG n) bx r l (h.set a (.live (.list (ai++[v])))) K ax):
 bc az (wG n) bx (.cons (.ex (.gj (.loc 182) 0 (.cons e .nil))) r) l (h.set a (.live (.list ai))) K ax:=by
 erw[u,he,set_same,H.set_set,bU hD (gW hb)];exact q (by rw[eV];exact Nat.succ_lt_succ hD)
def CC{a:Nm}{l:Lc}{x:Nat}{z:Int}{e:E}{v:V}{r:Ss}{ai:k00}{K:k02}{ax:k08}{b:Nat}(hb:Nat.ble b 1000=true)(hD:ai.length<b)(u:l 182=some (.ref a))(hx:l x=some (.int z))(he:∀(h:H) (Q X:QV),au az (wG n) bx e false l h Q X=Q v h)(q:(ai++if 0<z then[v]else[]).length<b+1->bc az (wG n) bx r l (h.set a (.live (.list (ai++if 0<z then[v]else[])))) K ax):
 bc az (wG n) bx (.cons (.ite (.cmp .gt (.loc x) (.int 0)) (.cons (.ex (.gj (.loc 182) 0 (.cons e .nil))) .nil) .nil) r) l (h.set a (.live (.list ai))) K ax:=by
 by_cases c:0<z
 .rw[al c]at q;erw[hx,gt_iff_lt,c,u,he,set_same,H.set_set,bU hD (gW hb)];exact q (by rw[eV];exact Nat.succ_lt_succ hD)
 .rw[ak c,List.append_nil]at q;erw[hx,gt_iff_lt,c];exact q (Nat.lt_succ_of_lt hD)
def U0{p:Prop}[Decidable p]{f:Nat->V}:(if p then[x]else[]).map f=if p then[f x]else[]:=by split<;>rfl
def Zo(i:Nat)(ai:k00):ai++[dv i 1]++(if 0<I.rest i then[dv i 2]else[])++[dv i 3]++(if 0<I.bI i then[dv i 4]else[])++[dv i 5]++[dv i 6]=ai++(1::jK i 1).map (dv i):=by simp only[jK,List.map_append,List.map_cons,U0,List.append_assoc,List.cons_append,List.nil_append,List.map_nil]
def N7{i:Nat}(hf:h #[I.f,12,i]=.fresh)(ho:I.bE i<=10)(q:Q (.ref #[I.f,12,i]) (h.set #[I.f,12,i] (.live (.list ((cW i (I.bE i)).map (dv i)))))):
 wG (n+1) (.fn 69) [.fz [.int (I.fa i),.int (I.fb i)],gm I i] h Q X:=by
 k_lt DR;obtain hU:∀(G:Ka) (l:Lc) (Q:k02) (h:H),pJ G [(false,190),(false,188),(false,23),(false,187),(false,183)] l Q (gm I i) h=Q .next (upd (upd (upd (upd (upd l 190 (.int (I.hand i))) 188 (I.aV i).v) 23 (.int (I.rest i))) 187 (.int (I.bI i))) 183 (.int (I.bE i))) h:=λG l Q h=>rfl;erw[hU];refine#[#[I.f,12,i],hf,?_];obtain et:∀h:H,eA true (.int (I.bE i)) h=some (aX (I.bE i)):=λh=>by unfold eA;simp only[if_true];show(if(-1000:Int)<=(I.bE i:Int)then some (aX (I.bE i:Int))else none)=_;rw[al (by lia)]
 obtain gI:(aX (I.bE i)).length<=1000:=by unfold aX;rw[be,cC];lia
 erw[et,gI];refine fO (λxs l h'=>∃t,xs.length+t=I.bE i/\l 185=some (.fz [.int (I.fa i),.int (I.fb i)])/\l 188=some (I.aV i).v/\l 23=some (.int (I.rest i))/\l 187=some (.int (I.bI i))/\l 182=some (.ref #[I.f,12,i])/\h'=h.set #[I.f,12,i] (.live (.list ((cW i t).map (dv i))))) (λxs l h i=>dh (kn _ _ _)) (λx xs l h' ae K q=> ?_) _ _ _
  #[0,by unfold aX;rw[be,cC];simp,rfl,rfl,rfl,rfl,rfl,rfl] λl' h' ae=> ?_
 .obtain⟨t,e,y,u,D,P,d,rfl⟩:=ae;rw[gu]at e;obtain J:=vK i t;obtain Ta:=Kt i t;generalize B:(cW i t).map (dv i)=ai;have O:ai.length<=6*t:=by rw[←B,be];exact J
  show bc az (wG n) bx (.cons (.ex (.gj (.loc 182) 0 (.cons _ .nil))) _) (upd l 184 x) _ K _;refine tw (a:=#[I.f,12,i]) (v:=dv i 1) (b:=900) rfl (by lia) d (λh Q X=>by erw[y,dv]) λh=> ?_;refine CC (z:=I.rest i) (v:=dv i 2) rfl h d D (λh Q X=>by erw[D,dv]) λh=> ?_;refine tw (v:=dv i 3) rfl h d (λh Q X=>by erw[y,u,dv]) λh=> ?_;refine CC (z:=I.bI i) (v:=dv i 4) rfl h d P (λh Q X=>by erw[P,dv]) λh=> ?_;refine tw (v:=dv i 5) rfl h d (λh Q X=>by erw[y,dv]) λh=> ?_;refine tw (v:=dv i 6) rfl h d (λh Q X=>by erw[y,dv]) λU=> ?_;refine q _ _ #[t+1,by lia,y,u,D,P,d,?_];rw[Zo,←Ta,List.map_append,B]
 .obtain⟨t,e,y,u,D,P,d,rfl⟩:=ae;have:t=I.bE i:=by simpa using e
  subst this;erw[d];exact aR q
def XY(hk:D.nS=k):((((hp f D j).set #[f,12,k] (.live (.list (D.dl k)))).set #[f,13,k] (.live (.list (D.mn k)))).set #[f,11,k] (oS (D.st k)))=hp f {D with nS:=k+1} j:=by
 subst hk;exact Jx (l:=cv D) (o:=D.o) (tab (λi=>i<D.nS+1) λi=>.live (.list (D.dl i))) (tab (λi=>i<D.nS+1) λi=>.live (.list (D.mn i))) (tab (λi=>i<D.nS+1) λi=>oS (D.st i)) (aP rfl)
  (al (bA _)) (lr jx) (al (bA _)) (lr jx) (al (bA _)) (lr jx)
def VL(hk:D.nG=k)(e:D.nT<50):(((hp f D j).set #[f,7,50+k] (.live (.aU (D.tq (50+k))))).set #[f,3,k] (oG (D.gr k)))=hp f {D with nG:=k+1} j:=by
 subst hk;refine(aq (λh:H=>h.set _ _) (cL (l:=cv D) (o:=D.o) 7 (tab (λi=>i<D.nT\/(50<=i/\i<50+(D.nG+1))) λi=>.live (.aU (D.tq i))) (aP rfl) (al (.inr #[dL _ _,bA _])) (lr λz hz=>or_congr Iff.rfl (and_congr Iff.rfl (jx (n:=50+D.nG) z hz))))).trans
  (cL (l:=(cv D).set 7 _) (o:=D.o) 3 (tab (λi=>i<D.nG+1) λi=>oG (D.gr i)) (aP rfl) (al (bA _)) (lr jx))
def VM(hk:D.nG=k)(e:D.nT<50)(hg:D.gr k=#[.int (90+k),.ref #[f,7,50+k],.none])(u:D.tq (50+k)=[])(q:Q (.ref #[f,3,k]) (hp f {D with nG:=k+1} j)):
 wG (n+1) (.cls 3) [.int (90+k),.fz [.str 189]] (hp f D j) Q X:=by
 obtain h:hp f D j #[f,3,k]=.fresh:=by rw[cy,←hk];exact ak (fK _)
 obtain x:hp f D j #[f,7,50+k]=.fresh:=by rw[cy,←hk];exact ak (by lia)
 rw[←VL hk e,u,hg]at q;exact m5 (d:=Dr) #[f,3,k] rfl rfl rfl h rfl (ft (nm:=λU=>#[f,7,50+k]) rfl (aP rfl) (aG (aG (iG rfl) x) (nP rfl q)))
end
def J0:Jk:=#[λU=>.fresh,0,λU U=>rfl]
def hz(f:Nat)(j:Jk)(o:H):H:=λa=>if a.f=f then .fresh else if a.f=f+2/\a.k=0 then j.g a.i else o a
def Tu{f:Nat}{o:H}(h:∀a:Nm,a.f=f\/a.f=f+2->o a=.fresh):hz f J0 o=o:=by
 funext a;unfold hz;by_cases d:a.f=f
 .rw[al d,h a (.inl d)]
 .rw[ak d];by_cases x:a.f=f+2/\a.k=0
  .rw[al x,h a (.inr x.1)];rfl
  .rw[ak x]
def rJ(f:Nat)(j:Jk)(o:H)(k i:Nat):hz f j o #[f,k,i]=.fresh:=al rfl
def Gw(f:Nat)(j:Jk)(o:H)(m:Nat):hz f j o #[f+2,0,m]=j.g m:=by unfold hz;rw[ak (by simp),al #[rfl,rfl]]
def uC(f:Nat)(j:Jk)(o:H)(m:Nat)(s:Slot)(j':Jk)(h:∀k,j'.g k=if k=m then s else j.g k):(hz f j o).set #[f+2,0,m] s=hz f j' o:=by
 funext #[x,y,z];by_cases D:x=f
 .simp[H.set,hz,Nm.mk.injEq,D]
 .by_cases d:x=f+2/\y=0
  .obtain⟨rfl,rfl⟩:=d;by_cases B:z=m<;>simp[H.set,hz,Nm.mk.injEq,B,h]
  .have:¬((#[x,y,z]:Nm)=#[f+2,0,m]):=λh=>d (by rw[Nm.mk.injEq]at h;exact#[h.1,h.2.1]);unfold H.set hz;rw[ak this];simp only[D,d,if_false]
def Gy(f:Nat)(j:Jk)(o:H)(m:Nat)(s:Slot)(e:m<j.n):(hz f j o).set #[f+2,0,m] s=hz f (j.wr m s) o:=uC _ _ _ _ _ _ λk=>by
 by_cases h:k=m
 .subst h;rw[Jk.iZ _ _ _ e,al rfl]
 .rw[Jk.gn _ _ _ _ h,ak h]
def JB(h:H)(f k i m:Nat)(s s':Slot):(h.set #[f,k,i] s).set #[f+2,0,m] s'=(h.set #[f+2,0,m] s').set #[f,k,i] s:=qg _ _ _ _ _ (by simp)
def Jg(h:H)(f k i m:Nat)(s:Slot):(h.set #[f,k,i] s) #[f+2,0,m]=h #[f+2,0,m]:=ak (by simp)
def qP(f:Nat)(o h:H):Prop:=∀a:Nm,a.f≠f->a.f≠f+2->h a=o a
def Mk(f:Nat)(j:Jk)(o:H):qP f o (hz f j o):=λa d x=>by unfold hz;rw[ak d,ak (λh=>x h.1)]
def Ml{f:Nat}{o h:H}(A:qP f o h)(k i:Nat)(s:Slot):qP f o (h.set #[f,k,i] s):=λa d x=>by unfold H.set;rw[ak (λe=>d (by rw[e]))];exact A a d x
def WR{f:Nat}{o h:H}{ps:k00}{pv:V}(A:qP f o h)(hp:fY f o ps pv)(t:Bool)(Q:QV):j5 t Q pv h=(ps.length<=1000/\tq t Q (.int ps.length) h):=by
 rcases hp with rfl|⟨a,rfl,d,x,y⟩
 .rfl
 .rw[Cj,Hz,A a d x,y,Hy,fw,Ci]
def vB(i:Nat):SR:=#[.ref #[I.f,12,i],.none,.ref #[I.f,13,i],.int 0,.int 0,.int 0]
def wO:V:=.clo 82 [(230,#[I.f+2,0,0]),(134,#[I.f+2,0,2])]
def jC:Sk:=bif I.srv then#[0,0,0,189]else#[2,0,0,0]
def i1(o:H):Fs:=
 {cl:=λU=>#[.none,.none,.none,.none,.none,.none,.none,.none,.none],tk:=λi=>lc I.f i (.str (bif Nat.ble I.N i then 195 else 226)) 142,gr:=λk=>#[.int (90+k),.ref #[I.f,7,50+k],.none],tq:=λU=>[],ql:=λU=>[],sv:=λU=>[],st:=vB,
  dl:=λi=>(cW i (I.bE i)).map (dv i),mn:=λU=>[],ls:=λU=>[],nC:=0,nT:=0,nG:=0,nQ:=0,nS:=0,nL:=1,now:=0,lim:=pN,M:=#[.ref #[I.f,18,0],.bool false],
  K:=#[.ref #[I.f,4,0],wO,.ref #[I.f,1,0],.ref #[I.f,17,0],.int 0,.int 0,.ref #[I.f,5,0],.ref #[I.f,19,0]],tb:=#[.ref #[I.f,6,0],.bool I.srv,.ref #[I.f,15,0],.bool true,none],aC:=List.replicate I.N .none,steps:=[],aY:=[],bC:=[],zs:=none,o:=o}
def H9:∀(n k i:Nat),iL (List.replicate n λU=>Slot.fresh) k i=.fresh
 |0,_,_=>rfl
 |_+1,0,_=>rfl
 |n+1,k+1,i=>H9 n k i
def Tv(f:Nat)(j:Jk)(o:H):hz f j o=er f (List.replicate 21 λU=>.fresh) j o:=by funext a;unfold hz er;rw[H9]
def kj{f:Nat}{l:k32}{j:Jk}{o:H}(k:Nat)(s:Slot)(hk:k<l.length)(h:∀z,iL l k z=.fresh):(er f l j o).set #[f,k,0] s=er f (l.set k (bW s)) j o:=cL k (bW s) hk rfl λz hz=>by
 rw[h];cases z with
 |zero=>exact absurd rfl hz
 |succ z=>rfl
def YJ(o:H)(j:Jk):(((rQ I.f (((hz I.f j o).set #[I.f,16,0] (.live (.list []))).set #[I.f,4,0] pN) (.ref #[I.f,4,0]) (wO)).set #[I.f,15,0] (.live (.list (List.replicate I.N .none)))).set #[I.f,14,0] (oB #[.ref #[I.f,6,0],.bool I.srv,.ref #[I.f,15,0],.bool true,none]))=hp I.f (i1 o) j:=by
 have t0:∀g:Nat->Slot,tab (λi=>i<0) g=λU=>.fresh:=λg=>funext λi=>ak (Nat.not_lt_zero i);obtain y:∀g:Nat->Slot,tab (λi=>i<0\/(50<=i/\i<50+0)) g=λU=>.fresh:=λg=>funext λi=>ak λh=>h.elim (Nat.not_lt_zero i) λh=>Nat.not_lt.mpr h.1 h.2;obtain d:tab (λi=>i<1) (λU=>Slot.live (.list []))=bW (.live (.list [])):=funext λi=>by
  cases i with
  |zero=>rfl
  |succ i=>exact ak (Nat.not_lt.mpr (fj 1 i))
 obtain x:bW .fresh=λU=>.fresh:=funext λi=>by cases i<;>rfl
 unfold rQ;rw[Tv,kj 16,kj 4,kj 1,kj 17,kj 18,kj 5,kj 19,kj 6,kj 15,kj 14]
 .refine aq (λl=>er I.f l j o) ?_;show _=[tab (λi=>i<0) _,bW _,tab (λi=>i<0) _,tab (λi=>i<0) _,bW _,bW _,bW _,tab (λi=>i<0\/(50<=i/\i<50+0)) _,λU=>.fresh,tab (λi=>i<0) _,tab (λi=>i<0) _,tab (λi=>i<0) _,tab (λi=>i<0) _,tab (λi=>i<0) _,bW _,bW _,bW _,bW _,bW _,tab (λi=>i<1) (λU=>Slot.live (.list [])),bW .fresh];rw[t0,t0,t0,y,t0,t0,t0,t0,t0,d,x];rfl
 all_goals first|exact aP rfl|exactλU=>rfl
def o8:Ss:=match cZ.body with|.cons _ (.cons _ (.cons _ (.cons _ (.cons _ r))))=>r|r=>r
variable{o:H}
def PM{pv W:V}(u:∀a:Nm,a.f=I.f\/a.f=I.f+2->o a=.fresh)(gf:fY I.f o (dH I) pv)(hN:I.N<=4)
 (q:∀(j:Jk) (l:Lc) (G:Ka),j.n=3->j.g 0=.live (.cell (some W))->j.g 1=.live (.cell (some (.ref #[I.f,6,0])))->j.g 2=.live (.cell (some (.ref #[I.f,16,0])))->G 93=some #[I.f+2,0,1]->l 220=some (.int I.N)->l 211=some (.bool I.srv)->l 224=some pv->l 193=some (.ref #[I.f,14,0])->
   bc az (wG (n+3)) G o8 l (hp I.f (i1 o) j) (dP Q) (kX X)):
 ei az (wG (n+3)) cZ [] [.bool I.srv,pv,W] o Q X:=by
 unfold ei;obtain hb:gB cZ.params ([V.bool I.srv,pv,W]++cZ.dE) (λU=>none)=some (upd (upd (upd (λU=>none) 211 (.bool I.srv)) 224 pv) 230 W):=rfl;rw[hb,fw];show r8 cZ _ [230,93,134] _ _ _;refine#[#[I.f+2,0,0],u _ (.inr rfl),#[I.f+2,0,1],?_,#[I.f+2,0,2],?_,?_]
 .unfold H.set;rw[ak (by simp)];exact u _ (.inr rfl)
 .unfold H.set;rw[ak (by simp),ak (by simp)];exact u _ (.inr rfl)
 show bc az (wG (n+3)) (λy=>if y=134 then some #[I.f+2,0,2]else if y=93 then some #[I.f+2,0,1]else if y=230 then some #[I.f+2,0,0]else none) cZ.body (jA cZ.params (upd (upd (upd (λU=>none) 211 (.bool I.srv)) 224 pv) 230 W)) (((o.set #[I.f+2,0,0] (.live (.cell (some W)))).set #[I.f+2,0,1] (.live (.cell none))).set #[I.f+2,0,2] (.live (.cell none))) (dP Q) (kX X);obtain hJ:((o.set #[I.f+2,0,0] (.live (.cell (some W)))).set #[I.f+2,0,1] (.live (.cell none))).set #[I.f+2,0,2] (.live (.cell none))=hz I.f (((J0.put (.live (.cell (some W)))).put (.live (.cell none))).put (.live (.cell none))) o:=by
  rw[show o.set #[I.f+2,0,0] (.live (.cell (some W)))=hz I.f (J0.put (.live (.cell (some W)))) o from by
   conv=>lhs;rw[←Tu u]
   exact uC _ _ _ _ _ _ λk=>rfl]
  rw[uC I.f (J0.put (.live (.cell (some W)))) o 1 (.live (.cell none)) ((J0.put (.live (.cell (some W)))).put (.live (.cell none))) (λk=>rfl)];exact uC _ _ _ _ _ _ λk=>rfl
 rw[hJ];have d:(((J0.put (.live (.cell (some W)))).put (.live (.cell none))).put (.live (.cell none))).g 0=.live (.cell (some W)):=rfl;have h:(((J0.put (.live (.cell (some W)))).put (.live (.cell none))).put (.live (.cell none))).g 1=.live (.cell none):=rfl;have z:(((J0.put (.live (.cell (some W)))).put (.live (.cell none))).put (.live (.cell none))).g 2=.live (.cell none):=rfl;have D:(((J0.put (.live (.cell (some W)))).put (.live (.cell none))).put (.live (.cell none))).n=3:=rfl;generalize (((J0.put (.live (.cell (some W)))).put (.live (.cell none))).put (.live (.cell none)))=j at d h z D;obtain hB:cZ.body=.cons (.asg true 134 (.lst false .nil)) (.cons (.kH 228 82) (.cons (.asg false 220 (.len (.loc 224))) (.cons (.asg true 93 (.call (.ba 227) (.cons (.call (.ba 229) .nil) (.cons (.loc 228) .nil)))) (.cons (.asg false 193 (.dp [93,211,194,198] (.cons (.cf 93) (.cons (.loc 211) (.cons (.rep false .none (.loc 220)) (.cons .tt .nil)))))) o8)))):=rfl;rw[hB];generalize hR:o8=RR at q⊢;obtain js:cZ.params=[(false,211),(false,224),(true,230)]:=rfl;rw[js];lk;refine#[#[I.f,16,0],rJ _ _ _ _ _,?_];have O:2<j.n:=by lia
 obtain w2:=Gy I.f j o 2 (.live (.cell (some (.ref #[I.f,16,0])))) O;obtain A:qP I.f o ((hz I.f (j.wr 2 (.live (.cell (some (.ref #[I.f,16,0]))))) o).set #[I.f,16,0] (.live (.list []))):=Ml (Mk _ _ _) _ _ _;obtain gH:=λt Q=>WR A gf t Q;obtain SM:I.N<=1000:=by lia
 erw[Jg,Gw,z,JB,w2,mZ,show az.fns 82=some q0 from rfl,show q0.frees=[230,134]from rfl,gH,SM,li];refine UH (f:=I.f) (by simp only[iQ,Nat.reduceEqDiff];exact rJ _ _ _ _ _) ?_;lk;refine Y9 (f:=I.f) (λk i=> ?_) ?_
 .by_cases B:k=4
  .exact .inr (.inr B)
  .by_cases P:k=16
   .exact .inr (.inl P)
   .left;rw[iQ _ _ _ _ _ _ _ (by simp[B]),iQ _ _ _ _ _ _ _ (by simp[P])];exact rJ _ _ _ _ _
 .have J:1<(j.wr 2 (.live (.cell (some (.ref #[I.f,16,0]))))).n:=by show 1<j.n;lia
  obtain w1:=Gy I.f (j.wr 2 (.live (.cell (some (.ref #[I.f,16,0]))))) o 1 (.live (.cell (some (.ref #[I.f,6,0])))) J;obtain Qq:(j.wr 2 (.live (.cell (some (.ref #[I.f,16,0]))))).g 1=.live (.cell none):=by rw[Jk.gn _ _ _ _ (by decide)];exact h
  obtain iD:(-200:Int)<I.N:=by lia
  obtain hX:(I.N:Int)<200:=by lia
  obtain za:(List.replicate I.N V.none).length<=1000:=by rw[List.length_replicate];lia
  have x:((j.wr 2 (.live (.cell (some (.ref #[I.f,16,0]))))).wr 1 (.live (.cell (some (.ref #[I.f,6,0]))))).g 1=.live (.cell (some (.ref #[I.f,6,0]))):=Jk.iZ _ _ _ J;erw[rQ,Jg,Gw,Qq,JB,w1,x,iD,hX,Int.toNat_natCast,za];refine#[#[I.f,15,0],by simp only[iQ,Nat.reduceEqDiff];exact rJ _ _ _ _ _,?_];lk;refine#[#[I.f,14,0],by simp only[iQ,Nat.reduceEqDiff];exact rJ _ _ _ _ _,?_];have e:=YJ o ((j.wr 2 (.live (.cell (some (.ref #[I.f,16,0]))))).wr 1 (.live (.cell (some (.ref #[I.f,6,0])))));unfold rQ at e;rw[mR,fA,om,iO];have e2:([93,211,194,198].zip [V.ref #[I.f,6,0],.bool I.srv,.ref #[I.f,15,0],.bool true])=BR.fs #[.ref #[I.f,6,0],.bool I.srv,.ref #[I.f,15,0],.bool true,none]:=rfl;have:=q ((j.wr 2 (.live (.cell (some (.ref #[I.f,16,0]))))).wr 1 (.live (.cell (some (.ref #[I.f,6,0])))));rw[←e]at this;refine this _ _ ?_ ?_ ?_ ?_ ?_ ?_ ?_ ?_ ?_
  .exact D
  .rw[Jk.gn _ _ _ _ (by decide),Jk.gn _ _ _ _ (by decide)];exact d
  .exact x
  .rw[Jk.gn _ _ _ _ (by decide)];exact Jk.iZ _ _ _ O
  .rfl
  .rfl
  .rfl
  .rfl
  .rfl
def dA:Bs:={ph:=λi=>#[0,I.bE i,0,0,0,0,0],hd:=λU=>none,q:=λU=>[],sk:=λU=>jC,now:=0}
def Qz:Gd (dA):=#[λi U=>#[rfl,Int.le_refl _,trivial,by show(0:Int)+0+((I.bE i+0:Nat):Int)=I.bE i;rw[Nat.add_zero,Int.add_zero,Int.zero_add],λU=>rfl],λU U U U=>rfl]
def qx(o:H)(fs:k00):Fs:=
 {j8 I.f (i1 o) (if I.srv then I.N+I.N else I.N)with tk:=bF (dA).ph (dA).sk,nG:=if I.srv then 0 else I.N,nS:=I.N,M:=#[.ref #[I.f,18,0],.bool I.srv],tb:={(i1 o).tb with iC:=some (.fz fs)},zs:=some ((List.range I.N).map λi=>V.ref #[I.f,11,i])}
def vC:(jC).st=0\/(jC).st=2:=by
 unfold jC;cases I.srv with
 |true=>exact .inl rfl
 |false=>exact .inr rfl
def Kg(hi:i<I.N):bF (dA).ph (dA).sk i=lc I.f i (.str 226) 173:=by
 refine(wa hi).trans ?_;obtain e:fp i #[0,I.bE i,0,0,0,0,0]=.none:=by unfold fp;cases I.srv<;>rfl
 show TR.mk _ _ _ _ _ _ _ _ _ (fp i #[0,I.bE i,0,0,0,0,0]) _=_;rw[e];rfl
def Kh(e:I.srv=true):bF (dA).ph (dA).sk (I.N+k)=lc I.f (I.N+k) (.str 195) 173:=by refine wc.trans ?_;show fV k (jC)=_;unfold jC;rw[e];rfl
def MV{fs:k00}(h:fs.length=I.N/\∀k,k<I.N->fs[k]? =some (.ref (kp k))):W (dA) (qx o fs):=by
 have D:∀i k,¬bO i #[0,I.bE i,0,0,0,0,0] k:=λi k h=>h.elim (λz=>nomatch z.1) λz=>nomatch z.1;refine#[#[rfl,rfl,rfl,rfl,rfl,rfl,λk=>rfl,fs,rfl,h],#[rfl,rfl,rfl,rfl,#[0,rfl],0,rfl,Nat.zero_lt_one],rfl,funext λi=> ?_,rfl,rfl,rfl,?_,rfl,λi U h=>(by rcases h with h|h<;>exact nomatch h),λc y=>absurd y (Nat.not_lt_zero c),#[λU=>0,λt=>.inl #[?_,rfl]],λk U i=>#[λh=>(nomatch h),λh=>(D i k h.2).elim],λk U=>#[List.nodup_nil,λi=>#[λh=>(nomatch h),λh=>(nomatch h.2.1)]],#[λi U h=>(nomatch h),λk U h=> ?_],#[λd k U=> ?_,λk U U=>rfl,λk U h=> ?_,λk=> ?_,λd k=> ?_]]
 .by_cases x:i<I.N
  .exact(lp (f:=λU=>[]) (g:=λk=>iX ((dA).sk k)) x).symm
  .obtain⟨k,rfl⟩:=Nat.le.dest (Nat.not_lt.mp x);refine dM ?_ lq.symm;show[]=iX (jC);unfold iX;rcases vC with h|h<;>rw[h]<;>rfl
 .symm;show jF (dA).hd=List.replicate I.N .none;rw[List.eq_replicate_iff];refine#[by unfold jF;rw[be,cC],λb hb=> ?_];obtain⟨k,_,rfl⟩:=bv.mp hb;rfl
 .unfold bS;by_cases h:t0<=t/\t<t0+I.N
  .rw[al h];rfl
  .exact ak h
 .rcases vC with e|e<;>exact absurd (e.symm.trans h) (by decide)
 .show(jC).o=189;unfold jC;rw[d];rfl
 .rcases vC with e|e<;>exact absurd (e.symm.trans h) (by decide)
 .rcases vC with e|e<;>exact bk (Nat.le_of_eq e) (by decide)
 .show(jC).st=2;unfold jC;rw[d];rfl
def Qo{D:Fs}{a:Nat}{z:Option (List V)}(e:D.nS=a)(u:D.zs=z):D={D with nS:=a,zs:=z}:=by subst e;subst u;rfl
def vJ:Ss:=match o8 with|.cons _ (.cons _ (.cons _ (.cons _ (.cons _ (.cons _ r)))))=>r|r=>r
variable{Z:k08}{Rk:k02}
def Dj{G:Ka}{e:E}{pv:V}{ps:k00}{f:Nat}(B:fY f o ps pv)(ho:D.o=o)(u:ps.length<=1000)(O:Fn)(t:Bool)(Q:QV)(j:Jk)
 (q:∀c:H->Prop,(∀D:Fs,D.o=o->c (hp f D j))->gZ c (kC az O G e [191] .nil) ps [] (hp f D j) (iF true t Q)):pI az O G true e [191] false .nil t Q pv (hp f D j):=by
 rcases B with rfl|⟨a,rfl,h,d,x⟩
 .rw[ZL];exact#[u,q _ λaj U=>dh (mx _ _)]
 .rw[ZK,pB h d,ho,x,ZJ];exact#[u,q _ λaj y=>dh (lx (by rw[pB h d,y,x]))]
def XZ(aa:bn I)(yY:∀i,I.bE i<=10)(gf:fY I.f o (dH I) pv){l:Lc}(l1:l 220=some (.int I.N))(l2:l 224=some pv)(l3:l 222=some (.ref #[I.f,20,0]))(pF:D.o=o/\D.nS=0/\D.zs=some []/\D.st=vB/\D.dl=(i1 o).dl/\D.mn=(λU=>[]))
 (q:∀l',(∀x,x≠219->x≠182->l' x=l x)->Rk .next l' (hp I.f {D with nS:=I.N,zs:=some ((List.range I.N).map λi=>V.ref #[I.f,11,i])} j)):
 cF (cE true (.int I.N) (aX I.N)) (gX az (wG (n+1)) G [219] (.cons (.asg false 182 (.call (.ba 192) (.cons (.call (.ba 221) (.cons (.loc 219) (.cons (.loc 220) (.cons (.item (.item (.loc 224) (.loc 219)) (.int 0)) .nil)))) (.cons (.item (.loc 224) (.loc 219)) .nil)))) (.cons (.ex (.gj (.loc 222) 0 (.cons (.dp [182,204,208,212,178,209] (.cons (.loc 182) (.cons .none (.cons (.lst false .nil) (.cons (.int 0) (.cons (.int 0) (.cons (.int 0) .nil))))))) .nil))) .nil)))
  (aX I.N) l (hp I.f D j) Rk:=by
 obtain⟨z,P,h3,h4,h5,h6⟩:=pF;have ub:=aa.n4;have Fp:=aa.n2;refine fO (λxs l' h=>∃k,k+xs.length=I.N/\xs=(aX I.N).drop k/\(∀x,x≠219->x≠182->l' x=l x)/\h=hp I.f {D with nS:=k,zs:=some ((List.range k).map λi=>V.ref #[I.f,11,i])} j) (λxs l h i=>dh (kn _ _ _)) (λx xs l' h' ae K q=> ?_) _ _ _
  #[0,by simp[aX],rfl,λU U U=>rfl,aq (λD=>hp I.f D j) (Qo P h3)] λl' h' ae=> ?_
 .obtain⟨k,hk,B,d,rfl⟩:=ae;rw[gu]at hk;obtain Q:k<I.N:=hk▸Nat.lt_add_of_pos_right (Nat.succ_pos _);obtain Ts:x=.int k/\xs=(aX I.N).drop (k+1):=by
   have:(aX I.N).drop k=V.int k::(aX I.N).drop (k+1):=by rw[List.drop_eq_getElem_cons (by unfold aX;rw[be,cC];exact Q)];congr 1;unfold aX;rw[List.getElem_map,List.getElem_range];rfl
   rw[this]at B;injection B with a b;exact#[a,b]
  obtain⟨rfl,rfl⟩:=Ts;obtain a1:=(d 220 (by decide) (by decide)).trans l1;have J:=(d 224 (by decide) (by decide)).trans l2;have O:=(d 222 (by decide) (by decide)).trans l3;have lU:bM (hp I.f {D with nS:=k,zs:=some ((List.range k).map λi=>V.ref #[I.f,11,i])} j) pv (.int k)=some (gm I k):=vt (D:={D with nS:=k,zs:=some ((List.range k).map λi=>V.ref #[I.f,11,i])}) (by show fY I.f D.o _ _;rw[z];exact gf) j (vn Q) (bU Q (bk ub (by decide)));obtain ut:∀h:H,bM h (gm I k) (.int 0)=some (.int (I.hand k)):=λU=>rfl;have u:∀y,y=11\/y=12\/y=13->hp I.f {D with nS:=k,zs:=some ((List.range k).map λi=>V.ref #[I.f,11,i])} j #[I.f,y,k]=.fresh:=λy h=>by rw[cy];rcases h with rfl|rfl|rfl<;>exact ak (fK _)
  erw[a1,J,O,lU,ut];refine JK _ (bU (by decide) Fp) ?_;erw[J,lU];refine N7 (u 12 (.inr (.inl rfl))) (yY k) ?_;obtain Tw:((List.range k).map λi=>V.ref #[I.f,11,i]).length<1000:=by rw[be,cC];exact bU Q (bk ub (by decide))
  erw[O,iQ,pU];refine#[#[I.f,13,k],by simp only[iQ,Nat.reduceEqDiff];exact u 13 (.inr (.inr rfl)),?_];lk;refine#[#[I.f,11,k],by simp only[iQ,Nat.reduceEqDiff];exact u 11 (.inl rfl),?_];have e:=XY (f:=I.f) (j:=j) (D:={D with nS:=k,zs:=some ((List.range k).map λi=>V.ref #[I.f,11,i])}) (k:=k) rfl;obtain e1:({D with nS:=k,zs:=some ((List.range k).map λi=>V.ref #[I.f,11,i])}:Fs).dl k=(cW k (I.bE k)).map (dv k):=by show D.dl k=_;rw[h5];rfl
  obtain e2:({D with nS:=k,zs:=some ((List.range k).map λi=>V.ref #[I.f,11,i])}:Fs).mn k=[]:=by show D.mn k=_;rw[h6]
  obtain e3:({D with nS:=k,zs:=some ((List.range k).map λi=>V.ref #[I.f,11,i])}:Fs).st k=vB k:=by show D.st k=_;rw[h4]
  rw[e1,e2,e3]at e;obtain e4:(Slot.live (.dp [(182,V.ref #[I.f,12,k]),(204,.none),(208,.ref #[I.f,13,k]),(212,.int 0),(178,.int 0),(209,.int 0)]))=oS (vB k):=rfl;obtain e5:(List.range k).map (λi=>V.ref #[I.f,11,i])++[V.ref #[I.f,11,k]]=(List.range (k+1)).map λi=>V.ref #[I.f,11,i]:=by rw[List.range_succ,List.map_append];rfl
  obtain fin:∀h,h=hp I.f {D with nS:=k+1,zs:=some ((List.range k).map λi=>V.ref #[I.f,11,i])} j->bc az (wG (n+1)) G .nil (upd (upd l' 219 (.int k)) 182 (.ref #[I.f,12,k])) (h.set #[I.f,20,0] (.live (.list ((List.range k).map (λi=>V.ref #[I.f,11,i])++[V.ref #[I.f,11,k]])))) K (λU U U=>False):=λh hh=>by subst hh;rw[e5,KL,vy];refine q _ _ #[k+1,by lia,rfl,λx z P=> ?_,rfl];rw[jg,ak P,jg,ak z];exact d x z P
  have:=fin _ e;rw[e4];erw[iQ,pU,Tw];rw[vy]at this;exact this
 .obtain⟨k,hk,B,d,rfl⟩:=ae;have:k=I.N:=by simpa using hk
  subst this;exact q l' d
def VN(u:D.nT<50/\D.nG=0/\D.gr=(i1 o).gr/\∀i,D.tq (50+i)=[]){e:k21}(q:e ((List.range N).map λk=>V.ref #[I.f,3,k]) (hp I.f {D with nG:=N} j)):
 gZ (cE true (.int N) (aX N)) (kC az (wG (n+1)) G (.call (.ba 225) (.cons (.bin .add (.int 90) (.loc 219)) (.cons (.lst true (.cons (.str 189) .nil)) .nil))) [219] .nil) (aX N) [] (hp I.f D j) e:=by
 obtain⟨d,x,y,z⟩:=u;obtain key:∀m k acc,k+m=N->acc=(List.range k).map (λk=>V.ref #[I.f,3,k])->gZ (cE true (.int N) (aX N)) (kC az (wG (n+1)) G (.call (.ba 225) (.cons (.bin .add (.int 90) (.loc 219)) (.cons (.lst true (.cons (.str 189) .nil)) .nil))) [219] .nil) ((aX N).drop k) acc (hp I.f {D with nG:=k} j) e:=by
  intro m;induction m with
  |zero=>
   intro k acc hk h;obtain P:k=N:=by lia
   subst P;rw[List.drop_eq_nil_of_le (by unfold aX;rw[be,cC];simp)];refine#[dh (kn _ _ _),?_];rw[h];exact q
  |succ m Q=>
   intro k acc hk h;have:(aX N).drop k=V.int k::(aX N).drop (k+1):=by rw[List.drop_eq_getElem_cons (by unfold aX;rw[be,cC];simp;lia)];congr 1;unfold aX;rw[List.getElem_map,List.getElem_range];rfl
   rw[this];refine#[dh (kn _ _ _),?_];lk;refine VM (k:=k) rfl (by exact d) (by show D.gr k=_;rw[y];rfl) (z k) ?_;lk;refine Q (k+1) _ (by lia) ?_;rw[h,List.range_succ,List.map_append];rfl
 have:=key N 0 [] (by lia) rfl;rw[List.drop_zero]at this;rw[←x]at this;exact this
def XX:Ss:=.cons (.asg false 182 (.call (.ba 192) (.cons (.call (.ba 221) (.cons (.loc 219) (.cons (.loc 220) (.cons (.item (.item (.loc 224) (.loc 219)) (.int 0)) .nil)))) (.cons (.item (.loc 224) (.loc 219)) .nil)))) (.cons (.ex (.gj (.loc 222) 0 (.cons (.dp [182,204,208,212,178,209] (.cons (.loc 182) (.cons .none (.cons (.lst false .nil) (.cons (.int 0) (.cons (.int 0) (.cons (.int 0) .nil))))))) .nil))) .nil)
def JV:Ss:=.cons (.ig (.loc 193) (.str 185) (.comp true (sd (.str 195)) [191] false (.loc 224) .nil)) (.cons (.ex (.call (.ba 143) (.cons .none (.cons (.item (.loc 193) (.str 185)) .nil)))) (.cons (.ex (.call (.ba 149) (.cons (.cf 93) .nil))) .nil))
def Ia:Ss:=.cons (.ig (.loc 193) (.str 185) (.comp true (.call (.ba 225) (.cons (.bin .add (.int 90) (.loc 219)) (.cons (.lst true (.cons (.str 189) .nil)) .nil))) [219] true (.loc 220) .nil)) .nil
def PH:o8=.cons (.asg false 223 (.comp true (sd (.str 226)) [191] false (.loc 224) .nil)) (.cons (.ex (.call (.ba 143) (.cons .none (.cons (.loc 223) .nil)))) (.cons (.asg false 222 (.lst false .nil)) (.cons (.loop [219] true (.loc 220) XX) (.cons (.ite (.loc 211) JV Ia) (.cons (.asg false 26 (.lst true .nil)) vJ))))):=rfl
def aav(o:H):Bd I.f (i1 o):=#[rfl,rfl,rfl,rfl,rfl,rfl,rfl,rfl]
def HZ(h:i<a):(bif Nat.ble a i then x else y)=y:=by rw[show Nat.ble a i=false from f0.mpr λe=>Nat.not_lt.mpr (gW e) h];rfl
def Vq(h:a<=i):(bif Nat.ble a i then x else y)=x:=by rw[Nat.ble_eq_true_of_le h];rfl
def PK{G:Ka}{l:Lc}(aa:bn I)(yY:∀i,I.bE i<=10)(gf:fY I.f o (dH I) pv)(kW:G 93=some #[I.f+2,0,1])(J:j.g 1=.live (.cell (some (.ref #[I.f,6,0]))))
 (rV:l 220=some (.int I.N))(Ad:l 211=some (.bool I.srv))(rW:l 224=some pv)(Ac:l 193=some (.ref #[I.f,14,0]))
 (q:∀fs l',(fs.length=I.N/\∀k,k<I.N->fs[k]? =some (.ref (kp k)))->l' 193=some (.ref #[I.f,14,0])->l' 220=some (.int I.N)->l' 222=some (.ref #[I.f,20,0])->l' 223=some (fN)->l' 26=some (.fz [])->bc az (wG (n+3)) G vJ l' (hp I.f (qx o fs) j) Rk Z):
 bc az (wG (n+3)) G o8 l (hp I.f (i1 o) j) Rk Z:=by
 rw[PH];generalize vJ=RR at q⊢;have ub:=aa.n4;have js:(dH I).length<=1000:=by rw[li];lia
 rw[iN,sy,WV,oj,rW,fw,kz,fA];refine Dj (o:=o) gf rfl js _ _ _ _ λc B=> ?_;refine Dl (n:=n+1) (o:=o) kW J B _ _ _ _ rfl (aav o) (by show 0+(dH I).length<=10;rw[li];lia) (λi U h=>#[aq (λx=>lc I.f i (.str x) 142) (HZ (by rw[li]at h;exact Nat.lt_of_lt_of_eq h (Nat.zero_add _))),rfl,rfl]) ?_;show iF true false _ ((List.range' 0 (dH I).length).map _) (hp I.f (j8 I.f (i1 o) (0+(dH I).length)) j);rw[li,Nat.zero_add];obtain hl:((List.range' 0 I.N).map λi=>V.ref #[I.f,2,i]).length<=1000:=by rw[be,List.length_range'];lia
 erw[hl];refine Cq (n:=n+2) (xs:=List.range' 0 I.N) (by rw[List.length_range'];lia) (λi d=>#[Nat.lt_of_lt_of_eq (List.mem_range'_1.mp d).2 (Nat.zero_add _),rfl]) List.nodup_range' ?_;lk;refine#[#[I.f,20,0],by rw[Je];rfl,?_];have et:∀h:H,eA true (.int I.N) h=some (aX I.N):=λh=>al (by lia);have gI:(aX I.N).length<=1000:=by unfold aX;rw[be,cC];lia
 erw[rV,et,gI];refine XZ (n:=n+2) (o:=o) aa yY gf (by simp[upd,rV]) (by simp[upd,rW]) (by simp[upd]) #[rfl,rfl,rfl,rfl,rfl,rfl] λz O=> ?_;have k {x:Nat} {v:V} (h:l x=some v) (P:x≠219/\x≠182/\x≠222/\x≠223):z x=some v:=(O x P.1 P.2.1).trans ((ak P.2.2.1).trans ((ak P.2.2.2).trans h));have Q:=k Ad (by decide);have zu:=k Ac (by decide);have GQ:=k rV (by decide);obtain Ud:=k rW (by decide);obtain Ub:z 222=some (.ref #[I.f,20,0]):=O 222 (by decide) (by decide);obtain Uc:z 223=some (fN):=(O 223 (by decide) (by decide)).trans (aq (λx:List Nat=>some (V.fz (x.map λi=>V.ref #[I.f,2,i]))) List.range_eq_range'.symm);have fin (fs:k00) (h:fs.length=I.N/\∀k,k<I.N->fs[k]? =some (.ref (kp k))):=q fs (upd z 26 (.fz [])) h zu GQ Ub Uc rfl;have a1:∀i,i<I.N->i9 (i1 o).tk (List.range' 0 I.N) i=bF (dA).ph (dA).sk i:=λi d=>by rw[Kg d];show(if i∈List.range' 0 I.N then{(lc I.f i (.str (bif Nat.ble I.N i then 195 else 226)) 142)with state:=.str 173}else _)=_;rw[al (List.mem_range'_1.mpr #[cD _,Nat.lt_of_lt_of_eq d (Nat.zero_add _).symm]),HZ d];rfl
 have fin (fs:k00) {D:Fs} (h:fs.length=I.N/\∀k,k<I.N->fs[k]? =some (.ref (kp k))) (ht:∀i,i<D.nT->D.tk i=bF (dA).ph (dA).sk i) (e:{D with tk:=bF (dA).ph (dA).sk}=qx o fs):bc az (wG (n+3)) G RR (upd z 26 (.fz [])) (hp I.f D j) Rk Z:=by rw[SN ht,e];exact fin fs h
 cases y:I.srv with
 |false=>
  rw[y]at Q;erw[Q,Ia,GQ,et,gI];unfold l7;refine VN (n:=n+2) (o:=o) ?_ ?_
  .exact#[by show I.N<50;lia,rfl,rfl,λi=>rfl]
  obtain yO:((List.range I.N).map λk=>V.ref #[I.f,3,k]).length<=1000:=by rw[be,cC];lia
  erw[yO,zu];exact fin ((List.range I.N).map λk=>V.ref #[I.f,3,k]) #[by rw[be,cC],λk hk=>by rw[uT y,eW,iw hk];rfl] a1 (by unfold qx j8;rw[y];rfl)
 |true=>
  rw[y]at Q;erw[Q,JV,Ud];have u:∀i,I.N<=i->i9 (i1 o).tk (List.range' 0 I.N) i=lc I.f i (.str 195) 142:=λi h=>(ak λm=>Nat.not_lt.mpr h (Nat.lt_of_lt_of_eq (List.mem_range'_1.mp m).2 (Nat.zero_add _))).trans (aq (λx=>lc I.f i (.str x) 142) (Vq h));refine Dj (o:=o) gf rfl js _ _ _ _ λc B=> ?_;refine Dl (n:=n+1) (o:=o) kW J B _ _ _ _ rfl #[rfl,rfl,rfl,rfl,rfl,rfl,rfl,rfl] (by show I.N+(dH I).length<=10;rw[li];lia) (λi h U=>#[u i h,rfl,rfl]) ?_;show iF true false _ ((List.range' I.N (dH I).length).map _) (hp I.f (j8 I.f _ (I.N+(dH I).length)) j);rw[li];obtain Sf:((List.range' I.N I.N).map λi=>V.ref #[I.f,2,i]).length<=1000:=by rw[be,List.length_range'];lia
  erw[Sf,zu];refine Cq (n:=n+2) (xs:=List.range' I.N I.N) (by rw[List.length_range'];lia) (λi d=>#[(List.mem_range'_1.mp d).2,aq TR.state (u i (List.mem_range'_1.mp d).1)]) List.nodup_range' ?_;erw[kW,J];have a3:∀i,i<I.N+I.N->i9 (i9 (i1 o).tk (List.range' 0 I.N)) (List.range' I.N I.N) i=bF (dA).ph (dA).sk i:=λi d=>by
   by_cases h:i<I.N
   .exact(ak λm=>Nat.not_le.mpr h (List.mem_range'_1.mp m).1).trans (a1 i h)
   .obtain⟨k,rfl⟩:=Nat.le.dest (Nat.not_lt.mp h);refine(al (List.mem_range'_1.mpr #[dL _ _,d])).trans ?_;rw[u _ (dL _ _),Kh y];rfl
  refine O6 (n:=n+1) (m:=I.N+I.N) rfl rfl (by lia) rfl (bG _) (λi d=>#[173,?_,by decide]) ?_
  .refine(aq TR.state (a3 i d)).trans ?_;by_cases h:i<I.N
   .rw[Kg h];rfl
   .obtain⟨k,rfl⟩:=Nat.le.dest (Nat.not_lt.mp h);rw[Kh y];rfl
  lk;exact fin ((List.range' I.N I.N).map λi=>V.ref #[I.f,2,i]) #[by rw[be,List.length_range'],λk hk=>by rw[nX y,eW,List.getElem?_range' hk,Nat.one_mul];rfl] a3 (by unfold qx j8;rw[y];rfl)
def Zl:vJ=.cons (.gR (.cons (.asg false 72 (.call (.ba 176) (.cons (.cf 93) .nil))) (.cons (.gT me k7) .nil)) 26) (.cons (.ret (.tup (.cons (.loc 193) (.cons (.loc 223) (.cons (.loc 222) (.cons (.loc 26) .nil)))))) .nil):=rfl
def Bb{f:Nat->Nat}(h:∀x,f x<=b):∀n,sm f n<=n*b
 |0=>cD _
 |n+1=>by rw[Nat.succ_mul];exact Nat.add_le_add (Bb h n) (h n)
def Vb(e:I.N<=4)(ho:∀i,I.bE i<=2):mu (dA)<=200:=by
 obtain w:∀i,wt i ((dA).ph i)<=37:=λi=>by show 1+3*(([]:List Nat)++cW i (I.bE i)).length<=37;have h:=vK i (I.bE i);have d:=ho i;rw[List.nil_append];lia
 obtain s:∀k,sw ((dA).sk k)<=1:=λk=>by unfold sw;cases Nat.ble ((dA).sk k).st 1<;>decide
 exact bk (Nat.add_le_add (bk (Bb w I.N) (Nat.mul_le_mul_right 37 e)) (bk (Bb s I.N) (Nat.mul_le_mul_right 1 e))) (by decide)
def EI{P:Bs->Prop}(aa:bn I)(HP:PC P)(Ra:P (dA))(hW:WL W0 m0)(Ga:∀i,I.bE i<=2)(fq:∀a:Nm,a.f=I.f\/a.f=I.f+2->o a=.fresh)(gf:fY I.f o (dH I) pv)
 (qB:∀s D j,W s D->Gd s->P s->(∀i,i<I.N->(s.ph i).st=6)->D.zs=some ((List.range I.N).map λi=>V.ref #[I.f,11,i])->D.o=o->Q (kL (fN) (.fz [])) (hp I.f D j))
 (qX:∀s D j,W s D->Gd s->P s->jE s D->D.zs=some ((List.range I.N).map λi=>V.ref #[I.f,11,i])->D.o=o->Q (kL (fN) (.fz (numsOf D))) (hp I.f D j)):
 ei az (wG 40) cZ [] [.bool I.srv,pv,W0] o Q X:=by
 refine PM (n:=37) fq gf aa.n4 λj l G aev g0 g1 g2 kW rV Ad rW Ac=> ?_;refine PK (n:=37) aa (λi=>by have:=Ga i;lia) gf kW g1 rV Ad rW Ac λfs l' B L3 L4 L5 L6 L7=> ?_;have w:=MV (o:=o) B;have u:=Qz;generalize pF:qx o fs=D at w⊢;have hZ:D.steps=[]:=by rw[←pF];rfl
 have F8:=Vb aa.n4 Ga;obtain yr:D.K.choose=wO:=by rw[←pF];rfl
 obtain HC:oA I.f W0 m0 D j:=#[hW,0,2,by lia,by lia,g0,g2,yr];have hL:LE G (fN) o l' D j:=#[by rw[←pF];rfl,L3,L4,L5,L6,L7,by rw[←pF];rfl,1,kW,by lia,g1];rw[Zl,iN,XS];generalize Q4:ju az (wG 40) G (.cons (.ret (.tup (.cons (.loc 193) (.cons (.loc 223) (.cons (.loc 222) (.cons (.loc 26) .nil)))))) .nil) (dP Q) (kX X)=K1;have fin:∀(w:V) (l:Lc) (D:Fs) (j:Jk),l 193=some (.ref #[I.f,14,0])->l 223=some (fN)->l 222=some (.ref #[I.f,20,0])->l 26=some w->Q (kL (fN) w) (hp I.f D j)->K1 .next l (hp I.f D j):=λw l D j h1 h2 h3 h4 hq=>by rw[←Q4,iO];erw[h1,h2,h3,h4];exact aR hq
 have cB:∀s D j l,W s D->Gd s->P s->(∀i,i<I.N->(s.ph i).st=6)->LE G (fN) o l D j->ju az (wG 40) G .nil K1 (uS 26 K1) .next l (hp I.f D j):=λs D j l w u hP h6 hL=>by rw[iO,vy];exact fin _ _ _ _ hL.t hL.c hL.s hL.w (qB s D j w u hP h6 hL.z hL.oo)
 have cX:∀s D j l,W s D->Gd s->P s->jE s D->LE G (fN) o l D j->uS 26 K1 (.fz (numsOf D)) l (hp I.f D j):=λs D j l w u hP ai hL=>by rw[XN];exact fin _ _ _ _ (by simp[upd,hL.t]) (by simp[upd,hL.c]) (by simp[upd,hL.s]) (by simp[upd]) (qX s D j w u hP ai hL.z hL.oo)
 rw[iN,sy,WU,AV,v3,QM,fw,kz,fA,Ma,WW,ZN,kW,fw,ZH,qc,g1,ZI,fA,Mb,I1,Mc,L9];refine IM (n:=33) (σ0:=D) (M:=mu (dA)) aa HP #[w,u,Ra,HC,bG _,rfl,rfl,rfl] (by rw[hZ];decide) (λd y O i2 r J h rz bZ=> ?_) (λd y O J h h6=> ?_) (λd y O J h hD=> ?_)
 .obtain cx:=h.mu;obtain e:y.steps.length=1:=by rw[h.st,hZ];rfl
  rw[mR,fA,om,iO,iN,vA];refine#[mu d+1,HG aa HP cB cX _ d y O _ (.ref #[I.f,2,i2]) h.w h.g h.p (hL.mv (λx hx=>by simp[upd,hx]) h.zs h.o J) h.ch ?_ (by lia) (by simp[upd]) (.inl #[i2,rfl,rz,bZ,by lia])];rw[e];lia
 .have cx:=h.mu;rw[mR,fA,om,iO,iN,vA];refine#[1,HG aa HP cB cX _ d y O _ .none h.w h.g h.p (hL.mv (λx hx=>by simp[upd,hx]) h.zs h.o J) h.ch ?_ (by lia) (by simp[upd]) (.inr #[rfl,h6,Nat.zero_lt_one])];rw[h.st,hZ];simp only[List.length_nil];lia
 .rw[XO];exact cX d y O _ h.w h.g h.p hD (hL.mv (λx U=>rfl) h.zs h.o J)
def hL(k:Int)(P:Slot):H:=λa=>if a=#[7,1,0]then .live (.list [.int k])else if a=#[7,2,0]then P else .fresh
def rl(k P):hL k P #[7,1,0]=.live (.list [.int k]):=al rfl
def rn(k P):hL k P #[7,2,0]=P:=by unfold hL;rw[ak (by simp),al rfl]
def Fk(k k' P):(hL k P).set #[7,1,0] (.live (.list [.int k']))=hL k' P:=by funext a;unfold H.set hL;by_cases h:a=#[7,1,0]<;>simp[h]
def ua(k P e):(hL k P).set #[7,2,0] e=hL k e:=by
 funext a;unfold H.set hL;by_cases h:a=#[7,2,0]
 .subst h;simp
 .simp[h]
def mf:List Int:=[0,1,0,3,0,0,0,0,4,0,0,1,1,0,0,1,0,0,0]
def U3:GL 177=some (.tup (mf.map V.int)):=rfl
def JJ(x y:V):sE (.live (.list [x])) 0 y=some (.live (.list [y])):=rfl
section
variable{n:Nat}{Q X:QV}{P:Slot}
def iB{ns:k23}{k s:Nat}(cP:ns.length<=63)(hk:k<=200)(hs:0<s)(q:∀r:Nat,r<s->Q (.int r) (hL ((k+1:Nat):Int) P)):
 wG (n+1) (.fn 68) [.fz (ns.map V.int),.ref #[7,1,0],.int s] (hL (k:Nat) P) Q X:=by
 have Gn:((s:Nat):Int)≠0:=by lia
 have fin:∀(x:Int),∃r:Nat,r<s/\x.fmod s=(r:Int):=λx=>by obtain h1:0<=x.fmod s:=Int.fmod_nonneg_of_pos _ (by lia);obtain h2:x.fmod s<s:=Int.fmod_lt_of_pos _ (by lia);obtain⟨r,d⟩:=Int.eq_ofNat_of_zero_le h1;exact#[r,Int.ofNat_lt.mp (d▸h2),d]
 k_lt DS;have D:((k:Int)+1-1)=k:=by lia
 have u:((k:Int)+1)=((k+1:Nat):Int):=by push_cast;rfl
 have J:(ns.map V.int).length<=1000:=by rw[be];lia
 by_cases O:(k:Int)+1<=ns.length
 .obtain eH:k<ns.length:=by lia
  have z:(ns.map V.int)[k]? =some (.int ns[k]):=by rw[eW,fm eH];rfl
  have y:∀h:H,bM h (.fz (ns.map V.int)) (.int k)=some (.int ns[k]):=λh=>dI z (by lia);obtain⟨r,d,e⟩:=fin ns[k];have B:(k:Int)+1<=(ns.map V.int).length:=by rw[be];exact O
  erw[rl,Fk,JJ,J,B,D,y,mX _ _ Gn,e];rw[u];exact aR (q r d)
 .obtain B:¬(k:Int)+1<=(ns.map V.int).length:=by rw[be];exact O
  obtain hm:k % 19<19:=Nat.mod_lt _ (by decide);obtain z:(mf.map V.int)[k % 19]? =some (.int mf[k % 19]):=by rw[eW,fm (by exact hm)];rfl
  obtain y:∀h:H,bM h (.tup (mf.map V.int)) (.int ((k % 19:Nat):Int))=some (.int mf[k % 19]):=λh=>by show iP _ _=_;unfold iP;rw[al #[Int.natCast_nonneg _,Int.ofNat_lt.mpr (Nat.lt_trans hm (by decide))]];exact z
  obtain hG:∀(G:Ka) (t:Bool) (l:Lc) (h:H) (Q X:QV),au az (wG n) G wg t l h Q X=tq t Q (.tup (mf.map V.int)) h:=λG t l h Q X=>by show au az (wG n) G (.ba 177) t l h Q X=_;rw[AV,v3,U3,fw,kz]
  obtain Q9:∀(t:Bool) (Q:QV) (h:H),j5 t Q (.tup (mf.map V.int)) h=tq t Q (.int ((19:Nat):Int)) h:=λt Q h=>by rw[Ck];exact propext #[λh=>h.2,λh=>#[by decide,h]]
  obtain QY:((19:Nat):Int)≠0:=by decide
  obtain Ol:=xR k 19;obtain⟨r,d,e⟩:=fin mf[k % 19];obtain hb:f5 .mod (.int (k:Int)) (.int ((19:Nat):Int))=some (.int ((k % 19:Nat):Int)):=by rw[mX _ _ QY,Ol]
  erw[rl,Fk,JJ,J,B];simp only[hG,fA,wi,WT,AX,oj,jg,Nat.reduceEqDiff,if_true,if_false,fw,kz,AW,wj,uD,rl,uE,sC,L8,wh,MF,D,WX,Q9,hb,y,mX _ _ Gn,e,XK,vz];rw[u];exact aR (q r d)
end
structure cA where
 hand:Int
 aV:dK
 rest:Int
 bI:Int
 bE:Nat
def cA.v(p:cA):V:=.tup [.int p.hand,p.aV.v,.int p.rest,.int p.bI,.int p.bE]
structure cA.Ok(p:cA):Prop where
 hand:p.hand=0\/p.hand=1
 aV:∀w,p.aV=.int w->0<w
 bE:p.bE<=2
def ey(f:Nat)(srv:Bool)(ps:List cA)(d:cA):ck:=#[f,ps.length,srv,λi=>(ps.getD i d).hand,λi=>(ps.getD i d).aV,λi=>(ps.getD i d).rest,λi=>(ps.getD i d).bI,λi=>(ps.getD i d).bE]
def HQ(f srv ps d):dH (ey f srv ps d)=ps.map cA.v:=by
 unfold dH;apply List.ext_getElem?;intro i;rw[eW,eW];by_cases h:i<ps.length
 .rw[iw (by exact h),fm h];show some (gm (ey f srv ps d) i)=some (cA.v ps[i]);unfold gm ey cA.v;simp[List.getD,fm h]
 .obtain x:(List.range (ey f srv ps d).N)[i]? =none:=by rw[List.getElem?_eq_none];rw[cC];show ps.length<=i;lia
  rw[x,List.getElem?_eq_none (by lia)];rfl
def x5{ps:List cA}{d:cA}(h:∀p∈ps,p.Ok)(hd:d.Ok)(i:Nat):(ps.getD i d).Ok:=by
 unfold List.getD;by_cases x:i<ps.length
 .rw[fm x];exact h _ (List.getElem_mem x)
 .rw[List.getElem?_eq_none (by lia)];exact hd
def U8(u:2<=N)(hi:i<N):(i+1) % N<N/\i≠(i+1) % N:=by refine#[Nat.mod_lt _ (bU (by decide) u),λe=>(Nat.lt_or_ge (i+1) N).elim (λh=>Nat.ne_of_lt (bA i) (e.trans (Nat.mod_eq_of_lt h))) λh=> ?_];have d:i+1=N:=iz hi h;rw[d,Nat.mod_self]at e;rw[←d,e]at u;exact absurd u (by decide)
def HO{f:Nat}{srv:Bool}{ps:List cA}{d:cA}(u:2<=ps.length)(B:ps.length<=4)(h:∀p∈ps,p.Ok)(hd:d.Ok):bn (ey f srv ps d)/\(∀i,(ey f srv ps d).hand i=0\/(ey f srv ps d).hand i=1)/\∀i,(ey f srv ps d).bE i<=2:=by
 have key:∀i,i<ps.length->((ey f srv ps d).fa i<ps.length/\(ey f srv ps d).fb i<ps.length/\(ey f srv ps d).fa i≠(ey f srv ps d).fb i):=λi x=>by
  have:=U8 u x;unfold ck.fa ck.fb;show(if _ then i else(i+1) % ps.length)<ps.length/\(if _ then(i+1) % ps.length else i)<ps.length/\(if _ then i else(i+1) % ps.length)≠if _ then(i+1) % ps.length else i
  split
  .exact#[x,this.1,this.2]
  .exact#[this.1,x,this.2.symm]
 exact#[#[u,B,λi w e=>(x5 h hd i).aV w e,λi x=>(key i x).1,λi x=>(key i x).2.1,λi x=>(key i x).2.2],λi=>(x5 h hd i).hand,λi=>(x5 h hd i).bE]
def Z2{ns:k23}(e:0<ns.length)(u:ns.length<=63):WL (.fz (ns.map V.int)) ns.length:=#[e,by lia,λh i d=>#[ns[i],dI (by rw[eW,fm d];rfl) (by lia)],λt Q h=>by rw[Md,be]]
def vl:List Int:=[2,2,2,1,0,0,0,0,0,1,1,0]
def Z3:WL (.tup (vl.map V.int)) 12:=#[by decide,by decide,λh i d=>#[vl[i]'d,by
 show iP _ _=_;unfold iP;rw[al #[by lia,by lia]];have:(vl.map V.int)[i]? =some (.int (vl[i]'d)):=by rw[eW,fm d];rfl
 exact this],λt Q h=>by rw[Ck];rfl]
def Kz:∃F:Fn,F=oy az 40 77 cZ:=#[_,rfl]
def wT:Fn:=Kz.choose
def BA:wT=oy az 40 77 cZ:=Kz.choose_spec
def vI(hk:k≠77):wT (.fn k)=wG 40 (.fn k):=by funext args h Q X;rw[BA];show(if k=77 then _ else _)=_;rw[ak hk,sN]
def Kl(args h Q X):wT (.fn 77) args h Q X=ei az (wG 40) cZ [] args h Q (λU U=>False):=by rw[sN,BA];rfl
def Wk(h:H){r:Nat}(e:r<6):∃p:dK,bM h (.tup [.none,.none,.none,.str 91,.int 1,.int 2]) (.int (r:Int))=some p.v/\∀w,p=.int w->0<w:=by
 have:=(by decide:∀r,r<6->r=0\/r=1\/r=2\/r=3\/r=4\/r=5) r e;rcases this with rfl|rfl|rfl|rfl|rfl|rfl
 .exact#[.none,rfl,λw h=>by cases h]
 .exact#[.none,rfl,λw h=>by cases h]
 .exact#[.none,rfl,λw h=>by cases h]
 .exact#[.bB,rfl,λw h=>by cases h]
 .exact#[.int 1,rfl,λw h=>by cases h;decide]
 .exact#[.int 2,rfl,λw h=>by cases h;decide]
def p0:Ss:=match kF.body with|.cons _ (.cons _ (.cons _ (.cons _ (.cons (.loop _ _ _ b) _))))=>b|r=>r
def uV:Ss:=match kF.body with|.cons _ (.cons _ (.cons _ (.cons _ (.cons _ r))))=>r|r=>r
def Uy:kF.body=.cons (.asg false 178 (.lst false (.cons (.int 0) .nil))) (.cons (.asg false 211 (.cmp .eq (.call (.ba 181) (.cons (.loc 180) (.cons (.loc 178) (.cons (.int 2) .nil)))) (.int 1))) (.cons (.asg false 220 (.bin .add (.int 2) (.call (.ba 181) (.cons (.loc 180) (.cons (.loc 178) (.cons (.ite (.loc 211) (.int 2) (.int 3)) .nil)))))) (.cons (.asg false 224 (.lst false .nil)) (.cons (.loop [219] true (.loc 220) p0) uV)))):=rfl
def WG:p0=.cons (.asg false 190 (.call (.ba 181) (.cons (.loc 180) (.cons (.loc 178) (.cons (.int 2) .nil))))) (.cons (.asg false 188 (.item (.tup (.cons .none (.cons .none (.cons .none (.cons (.str 91) (.cons (.int 1) (.cons (.int 2) .nil))))))) (.call (.ba 181) (.cons (.loc 180) (.cons (.loc 178) (.cons (.int 6) .nil)))))) (.cons (.asg false 23 (.call (.ba 181) (.cons (.loc 180) (.cons (.loc 178) (.cons (.int 2) .nil))))) (.cons (.asg false 187 (.call (.ba 181) (.cons (.loc 180) (.cons (.loc 178) (.cons (.int 3) .nil))))) (.cons (.asg false 183 (.bin .add (.int 1) (.call (.ba 181) (.cons (.loc 180) (.cons (.loc 178) (.cons (.ite (.eP (.loc 211) (.cmp .gt (.loc 220) (.int 3))) (.int 1) (.int 2)) .nil)))))) (.cons (.ex (.gj (.loc 224) 0 (.cons (.tup (.cons (.loc 190) (.cons (.loc 188) (.cons (.loc 23) (.cons (.loc 187) (.cons (.loc 183) .nil)))))) .nil))) .nil))))):=rfl
structure LL(ns:k23)(b:Bool)(N:Nat)(l:Lc):Prop where
 s:l 180=some (.fz (ns.map V.int))
 e:l 178=some (.ref #[7,1,0])
 b:l 211=some (.bool b)
 n:l 220=some (.int (N:Nat))
 p:l 224=some (.ref #[7,2,0])
def WH{ns:k23}(e:ns.length<=63){b:Bool}{N:Nat}(hN:N<=4){l:Lc}(hl:LL ns b N l){k0:Nat}(F2:k0<=3){Rk:k02}
 (q:∀l' (k:Nat) (ps:List cA),LL ns b N l'->k<=30->ps.length=N->(∀p∈ps,p.Ok)->Rk .next l' (hL (k:Nat) (.live (.list (ps.map cA.v))))):
 cF (cE true (.int (N:Nat)) (aX (N:Nat))) (gX az (wT) (λU=>none) [219] p0) (aX (N:Nat)) l (hL (k0:Nat) (.live (.list []))) Rk:=by
 refine fO (λxs l h=>∃(k:Nat) (ps:List cA),k<=3+5*ps.length/\ps.length+xs.length=N/\(∀p∈ps,p.Ok)/\LL ns b N l/\h=hL (k:Nat) (.live (.list (ps.map cA.v)))) (λxs l h i=>dh (kn _ _ _)) (λx xs l h ae K q=> ?_) _ _ _
  #[k0,[],by simp;lia,by simp[aX],λp hp=>(by cases hp),hl,rfl] λl' h' ae=> ?_
 .obtain⟨k,ps,hk,bl,hY,hl,rfl⟩:=ae;rw[gu]at bl;obtain⟨d,y,z,D,G⟩:=hl;rw[WG];have u:=vI (k:=68) (by decide);have h3:ps.length<=3:=Nat.le_of_lt_succ (bU (bl▸Nat.lt_add_of_pos_right (Nat.succ_pos _)) hN);have gH:(ps.map cA.v).length<1000:=by rw[be];exact el h3 (by decide)
  have Q:∀{m},m<=182->k+m<=200:=λh=>Nat.add_le_add (bk hk (fL (Nat.mul_le_mul_left 5 h3) 3)) h;erw[d,y,z,D,G,u];refine iB (n:=39) (s:=2) e (Q (m:=0) (by decide)) (by decide) λr1 ux=> ?_;erw[d,y,z,D,G,u];refine iB (n:=39) (k:=k+1) (s:=6) e (Q (by decide)) (by decide) λr2 y6=> ?_;obtain⟨p,hp,jr⟩:=Wk (hL ((k+1+1:Nat):Int) (.live (.list (ps.map cA.v)))) y6;have e8:∀h:H,bM h (.tup [.none,.none,.none,.str 91,.int 1,.int 2]) (.int (r2:Int))=some p.v:=λh=>hp;erw[d,y,z,D,G,u,e8];refine iB (n:=39) (k:=k+1+1) (s:=2) e (Q (m:=2) (by decide)) (by decide) λr3 hr3=> ?_;erw[d,y,z,D,G,u];refine iB (n:=39) (k:=k+1+1+1) (s:=3) e (Q (m:=3) (by decide)) (by decide) λr4 hr4=> ?_;have fin:∀(P:Nat) (l':Lc),P<2->(∀x,x≠219->x≠190->x≠188->x≠23->x≠187->x≠183->l' x=l x)->K .next l' (hL ((k+1+1+1+1+1:Nat):Int) (.live (.list (ps.map cA.v++[.tup [.int (r1:Int),p.v,.int (r3:Int),.int (r4:Int),.int (1+(P:Int))]])))):=λP l' y7 du=>by
   refine q l' _ #[k+1+1+1+1+1,ps++[#[r1,p,r3,r4,1+P]],by rw[eV];simp;lia,by rw[eV];simp;lia,λp' e8=> ?_,#[by rw[du 180 (by decide) (by decide) (by decide) (by decide) (by decide) (by decide)];exact d,by rw[du 178 (by decide) (by decide) (by decide) (by decide) (by decide) (by decide)];exact y,by rw[du 211 (by decide) (by decide) (by decide) (by decide) (by decide) (by decide)];exact z,by rw[du 220 (by decide) (by decide) (by decide) (by decide) (by decide) (by decide)];exact D,by rw[du 224 (by decide) (by decide) (by decide) (by decide) (by decide) (by decide)];exact G],?_]
   .rcases List.mem_append.mp e8 with h|h
    .exact hY p' h
    .cases cu.mp h;exact#[by show(r1:Int)=0\/(r1:Int)=1;lia,jr,by show 1+P<=2;lia]
   .rw[List.map_append];congr 4
  cases b with
  |true=>erw[d,y,z,D,G,u];refine iB (n:=39) (k:=k+1+1+1+1) (s:=1) e (Q (m:=4) (by decide)) (by decide) λP y7=> ?_;erw[d,y,z,D,G,rn,gH,ua];exact fin P _ (by lia) λx B J O a4 a5 a6=>by simp[upd,B,J,O,a4,a5,a6]
  |false=>
   by_cases h3:((N:Nat):Int)>3
   .erw[d,y,z,D,G,u,h3];refine iB (n:=39) (k:=k+1+1+1+1) (s:=1) e (Q (m:=4) (by decide)) (by decide) λP y7=> ?_;erw[d,y,z,D,G,rn,gH,ua];exact fin P _ (by lia) λx B J O a4 a5 a6=>by simp[upd,B,J,O,a4,a5,a6]
   .erw[d,y,z,D,G,u,h3];refine iB (n:=39) (k:=k+1+1+1+1) (s:=2) e (Q (m:=4) (by decide)) (by decide) λP y7=> ?_;erw[d,y,z,D,G,rn,gH,ua];exact fin P _ (by lia) λx B J O a4 a5 a6=>by simp[upd,B,J,O,a4,a5,a6]
 .obtain⟨k,ps,hk,bl,hY,hl,rfl⟩:=ae;have uq:ps.length=N:=by simpa using bl
  exact q l' k ps hl (by lia) uq hY
def uW:Ss:=match uV with|.cons _ (.cons _ (.cons _ r))=>r|r=>r
def Uv:uV=.cons (.asg false 239 (.tup (.cons (.call (.ba 181) (.cons (.loc 180) (.cons (.loc 178) (.cons (.int 2) .nil)))) (.cons .none (.cons (.int 1) (.cons (.int 1) (.cons (.int 1) .nil))))))) (.cons (.asg false 237 (.rep true (.loc 239) (.bin .add (.int 2) (.call (.ba 181) (.cons (.loc 180) (.cons (.loc 178) (.cons (.int 2) .nil))))))) (.cons (.asg false 230 (.eP (.oq (.loc 180) (.item (.loc 178) (.int 0))) (.ba 238))) uW)):=rfl
def Uw:uW=.cons (.asg false 234 (.call (.ba 231) (.cons (.loc 211) (.cons (.loc 224) (.cons (.loc 230) .nil))))) (.cons (.ite (.eP (.cmp .is (.loc 234) .none) (.not (.call (.ba 236) (.cons (.loc 234) (.cons (.loc 224) .nil))))) (.cons (.ret .ff) .nil) .nil) (.cons (.asg false 234 (.call (.ba 231) (.cons (.not (.loc 211)) (.cons (.loc 237) (.cons (.loc 230) .nil))))) (.cons (.ite (.eP (.cmp .is (.loc 234) .none) (.eP (.cmp .eq (.item (.loc 234) (.int 3)) (.lst true .nil)) (.cmp .ne (.attr (.attr (.item (.item (.loc 234) (.int 0)) (.str 93)) 34) 33) (.int 1)))) (.cons (.ret .ff) .nil) .nil) (.cons (.ret (.call (.ba 235) (.cons (.loc 234) (.cons (.loc 237) .nil)))) .nil)))):=rfl
def bX(x:Int):cA:=#[x,.none,1,1,1]
def VH(w:W s D)(ai:jE s D):da (numsOf D) []=some false:=by
 have y:numsOf D≠[]:=by
  unfold numsOf;obtain⟨i,d,h⟩:=ai.ex;intro e;rw[List.map_eq_nil_iff]at e;have:=(mU _ _).mp e i d;rw[decide_eq_false_iff_not]at this;refine this #[h,?_];rcases w.at i with⟨h',e⟩|⟨k,rfl,e⟩<;>rw[e]
  .exact(jR _).2.2.2
  .exact(jQ _).2.2.2
 cases h:numsOf D with
 |nil=>exact absurd h y
 |cons x r=>rfl
def Pq{s:Bs}(aa:bn I)(E:Ex s):¬(∀i,i<I.N->(s.ph i).st=6):=λh=>by
 have x:0<I.N:=bU (by decide) aa.n2;have d:=h 0 x;rcases E with⟨_,E⟩|⟨_,E⟩
 .rcases E 0 x with e|e|e
  .exact absurd (e.2.1.symm.trans d) (by decide)
  .rcases e.2 with e|e|e<;>exact absurd (e.symm.trans d) (by decide)
  .exact absurd (e.2.symm.trans d) (by decide)
 .rcases E 0 x with e|e<;>exact absurd (e.2.symm.trans d) (by decide)
def Pp{s:Bs}(aa:bn I)(u:∀i,I.hand i=0\/I.hand i=1)(w:W s D)(ah:Gd s)(ai:jE s D)(E:Ex s):s.now=1:=by
 rcases E with⟨_,E⟩|⟨h,_⟩
 .have d:0<I.N:=bU (by decide) aa.n2;have x:=((J2 aa u w ah ai).1 0 d).2.1;rcases E 0 d with e|e|e<;>exact absurd (e.1.symm.trans x) (by decide)
 .exact h
def Ke:TC I:=λ#[aa,J,O]=>by
 refine#[λW0 pv m0 o Q X u B x q=> ?_,λS y W0 pv m0 o Q X u B x q=> ?_]
 .refine EI (P:=λU=>True) aa Wl trivial u O B x (λs D j w d U e hz h=> ?_) λs D j w d U ai hz h=> ?_
  .exact q _ _ λU z=>z rfl (λQ X k=>Xu (n:=37) aa w d e hz (h▸x) k) λa y G=>(pB y G).trans (congrFun h a)
  .exact q _ _ λU z=>z rfl (λQ X k=>Xv (n:=37) aa J w d ai (h▸x) k) λa y G=>(pB y G).trans (congrFun h a)
 .refine EI (P:=Ex) aa (Pu aa S) (.inl #[rfl,λi U=>.inl #[rfl,rfl,y i]]) u O B x (λs D j w d E e U U=>(Pq aa E e).elim) λs D j w d E ai hz h=> ?_;have ur:D.now=1:=w.now.trans (Pp aa J w d ai E);refine q _ _ λU z=>z rfl (λQ X k=>J3 (n:=38) aa J w d ai (h▸x) k) (numsOf D) _ (.ref #[I.f,6,0]) (.ref #[I.f,1,0]) rfl (VH w ai) rfl ?_ ?_ ?_
  .erw[(w.tb aa).dU]
  .erw[w.K.iA]
  .erw[ur]
def Fj(k:Int)(P:Slot)(a:Nm)(h:a.f≠7):hL k P a=.fresh:=by unfold hL;rw[ak (λe=>h (by rw[e])),ak (λe=>h (by rw[e]))]
def law_fin{W:V}{m0:Nat}(hW:WL W m0){b:Bool}{ps:List cA}(h2:2<=ps.length)(h4:ps.length<=4)(hY:∀p∈ps,p.Ok){x:Int}(hx:x=0\/x=1){m:Nat}(cx:2<=m)(So:m<=4){k:Int}{l:Lc}
 (l1:l 211=some (.bool b))(l2:l 224=some (.ref #[7,2,0]))(l3:l 230=some W)(l4:l 237=some (.fz (List.replicate m (bX x).v))):
 bc az (wT) (λU=>none) uW l (hL k (.live (.list (ps.map cA.v)))) (λf U U=>f=.ret (.bool true)) (λU U U=>False):=by
 obtain dk:(bX 0).Ok:=#[.inl rfl,λw h=>(by cases h),by decide];have dx:(bX x).Ok:=#[hx,λw h=>(by cases h),by show 1<=2;lia];obtain⟨O1,H1,M1⟩:=HO (f:=0) (srv:=b) h2 h4 hY dk;obtain⟨O2,H2,M2⟩:=HO (f:=1) (srv:= !b) (ps:=List.replicate m (bX x)) (by rw[List.length_replicate];exact cx) (by rw[List.length_replicate];exact So) (λp hp=>by rw[List.eq_of_mem_replicate hp];exact dx) dx;obtain S2:jJ (ey 1 (!b) (List.replicate m (bX x)) (bX x)):=by
  have G:∀i,(List.replicate m (bX x)).getD i (bX x)=bX x:=λi=>by
   unfold List.getD;by_cases y:i<m
   .rw[List.getElem?_replicate,al y];rfl
   .rw[List.getElem?_replicate,ak y];rfl
  refine#[λi=> ?_,λi=> ?_,λi=> ?_]
  .show((List.replicate m (bX x)).getD i (bX x)).hand=((List.replicate m (bX x)).getD 0 (bX x)).hand;rw[G,G]
  .show((List.replicate m (bX x)).getD i (bX x)).aV=.none;rw[G];rfl
  .show((List.replicate m (bX x)).getD i (bX x)).rest=1;rw[G];rfl
 obtain E2:∀i,(ey 1 (!b) (List.replicate m (bX x)) (bX x)).bE i=1:=λi=>by
  show((List.replicate m (bX x)).getD i (bX x)).bE=1;unfold List.getD;by_cases y:i<m
  .rw[List.getElem?_replicate,al y];rfl
  .rw[List.getElem?_replicate,ak y];rfl
 obtain jY:=HQ 0 b ps (bX 0);have jr:=HQ 1 (!b) (List.replicate m (bX x)) (bX x);rw[List.map_replicate]at jr;have Q:(ey 0 b ps (bX 0)).f=0:=rfl;obtain RN:(ey 1 (!b) (List.replicate m (bX x)) (bX x)).f=1:=rfl;obtain rA:(ey 0 b ps (bX 0)).srv=b:=rfl;obtain rB:(ey 1 (!b) (List.replicate m (bX x)) (bX x)).srv= !b:=rfl;generalize hC1:ey 0 b ps (bX 0)=d at*;generalize hC2:ey 1 (!b) (List.replicate m (bX x)) (bX x)=z at*;obtain O:=vI (k:=79) (by decide);obtain J:=vI (k:=78) (by decide);obtain SV:fY d.f (hL k (.live (.list (ps.map cA.v)))) (dH d) (.ref #[7,2,0]):=.inr #[_,rfl,by rw[Q];decide,by rw[Q];decide,by rw[rn,jY]];obtain SW:∀o:H,fY z.f o (dH z) (.fz (List.replicate m (bX x).v)):=λo=>.inl (by rw[jr]);have Ju:∀(w:V) (D:H),(∀a:Nm,a.f≠d.f->a.f≠d.f+2->D a=hL k (.live (.list (ps.map cA.v))) a)->
  ei az (wG 40) cZ [] [.bool z.srv,.fz (List.replicate m (bX x).v),W] D
   (gK false (uN (λU=>none) false 234 (upd l 234 w) (ju az (wT) (λU=>none) (.cons (.ite (.eP (.cmp .is (.loc 234) .none) (.eP (.cmp .eq (.item (.loc 234) (.int 3)) (.lst true .nil)) (.cmp .ne (.attr (.attr (.item (.item (.loc 234) (.int 0)) (.str 93)) 34) 33) (.int 1)))) (.cons (.ret .ff) .nil) .nil) (.cons (.ret (.call (.ba 235) (.cons (.loc 234) (.cons (.loc 237) .nil)))) .nil)) (λf U U=>f=.ret (.bool true)) (λU U U=>False)))) (λU U=>False):=λw D ho=>by
  refine(Kd Ke z #[O2,H2,M2]).2 S2 E2 W _ m0 D _ _ hW (λa P=> ?_) (SW _) λv h E=>E _ λe B ns t u c e3 bN e0 Op Oo Om=> ?_
  .rw[RN]at P;exact(ho a (by lia) (by lia)).trans (Fj _ _ _ (by lia))
  .erw[e,e3,e0,bN,Op,Oo,Om,l4,J];refine B _ _ ?_;lk
 rw[Uw];generalize hT:(Ss.cons (.ite (.eP (.cmp .is (.loc 234) .none) (.eP (.cmp .eq (.item (.loc 234) (.int 3)) (.lst true .nil)) (.cmp .ne (.attr (.attr (.item (.item (.loc 234) (.int 0)) (.str 93)) 34) 33) (.int 1)))) (.cons (.ret .ff) .nil) .nil) (.cons (.ret (.call (.ba 235) (.cons (.loc 234) (.cons (.loc 237) .nil)))) .nil))=TT at Ju⊢;erw[l1,l2,l3];rw[Kl,←rA];refine(Kd Ke d #[O1,H1,M1]).1 W _ m0 _ _ _ hW (λa P=>by rw[Q]at P;exact Fj _ _ _ (by lia)) SV λv h E=>E _ λe B fq=> ?_;erw[e,l2,O];refine B _ _ ?_;erw[l1,l3,l4];rw[Kl,←rB];exact Ju _ h fq
def Lx(ns:k23)(h:¬63<ns.length):s9 ns:=by
 have D:ns.length<=63:=Nat.le_of_not_lt h;unfold s9;rw[Uy,←BA];generalize ji:uV=u;have e:=vI (k:=68) (by decide);lk;refine#[#[7,1,0],rfl,?_];obtain e0:(H.set (λU=>Slot.fresh) #[7,1,0] (.live (.list [.int 0])))=hL ((0:Nat):Int) .fresh:=by funext a;unfold H.set hL;by_cases h:a=#[7,1,0]<;>simp[h]
 rw[e0];erw[e];refine iB (n:=39) (k:=0) (s:=2) D (by decide) (by decide) λr1 ux=> ?_;obtain MI:∀(b:Bool) (N:Nat),2<=N->N<=4->∀(l:Lc),LL ns b N l->∀(k:Nat) (d:List cA),k<=30->d.length=N->(∀p∈d,p.Ok)->
  bc az (wT) (λU=>none) u l (hL (k:Nat) (.live (.list (d.map cA.v)))) (λf U U=>f=.ret (.bool true)) (λU U U=>False):=λb N Fp ub l hl k d hk js hY=>by
  obtain⟨G,P,l3,l4,l5⟩:=hl;rw[←ji,Uv];generalize jV:uW=R2;erw[G,P,e];refine iB (n:=39) (s:=2) D (by lia) (by decide) λQ hq1=> ?_;erw[G,P,e];refine iB (n:=39) (k:=k+1) (s:=2) D (by lia) (by decide) λz Gl=> ?_;have b1:(-200:Int)<2+(z:Int):=by lia
  have b2:(2:Int)+(z:Int)<200:=by lia
  have b3:((2:Int)+(z:Int)).toNat=2+z:=by lia
  have b4:(2+z)<=1000:=by lia
  have c1:(0:Int)<=((k+1+1:Nat):Int):=Int.natCast_nonneg _;have c2:(ns.map V.int).length<=1000:=by rw[be];lia
  have J:(ns.map V.int).drop (k+1+1)=(ns.drop (k+1+1)).map V.int:=(List.map_drop).symm;obtain hx:(Q:Int)=0\/(Q:Int)=1:=by lia
  have fin:∀(W:V) (m0:Nat),WL W m0->bc az (wT) (λU=>none) R2 (upd (upd (upd l 239 (.tup [.int (Q:Int),.none,.int 1,.int 1,.int 1])) 237 (.fz (List.replicate (2+z) (.tup [.int (Q:Int),.none,.int 1,.int 1,.int 1])))) 230 W) (hL ((k+1+1:Nat):Int) (.live (.list (d.map cA.v)))) (λf U U=>f=.ret (.bool true)) (λU U U=>False):=λW m0 O=>by rw[←jV];exact law_fin (b:=b) (x:=Q) (m:=2+z) O (by lia) (by lia) hY hx (by lia) (by lia) (by simp[upd,l3]) (by simp[upd,l5]) (by simp[upd]) (by simp[upd];rfl)
  cases hd:ns.drop (k+1+1)with
  |nil=>rw[hd]at J;simp-implicitDefEqProofs only[Int.cast_ofNat_Int,mR,fA,wh,CJ,fw,kz,Cn,b1,b2,b3,wl,List.length_replicate,b4,om,iO,iN,sy,I4,I6,oj,jg,Nat.reduceEqDiff,reduceIte,G,Co,AX,P,wi,AW,wj,uD,rl,uE,sC,Cp,c1,c2,Int.toNat_natCast,J,Cm,true_and,List.map_nil,Y3,Mg,AV,v3,QN];exact fin _ _ Z3
  |cons y ys=>
   obtain bN:ia ((ns.drop (k+1+1)).map V.int)=some true:=by unfold ia;rw[al (by rw[be,List.length_drop];lia),hd];rfl
   obtain O:WL (.fz ((ns.drop (k+1+1)).map V.int)) (ns.drop (k+1+1)).length:=Z2 (by rw[hd];simp) (by rw[List.length_drop];lia);obtain ze:∀h:H,truthy h (.fz ((ns.drop (k+1+1)).map V.int))=some true:=λU=>bN;simp-implicitDefEqProofs only[Int.cast_ofNat_Int,mR,fA,wh,CJ,fw,kz,Cn,b1,b2,b3,wl,List.length_replicate,b4,om,iO,iN,sy,I4,I6,oj,jg,Nat.reduceEqDiff,reduceIte,G,Co,AX,P,wi,AW,wj,uD,rl,uE,sC,Cp,c1,c2,Int.toNat_natCast,J,Cm,true_and,ze,Mh];exact fin _ _ O
 have B:∀(b:Bool) (r:Nat),r<=2->∀(l:Lc),l 180=some (.fz (ns.map V.int))->l 178=some (.ref #[7,1,0])->l 211=some (.bool b)->
  bc az (wT) (λU=>none) (.cons (.asg false 224 (.lst false .nil)) (.cons (.loop [219] true (.loc 220) p0) u)) (upd l 220 (.int (2+(r:Int)))) (hL ((0+1+1:Nat):Int) .fresh) (λf U U=>f=.ret (.bool true)) (λU U U=>False):=λb r hr l G P l3=>by
  obtain eN:(2:Int)+(r:Int)=((2+r:Nat):Int):=by push_cast;rfl
  rw[eN];obtain et:∀h:H,eA true (.int ((2+r:Nat):Int)) h=some (aX ((2+r:Nat):Int)):=λh=>by unfold eA;simp only[if_true];show(if(-1000:Int)<=((2+r:Nat):Int)then some (aX ((2+r:Nat):Int))else none)=_;rw[al (by lia)]
  obtain gI:(aX ((2+r:Nat):Int)).length<=1000:=by unfold aX;rw[be,cC];lia
  rw[iN,sy,WY,I1,Me];refine#[by simp,#[7,2,0],rn _ _,?_];rw[ua,mR,fA,om,iO,iN,XQ,oj];rw[show upd (upd l 220 (.int ((2+r:Nat):Int))) 224 (.ref #[7,2,0]) 220=some (.int ((2+r:Nat):Int))by simp[upd]];rw[fw,kz,fA,XJ,et,fw];refine#[gI,?_];refine WH (b:=b) (N:=2+r) (k0:=0+1+1) D (by lia) #[by simp[upd,G],by simp[upd,P],by simp[upd,l3],by simp[upd],by simp[upd]] (by decide) λl' k d du hk js hY=> ?_;rw[iO];exact MI b (2+r) (by lia) (by lia) l' du k d hk js hY
 by_cases hb:(r1:Int)=1
 .generalize Rb:(Ss.cons (.asg false 224 (.lst false .nil)) (.cons (.loop [219] true (.loc 220) p0) u))=PP at B⊢;erw[hb,e];refine iB (n:=39) (k:=0+1) (s:=2) D (by decide) (by decide) λr2 y6=> ?_;lk;exact B true r2 (by lia) _ rfl rfl rfl
 .generalize Rb:(Ss.cons (.asg false 224 (.lst false .nil)) (.cons (.loop [219] true (.loc 220) p0) u))=PP at B⊢;erw[hb,e];refine iB (n:=39) (k:=0+1) (s:=3) D (by decide) (by decide) λr2 y6=> ?_;lk;exact B false r2 (by lia) _ rfl rfl rfl
end
open PySem PySem.W PySem.Calls PyProof.Rows
open Hd
def z1(w:World):wD (kK w.params)=true:=by kernel_rfl
def z2(w:World):tF (kK w.params)=true:=by kernel_rfl
def z3(w:World):tE (kK w.params)=true:=by kernel_rfl
def z4(w:World):wF (kK w.params)=true:=by kernel_rfl
def zz1(w:World):qY (kK w.params) 679 na 81 678=true:=by kernel_rfl
def zz2(w:World):qY (kK w.params) 710 cZ 82 709=true:=by kernel_rfl
def zz3(w:World):wI (kK w.params)=true:=by kernel_rfl
def zz4(w:World):wN (kK w.params)=true:=by kernel_rfl
def zz5(w:World):wJ (kK w.params)=true:=by kernel_rfl
def zz6(w:World):oW (kK w.params)=true:=by kernel_rfl
def zz7(w:World):wL (kK w.params)=true:=by kernel_rfl
end Mine.Internal
open Mine.Internal PySem PySem.W PySem.Calls PyProof.Rows
theorem PySem.Challenge.cw_sz0015_01_holds : PySem.Challenge.rw_sz0015_01.Holds :=
 Hd.hd (by
 intro w agW cj mg mb ah ax fa o pm cd doc dV kV ho hd nq hD Sp hg args ag0 as uw Sg rz uA kQ;have KX:(Hd.kK w.params).In _:=ax.1;have Fu:=ax.2;have X:=(Ground.X ah).1;have V:=(Ground.X ah).2;refine Ground.open ah ?_;intro T B ai aaD aaE;try (refine guard_noD ai (by decide+kernel) ?_;clear ai)
 have hT9:TabsAt ([(678,674),(709,707)]:List (Addr×Addr)) _:=List.forall_mem_cons.mpr ⟨⟨codeHd_of_K (c:=678) (P:=674) KX (by kernel_rfl),Fu 674 (.head _)⟩,List.forall_mem_cons.mpr ⟨⟨codeHd_of_K (c:=709) (P:=707) KX (by kernel_rfl),Fu 707 (.tail _ (.head _))⟩,λU h=>nomatch h⟩⟩;clear Sp
 wrow_args uw Sg rz uA kQ
 refine enter_call ?_
 w_top aeR
 kn_posts
 (have he:=Dflts.none hD rfl;subst he)
 have hc:(Hd.sL.names.all λx=> !(x.2== .cell))=true:=by kernel_rfl
 refine call_fullW (by decide) ho hd (Top.nolimit T) nq (BindsTo.of_eq rfl) (locs (by kernel_rfl)) (λTz F=> ?_) (by kernel_rfl) (by kernel_rfl) (by kernel_rfl) (λx hx e=>by have:=List.all_eq_true.mp hc x hx;rw[e]at this;exact absurd this (by decide))
 w_binds F
 have N0:=(News.nil:News _ _ _ []).at F;clear hd
 kn_ghosts F T
 k_drop
 rename_i d0 X' T' K' F' Nn N' l0;rename IntsAre _ _=>hI;rename Well _ _ _ _=>w1;rename (¬(63:Int)<_)=>bl;have C:sV (Hd.kK w.params) _:=⟨z1 w,z2 w,z3 w,zz6 w,z4 w,zz3 w,zz4 w,zz5 w,⟨zz1 w,zz2 w,Nn,codeHd⟩⟩;obtain⟨ol,gG,hlc,aeQ,Sh⟩:=lifted;have hw:=of_hideAll _ gG;cases w1 with
 |list FU _=>
  rw[hw]at FU;cases FU;cases Sh;refine wpAny_mono (Ux ⟨_,_,_,_,_,_,_,_,cj.os⟩ X' T' C (zz7 w) K' _ _ _ _ _ _ _ _ _ _ 0 (Lx _ (by omega)) F' N' hg rfl gG hI (by kernel_rfl) (by kernel_rfl) (by kernel_rfl)) (λf s' h=> ?_) (λU U h=>h.elim);obtain⟨rfl,hk,SK,RT,RW⟩:=h;exact⟨⟨.inl ⟨.bool true,.bool true,[],rfl,λU=>rfl,.bool true,by kernel_rfl,λU=>⟨List.nodup_nil,λU h=>nomatch h⟩⟩,hk,SK,RT⟩,RW⟩)
