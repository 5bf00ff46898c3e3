import PyProof.Rows.All
import Wide.All
import Open.Line
import OpenK.KCell
import Wide.FinOn
import Open.Boot
import Open.Tree
import OpenK.KTop
import OpenK.KMore
import OpenK.KMeth
import OpenK.KDescr
import OpenK.KWalk
import PyProof.Rows.KernelRfl
import PyProof.StationsW
import PyProof.StrLawsWords
import PyProof.EqLayable
import PyProof.LetGo
import PyProof.Rows.TupSub
import PyProof.Rows.AttrNodeAny
import PyProof.DictRoads
import PyProof.EqKinds
import PyProof.NeKinds
import PyProof.FactsAll.dict_2
import PyProof.FactsAll.subtypes_5
import PyProof.DictKinds
import PyProof.DictIter
import PyProof.StrLawsIn
import PyProof.StrBlockI
import PyProof.Rows.TupMore
import PyProof.Rows.TupAdd
import PyProof.Rows.StrTemp
import PyProof.Rows.RuleB_mod
import PyProof.FString5
import PyProof.SliceStr2
import PyProof.Rows.Chain
import PyProof.DictDisplay
import PyProof.TupleIter
import PyProof.DictStraight
import KE.KDictOf
import PyProof.CallStr
import PyProof.TupleOfSeq
import OpenK.KApp
import PyProof.StrCalls3
import PyProof.CallRoads3
import PyProof.MeetsStr2
import PyProof.WalksMore
import PyProof.Comp
import PyProof.RulesAssignMore
import KE.KItem
import PyProof.RangeFor
import KE.KTryMore
import PyProof.ExcClass3
import PyProof.ExcBaseAll.Exception
import PyProof.InstStoreFacts
import PyProof.CompUse
import PyProof.Rows.CompDCn
import PyProof.Rows.CompRange
import PyProof.ListOps
import PyProof.Cells
import PyProof.Rows.ListMulArg
import PyProof.ListMulRoad
import PyProof.ListMulAny
import PyProof.Rows.CellsFrame
import Lean
import PySem.Challenge.RW_xm0535_01
set_option Elab.async false
set_option maxRecDepth 100000
set_option maxHeartbeats 4000000
set_option linter.all false
noncomputable section
namespace Mine
section
open PySem PySem.W PyProof.Rows
abbrev rw0:OpenLaw:=PySem.Challenge.rw_xm0535_01
theorem lo1:sreFenced rw0.row.prog.main=true:=by kernel_rfl
theorem lo2:((moduleNames rw0.row.prog.main.body).isEmpty||lookedIntoSs (moduleNames rw0.row.prog.main.body) rw0.row.prog.main.body)=true:=by kernel_rfl
theorem lo3:namesResolve rw0.row.prog=true:=by kernel_rfl
theorem lo4:rw0.row.prog.boundNames.all (fun n=>!worldNames.contains n)=true:=by kernel_rfl
theorem lo5:(!(importedModules rw0.row.prog.main.body).all cThrough.contains)=false:=by kernel_rfl
theorem lo6:(["vars","dir","locals"]:List Str).filter (readsOut rw0.row.prog rw0.row.prog.main.body)=[]:=by kernel_rfl
theorem lo7:noRoadLSs {strict:=false,foot:=none,bare:=[]} rw0.row.prog.main.body=true:=by kernel_rfl
theorem lo8:namesMeet rw0.row.prog rw0.row.prog.main.body (fun _ n=>attrL n)=true:=by kernel_rfl
theorem lo9:looksOpen rw0.row.prog=true:=by
 unfold looksOpen
 rw [lo1,lo2,lo3,lo4,lo5,lo6,lo7,lo8]
 rfl
theorem sd1:rw0.row.wellSaid=true:=by
 unfold OpenRow.wellSaid OpenRow.partSaid
 rw [lo9]
 kernel_rfl
theorem sd2:(decide (rw0.foot≤(behindTheImports rw0.prog).length)&&rw0.footing.all footLine&&noClassBlock rw0.prog rw0.footing)=true:=by kernel_rfl
theorem sd3:(rw0.most.all (fun n=>decide (63≤n))&&rw0.bound.all (fun n=>decide (2 ^ 63≤n)))=true:=by kernel_rfl
theorem sd4:noRoadLSs {strict:=true,foot:=some rw0.bound',writes:=rw0.writes,may:=rw0.may} rw0.footing=true:=by kernel_rfl
theorem sd5:(defStands rw0.about rw0.above&&rw0.namesIt)=true:=by kernel_rfl
theorem sd6:((["type","isinstance","issubclass","getattr","hasattr"]:List Str).all (fun n=>rw0.about != [n])&&rw0.bound'.all (fun n=>!builtinNamed n||rw0.about==[n]||!rw0.reads n))=true:=by kernel_rfl
theorem sd7:((!rw0.writes||(rw0.prog.main.body.flatMap importedNames).all fun n=>!rw0.reads n)&&(rw0.prog.main.body.flatMap importedNames).all (fun n=>!rw0.reads n||(drawsOf n rw0.prog.main.body).all fun mn=>mn.2 != ("attrgetter":Str)&&mn.2 != ("methodcaller":Str)))=true:=by kernel_rfl
theorem sd8:namesMeet rw0.prog rw0.footing (fun sc n=>(!(["type","isinstance","issubclass","getattr","hasattr"]:List Str).contains n||sc.names.lookup n==some .globalImplicit)&&(rw0.may != some n||sc.kind==.module||sc.names.lookup n==some .globalImplicit))=true:=by kernel_rfl
theorem sd9:(rw0.own.contains rw0.name&&rw0.own.eraseDups.length==rw0.own.length&&rw0.own.all (fun n=>!builtinNamed n))=true:=by kernel_rfl
theorem Ot:namesMeet rw0.prog rw0.above (fun _ n=>!rw0.own.contains n)=true:=by kernel_rfl
theorem Oq:(namesMeet rw0.prog rw0.footing fun sc n=>sc.kind==.module||sc.names.lookup n != some .globalExplicit)=true:=by kernel_rfl
theorem said:PySem.Challenge.rw_xm0535_01.wellSaid=true:=by
 have a2:=sd2;have a3:=sd3;have a5:=sd5;have a6:=sd6;have a7:=sd7;have a9:=sd9
 rw [Bool.and_eq_true] at a2 a3 a5 a6 a7 a9
 rw [Bool.and_eq_true] at a2 a9
 show (rw0.row.wellSaid&&decide _&&_&&_&&_&&_&&_&&_&&_&&_&&_&&_&&_&&_&&_&&_&&_&&_&&_)=true
 simp only [Bool.and_eq_true]
 exact ⟨⟨⟨⟨⟨⟨⟨⟨⟨⟨⟨⟨⟨⟨⟨⟨⟨⟨sd1,a2.1.1⟩,a2.1.2⟩,a2.2⟩,a3.1⟩,a3.2⟩,sd4⟩,a5.1⟩,a5.2⟩,a6.1⟩,a6.2⟩,a7.1⟩,a7.2⟩,sd8⟩,a9.1.1⟩,a9.1.2⟩,a9.2⟩,Ot⟩,Oq⟩
abbrev pw:Program:=PySem.Challenge.pw_xm0535_01
noncomputable abbrev N_:Value:=.none
noncomputable abbrev B_ (b:Bool):Value:=.bool b
noncomputable abbrev I_ (i:Int) (t:Nat):Value:=.int i t
noncomputable abbrev S_ (s:String) (t:Nat):Value:=.str (Str.ofString s) t
noncomputable abbrev T_ (s:String):Value:=.type s
noncomputable abbrev U_ (s:String):Value:=.builtin s
noncomputable abbrev R_ (a:Nat):Value:=.ref a
noncomputable abbrev E_ (P:Params) (s:String) (t:Nat) (v:Value):DictEntry:=⟨PyData.keyHash P (Str.ofString s),.str (Str.ofString s) t,v⟩
def D_ (i:Nat):Stmt:=(pw.main.body[i]?).getD (.Pass ⟨0,0,0,0⟩)
def M_ (i j:Nat):Stmt:=match D_ i with
 | .ClassDef _ _ _ b ..=>(b[j]?).getD (.Pass ⟨0,0,0,0⟩)
 | s=>s
def F_ (s:Stmt) (name qual:String) (globals:Addr) (closure:List (Str×Addr)) (dV kV doc pm:Value) (an:Option Addr) (cd ct:Value) (blt:Addr):Data:=match s with
 | .FunctionDef _ args body _ _ _ scope _ _ _=>.func {name:=Str.ofString name,qualname:=Str.ofString qual,params:=args,body:=.stmts body,scope:=scope,globals:=globals,closure:=closure,defaults:=dV,kwdefaults:=kV,doc:=doc,pyModule:=pm,annotations:=an,code:=cd,closureTuple:=ct,builtins:=blt}
 | _=>.plain
def C_ (name:String) (bases mro:List Value) (ns:Addr) (qual:String) (hasDict:Bool) (slotNames:List String) (subs:List Value) (abs:Bool) (col:Option Bool) (hasDel:Bool):Data:=
 .cls {name:=Str.ofString name,bases:=bases,mro:=mro,ns:=ns,qualname:=Str.ofString qual,hasDict:=hasDict,slotNames:=slotNames.map Str.ofString,subclasses:=subs,abstract:=abs,collection:=col,hasDel:=hasDel}
noncomputable def yt (l:List Value):Obj:=⟨T_ "tuple",none,.seq l.toArray 0,#[]⟩
noncomputable def yz:Nat→List String→List Value
 | _,[]=>[]
 | n,s::r=>S_ s n::yz (n+1) r
noncomputable def ys (n:Nat) (l:List String):Obj:=yt (yz n l)
noncomputable def yu (l:List Value):Obj:=⟨N_,none,.fields l.toArray,#[]⟩
noncomputable def yw:List Nat→List Value
 | a::b::c::r=>I_ a 0::I_ b 0::R_ c::yw r
 | _=>[]
noncomputable def yv (l:List Nat):Obj:=yu (yw l)
noncomputable def yx (s:String) (l:List Value):Obj:=⟨T_ s,none,.fields l.toArray,#[]⟩
noncomputable def yj (n q:String) (t l c v r:Nat) (b:Bool) (s:Nat) (x y z:Value) (u:Nat):Obj:=yx "code" [S_ n t,S_ q (t+1),S_ "/claim/cut.py" (t+2),I_ l 0,I_ c 0,I_ 0 0,I_ 0 0,I_ v 0,R_ r,B_ b,I_ 181 0,R_ s,N_,x,y,z,I_ u 0,I_ l 0,S_ "/claim/cut.py" (u+1)]
noncomputable def yk (a:Nat) (n q:String) (t l c u:Nat):Obj:=yj n q t l c 3 a true (a+1) (R_ (a+2)) (R_ (a+3)) (R_ (a+4)) u
noncomputable def yr (r:Nat):Obj:=yx "super" [R_ r,R_ r,R_ r]
noncomputable def yq (t r:Nat):Obj:=yx "getset_descriptor" [S_ "__weakref__" t,R_ r,U_ "ExceptionGroup.__weakref__",N_]
noncomputable def yd (t r:Nat):Obj:=yx "getset_descriptor" [S_ "__dict__" t,R_ r,U_ "function.__dict__",U_ "function.__dict__#set"]
noncomputable def yb (s:String) (v:Value):Obj:=yx "builtin_function_or_method" [U_ s,v]
noncomputable def yg (s:Stmt) (n q:String):Obj:=⟨N_,none,F_ s n q 0 [] N_ N_ N_ N_ none N_ N_ 0,#[]⟩
noncomputable def yf (s:Stmt) (n q:String) (v m:Value) (r:Nat):Obj:=⟨T_ "function",none,F_ s n q 3 [] v N_ N_ m none (R_ r) N_ 0,#[]⟩
noncomputable def ye (l:List DictEntry) (n:Nat):Obj:=⟨T_ "dict",none,.dict l.toArray n,#[]⟩
noncomputable def yh (r s:Nat) (m:Value):Obj:=⟨T_ "frame",none,.plain,#[some (R_ r),some (R_ 3),some (R_ s),none,some m,none,some (R_ 0)]⟩
noncomputable def yc (n:String) (b m:List Value) (a:Nat) (s:List Value) (r:Option Value) (t u:Nat) (w:String):Obj:=⟨T_ "type",none,C_ n b m a n true [] s false none false,#[r,none,some (S_ n t),some (S_ n u),some (U_ w),some (B_ true)]⟩
noncomputable def ym0:Value:=S_ "__main__" 164
noncomputable def ym1:Value:=S_ "kindkeep.diags" 194
noncomputable def ym2:Value:=S_ "kindkeep.scanner" 400
noncomputable def ym3:Value:=S_ "kindkeep.pcore" 457
noncomputable def ym4:Value:=S_ "kindkeep.nodes" 896
noncomputable def ym5:Value:=S_ "kindkeep.ptypes" 996
noncomputable def ym6:Value:=S_ "kindkeep.pexpr" 1215
noncomputable def ym7:Value:=S_ "law_xm0535_01" 1312
def b11:=yt []
def b12:=yu []
def b13:=yj "<module>" "<module>" 182 1 0 0 11 false 12 N_ N_ N_ 185
def b14:=yh 13 3 ym0
def o2 (P:Params):Obj:=⟨N_,none,(.dict #[E_ P "type.__subclasses__.Exception.0" 223 (I_ 39 0),E_ P "type.__subclasses__.Exception.n" 224 (I_ 1 0)] 2),#[]⟩
def o3 (P:Params):Obj:=ye [E_ P "__name__" 165 (S_ "law_xm0535_01" 1312),E_ P "__doc__" 166 N_,E_ P "__package__" 167 N_,E_ P "__loader__" 168 (U_ "__main__.__loader__#opaque"),E_ P "__spec__" 169 N_,E_ P "__annotations__" 170 (R_ 6),E_ P "__builtins__" 171 (R_ 4),E_ P "__file__" 173 (S_ "/claim/cut.py" 172),E_ P "__cached__" 174 N_,E_ P "_wall" 193 (R_ 21),E_ P "KeepError" 226 (R_ 39),E_ P "TooDeep" 255 (R_ 60),E_ P "ParseStop" 282 (R_ 80),E_ P "HostFault" 309 (R_ 100),E_ P "Diag" 351 (R_ 126),E_ P "Diags" 399 (R_ 162),E_ P "T_END" 403 (I_ 0 402),E_ P "T_NAME" 405 (I_ 1 404),E_ P "T_WORD" 407 (I_ 2 406),E_ P "T_NUM" 409 (I_ 3 408),E_ P "T_STR" 411 (I_ 4 410),E_ P "T_SIGN" 413 (I_ 5 412),E_ P "T_TPL_WHOLE" 415 (I_ 6 414),E_ P "T_TPL_HEAD" 417 (I_ 7 416),E_ P "Token" 456 (R_ 183),E_ P "MAX_DEEP" 460 (I_ 40 459),E_ P "MAX_CHAIN" 462 (I_ 60 461),E_ P "MAX_HEIGHT" 464 (I_ 160 463),E_ P "JOINED" 468 (R_ 188),E_ P "PART_TYPE" 470 (I_ 1 469),E_ P "PART_EXPR" 472 (I_ 2 471),E_ P "PART_STMT" 474 (I_ 3 473),E_ P "PART_BLOCK" 476 (I_ 4 475),E_ P "PART_FUNC" 478 (I_ 5 477),E_ P "PART_CLASS" 480 (I_ 6 479),E_ P "PART_PATTERN" 482 (I_ 10 481),E_ P "OWN_PARTS" 483 (R_ 189),E_ P "Part" 511 (R_ 206),E_ P "Mark" 563 (R_ 234),E_ P "cut_rows" 571 (R_ 245),E_ P "Parser" 810 (R_ 430),E_ P "take_mark" 819 (R_ 441),E_ P "read_apart" 833 (R_ 448),E_ P "is_token" 842 (R_ 455),E_ P "check_chain" 850 (R_ 462),E_ P "check_height" 862 (R_ 469),E_ P "eat_token" 871 (R_ 476),E_ P "read_member_name" 878 (R_ 483),E_ P "token_key" 885 (R_ 490),E_ P "need_angle" 895 (R_ 497),E_ P "K_NAME" 899 (I_ 8 898),E_ P "K_SPREAD" 901 (I_ 15 900),E_ P "K_CALL" 903 (I_ 18 902),E_ P "K_FUNC" 905 (I_ 27 904),E_ P "K_LIST" 907 (I_ 71 906),E_ P "K_TKEY" 909 (I_ 80 908),E_ P "K_TREF" 911 (I_ 81 910),E_ P "K_TUNION" 913 (I_ 83 912),E_ P "K_TINTER" 915 (I_ 84 914),E_ P "K_TARRAY" 917 (I_ 85 916),E_ P "K_TINDEX" 919 (I_ 90 918),E_ P "Node" 957 (R_ 514),E_ P "leaf" 966 (R_ 525),E_ P "twig" 976 (R_ 532),E_ P "flagged" 987 (R_ 539),E_ P "list_of" 995 (R_ 546),E_ P "KIND_WORDS" 1006 (R_ 547),E_ P "OPERATOR_WORDS" 1010 (R_ 548),E_ P "KindRule" 1039 (R_ 565),E_ P "TypePart" 1063 (R_ 586),E_ P "ptypes_read_kind" 1071 (R_ 595),E_ P "read_branch" 1078 (R_ 602),E_ P "extends_here" 1086 (R_ 609),E_ P "kind_with" 1096 (R_ 616),E_ P "read_union" 1105 (R_ 623),E_ P "read_inter" 1114 (R_ 630),E_ P "read_operator" 1122 (R_ 637),E_ P "read_hanging" 1134 (R_ 644),E_ P "NameKindRule" 1162 (R_ 661),E_ P "refuse_odd_kind" 1170 (R_ 670),E_ P "read_dotted" 1180 (R_ 677),E_ P "read_type_args" 1188 (R_ 684),E_ P "starts_func_kind" 1196 (R_ 691),E_ P "follows_param" 1205 (R_ 698),E_ P "pattern_ahead" 1214 (R_ 705),E_ P "TailRule" 1246 (R_ 722),E_ P "is_template" 1253 (R_ 733),E_ P "read_args" 1263 (R_ 740),E_ P "read_item" 1271 (R_ 747),E_ P "KindArgsTail" 1299 (R_ 764),E_ P "try_type_args" 1311 (R_ 773),E_ P "_law_BASE" 1378 (R_ 774),E_ P "_law_take" 1387 (R_ 781),E_ P "_law_signs" 1396 (R_ 788),E_ P "_law_text" 1408 (R_ 795),E_ P "_law_sign" 1419 (R_ 802),E_ P "_law_rows" 1434 (R_ 809),E_ P "_law_seen" 1440 (R_ 814),E_ P "_law_angles" 1459 (R_ 821),E_ P "_law_call" 1465 (R_ 826),E_ P "_law_names" 1475 (R_ 833),E_ P "_law_reader" 1487 (R_ 840),E_ P "_law_true" 1493 (R_ 845),E_ P "_law_move" 1504 (R_ 852),E_ P "_law_go" 1515 (R_ 859),E_ P "_law_kinds" 1525 (R_ 866),E_ P "_law_tail" 1539 (R_ 873),E_ P "_law_angle" 1554 (R_ 880),E_ P "_law_mark" 1562 (R_ 887),E_ P "_law_end" 1573 (R_ 894),E_ P "_law_lay" 1583 (R_ 901),E_ P "_law_fault" 1594 (R_ 908),E_ P "_law_do" 1604 (R_ 915),E_ P "_law_close" 1615 (R_ 922),E_ P "law" 1621 (R_ 927)] 115
def o12:=yv [1,0,20,5,0,27,10,0,48,15,0,68,20,0,88,25,0,108,35,0,136,55,0,172,77,0,195,81,0,216,116,0,244,119,0,251,240,0,440,246,0,447,264,0,454,266,0,461,270,0,468,281,0,475,286,0,482,290,0,489,302,0,496,329,0,503,338,0,524,340,0,531,342,0,538,344,0,545,349,0,554,353,0,575,357,0,594,362,0,601,366,0,608,370,0,615,376,0,622,385,0,629,394,0,636,399,0,643,419,0,650,432,0,669,440,0,676,450,0,683,457,0,690,470,0,697,477,0,704,490,0,711,494,0,732,496,0,739,509,0,746,514,0,753,522,0,772,548,0,780,552,0,787,560,0,794,573,0,801,583,0,808,599,0,813,601,0,820,630,0,825,660,0,832,665,0,839,678,0,844,692,0,851,703,0,858,710,0,865,719,0,872,740,0,879,752,0,886,756,0,893,770,0,900,793,0,907,802,0,914,816,0,921,834,0,926]
def o17:=ys 190 ["k"]
def o19 (P:Params):Obj:=yg (D_ 0) "_wall" "_wall"
def o20:=yk 15 "_wall" "_wall" 187 1 1 191
def o21 (P:Params):Obj:=yf (D_ 0) "_wall" "_wall" N_ ym0 20
def o22:=yt [T_ "Exception"]
def o23:=yb "type.__prepare__" (T_ "type")
def o24 (P:Params):Obj:=ye [E_ P "__module__" 203 ym1,E_ P "__qualname__" 205 (S_ "KeepError" 204),E_ P "__firstlineno__" 207 (I_ 5 206),E_ P "__init__" 216 (R_ 36),E_ P "__static_attributes__" 219 (R_ 37)] 5
def o26:=yv [7,4,35]
def o27:=yj "KeepError" "KeepError" 198 5 0 0 25 false 26 N_ N_ N_ 201
def o28:=yh 27 24 ym1
def o29:=ys 208 [""]
def o32:=ys 212 ["self","text"]
def o34:=yg (M_ 2 0) "__init__" "KeepError.__init__"
def o35:=yk 30 "__init__" "KeepError.__init__" 209 7 2 214
def o36 (P:Params):Obj:=yf (M_ 2 0) "__init__" "KeepError.__init__" (R_ 29) ym1 35
def o37:=ys 217 ["number","text"]
def o38 (P:Params):Obj:=ye [E_ P "__module__" 203 ym1,E_ P "__firstlineno__" 207 (I_ 5 206),E_ P "__init__" 216 (R_ 36),E_ P "__static_attributes__" 219 (R_ 37),E_ P "__weakref__" 221 (R_ 40),E_ P "__doc__" 222 N_] 3
def o39 (P:Params):Obj:=yc "KeepError" [(T_ "Exception")] [(R_ 39),(T_ "Exception"),(T_ "BaseException"),(T_ "object")] 38 [(R_ 60),(R_ 80),(R_ 100)] (some (R_ 22)) 196 204 "Exception.__new__"
def o40:=yq 220 39
def o41:=yr 39
def o42:=yb "object.__init_subclass__" (R_ 39)
def o43:=yt [R_ 39]
def o45 (P:Params):Obj:=ye [E_ P "__module__" 234 ym1,E_ P "__qualname__" 236 (S_ "TooDeep" 235),E_ P "__firstlineno__" 238 (I_ 10 237),E_ P "__init__" 249 (R_ 57),E_ P "__static_attributes__" 252 (R_ 58)] 5
def o47:=yv [12,4,56]
def o48:=yj "TooDeep" "TooDeep" 229 10 0 0 46 false 47 N_ N_ N_ 232
def o49:=yh 48 45 ym1
def o50:=yt [I_ 2589 239,S_ "" 240]
def o53:=ys 244 ["self","number","text"]
def o55:=yg (M_ 3 0) "__init__" "TooDeep.__init__"
def o56:=yk 51 "__init__" "TooDeep.__init__" 241 12 3 247
def o57 (P:Params):Obj:=yf (M_ 3 0) "__init__" "TooDeep.__init__" (R_ 50) ym1 56
def o58:=ys 250 ["number","text"]
def o59 (P:Params):Obj:=ye [E_ P "__module__" 234 ym1,E_ P "__firstlineno__" 238 (I_ 10 237),E_ P "__init__" 249 (R_ 57),E_ P "__static_attributes__" 252 (R_ 58),E_ P "__doc__" 253 N_] 2
def o60 (P:Params):Obj:=yc "TooDeep" [(R_ 39)] [(R_ 60),(R_ 39),(T_ "Exception"),(T_ "BaseException"),(T_ "object")] 59 [] (some (R_ 43)) 227 235 "Exception.__new__"
def o61:=yr 60
def o62:=yb "object.__init_subclass__" (R_ 60)
def o65 (P:Params):Obj:=ye [E_ P "__module__" 263 ym1,E_ P "__qualname__" 265 (S_ "ParseStop" 264),E_ P "__firstlineno__" 267 (I_ 15 266),E_ P "__init__" 276 (R_ 77),E_ P "__static_attributes__" 279 (R_ 78)] 5
def o67:=yv [17,4,76]
def o68:=yj "ParseStop" "ParseStop" 258 15 0 0 66 false 67 N_ N_ N_ 261
def o69:=yh 68 65 ym1
def o70:=ys 268 [""]
def o73:=ys 272 ["self","text"]
def o75:=yg (M_ 4 0) "__init__" "ParseStop.__init__"
def o76:=yk 71 "__init__" "ParseStop.__init__" 269 17 2 274
def o77 (P:Params):Obj:=yf (M_ 4 0) "__init__" "ParseStop.__init__" (R_ 70) ym1 76
def o78:=ys 277 ["number","text"]
def o79 (P:Params):Obj:=ye [E_ P "__module__" 263 ym1,E_ P "__firstlineno__" 267 (I_ 15 266),E_ P "__init__" 276 (R_ 77),E_ P "__static_attributes__" 279 (R_ 78),E_ P "__doc__" 280 N_] 2
def o80 (P:Params):Obj:=yc "ParseStop" [(R_ 39)] [(R_ 80),(R_ 39),(T_ "Exception"),(T_ "BaseException"),(T_ "object")] 79 [] (some (R_ 63)) 256 264 "Exception.__new__"
def o81:=yr 80
def o82:=yb "object.__init_subclass__" (R_ 80)
def o85 (P:Params):Obj:=ye [E_ P "__module__" 290 ym1,E_ P "__qualname__" 292 (S_ "HostFault" 291),E_ P "__firstlineno__" 294 (I_ 20 293),E_ P "__init__" 303 (R_ 97),E_ P "__static_attributes__" 306 (R_ 98)] 5
def o87:=yv [22,4,96]
def o88:=yj "HostFault" "HostFault" 285 20 0 0 86 false 87 N_ N_ N_ 288
def o89:=yh 88 85 ym1
def o90:=ys 295 [""]
def o93:=ys 299 ["self","text"]
def o95:=yg (M_ 5 0) "__init__" "HostFault.__init__"
def o96:=yk 91 "__init__" "HostFault.__init__" 296 22 2 301
def o97 (P:Params):Obj:=yf (M_ 5 0) "__init__" "HostFault.__init__" (R_ 90) ym1 96
def o98:=ys 304 ["number","text"]
def o99 (P:Params):Obj:=ye [E_ P "__module__" 290 ym1,E_ P "__firstlineno__" 294 (I_ 20 293),E_ P "__init__" 303 (R_ 97),E_ P "__static_attributes__" 306 (R_ 98),E_ P "__doc__" 307 N_] 2
def Mr (P:Params):Obj:=yc "HostFault" [(R_ 39)] [(R_ 100),(R_ 39),(T_ "Exception"),(T_ "BaseException"),(T_ "object")] 99 [] (some (R_ 83)) 283 291 "Exception.__new__"
def Ec:=yr 100
def Eb:=yb "object.__init_subclass__" (R_ 100)
def Ea (P:Params):Obj:=ye [E_ P "__module__" 317 ym1,E_ P "__qualname__" 319 (S_ "Diag" 318),E_ P "__firstlineno__" 321 (I_ 25 320),E_ P "__init__" 332 (R_ 116),E_ P "row" 339 (R_ 123),E_ P "__static_attributes__" 344 (R_ 124)] 6
def E9:=yv [27,4,115,33,4,122]
def E8:=yj "Diag" "Diag" 312 25 0 0 106 false 107 N_ N_ N_ 315
def E7:=yh 108 105 ym1
def CZ:=ys 325 ["self","number","at","args","file"]
def CY:=yg (M_ 6 0) "__init__" "Diag.__init__"
def CX:=yk 110 "__init__" "Diag.__init__" 322 27 5 330
def Mq (P:Params):Obj:=yf (M_ 6 0) "__init__" "Diag.__init__" N_ ym1 115
def CW:=ys 336 ["self"]
def CV:=yg (M_ 6 1) "row" "Diag.row"
def CU:=yk 117 "row" "Diag.row" 333 33 1 337
def Mp (P:Params):Obj:=yf (M_ 6 1) "row" "Diag.row" N_ ym1 122
def CT:=ys 340 ["args","at","file","number"]
def Mo (P:Params):Obj:=ye [E_ P "__module__" 317 ym1,E_ P "__firstlineno__" 321 (I_ 25 320),E_ P "__init__" 332 (R_ 116),E_ P "row" 339 (R_ 123),E_ P "__static_attributes__" 344 (R_ 124),E_ P "__dict__" 346 (R_ 127),E_ P "__weakref__" 348 (R_ 128),E_ P "__doc__" 349 N_] 4
def Mn (P:Params):Obj:=yc "Diag" [(T_ "object")] [(R_ 126),(T_ "object")] 125 [] none 310 318 "object.__new__"
def CS:=yd 345 126
def CR:=yq 347 126
def CQ:=yr 126
def CP:=yb "object.__init_subclass__" (R_ 126)
def CO (P:Params):Obj:=ye [E_ P "__module__" 359 ym1,E_ P "__qualname__" 361 (S_ "Diags" 360),E_ P "__firstlineno__" 363 (I_ 35 362),E_ P "__init__" 372 (R_ 145),E_ P "put" 382 (R_ 152),E_ P "numbers" 389 (R_ 159),E_ P "__static_attributes__" 392 (R_ 160)] 7
def CN:=yv [37,4,144,41,4,151,44,4,158]
def CM:=yj "Diags" "Diags" 354 35 0 0 134 false 135 N_ N_ N_ 357
def CL:=yh 136 133 ym1
def CK:=ys 364 [""]
def CJ:=ys 368 ["self","file"]
def CI:=yg (M_ 7 0) "__init__" "Diags.__init__"
def CH:=yk 139 "__init__" "Diags.__init__" 365 37 2 370
def Mm (P:Params):Obj:=yf (M_ 7 0) "__init__" "Diags.__init__" (R_ 138) ym1 144
def CE:=ys 376 ["self","number","at","args"]
def CD:=yg (M_ 7 1) "put" "Diags.put"
def CC:=yk 146 "put" "Diags.put" 373 41 4 380
def Ml (P:Params):Obj:=yf (M_ 7 1) "put" "Diags.put" N_ ym1 151
def CB:=ys 386 ["self"]
def Cz:=yg (M_ 7 2) "numbers" "Diags.numbers"
def Cy:=yk 153 "numbers" "Diags.numbers" 383 44 1 387
def Mj (P:Params):Obj:=yf (M_ 7 2) "numbers" "Diags.numbers" N_ ym1 158
def Cx:=ys 390 ["file","rows"]
def Mi (P:Params):Obj:=ye [E_ P "__module__" 359 ym1,E_ P "__firstlineno__" 363 (I_ 35 362),E_ P "__init__" 372 (R_ 145),E_ P "put" 382 (R_ 152),E_ P "numbers" 389 (R_ 159),E_ P "__static_attributes__" 392 (R_ 160),E_ P "__dict__" 394 (R_ 163),E_ P "__weakref__" 396 (R_ 164),E_ P "__doc__" 397 N_] 4
def Mh (P:Params):Obj:=yc "Diags" [(T_ "object")] [(R_ 162),(T_ "object")] 161 [] none 352 360 "object.__new__"
def Cw:=yd 393 162
def Cv:=yq 395 162
def Cu:=yr 162
def Ct:=yb "object.__init_subclass__" (R_ 162)
def Cs (P:Params):Obj:=ye [E_ P "__module__" 425 ym2,E_ P "__qualname__" 427 (S_ "Token" 426),E_ P "__firstlineno__" 429 (I_ 55 428),E_ P "__init__" 442 (R_ 180),E_ P "__static_attributes__" 449 (R_ 181)] 5
def Cr:=yv [57,4,179]
def Cq:=yj "Token" "Token" 420 55 0 0 170 false 171 N_ N_ N_ 423
def Cp:=yh 172 169 ym2
def Co:=ys 433 ["self","kind","text","num","at","end","line_before"]
def Cm:=yg (M_ 17 0) "__init__" "Token.__init__"
def Ck:=yk 174 "__init__" "Token.__init__" 430 57 7 440
def Mg (P:Params):Obj:=yf (M_ 17 0) "__init__" "Token.__init__" N_ ym2 179
def Cj:=ys 443 ["at","end","kind","line_before","num","text"]
def Mf (P:Params):Obj:=ye [E_ P "__module__" 425 ym2,E_ P "__firstlineno__" 429 (I_ 55 428),E_ P "__init__" 442 (R_ 180),E_ P "__static_attributes__" 449 (R_ 181),E_ P "__dict__" 451 (R_ 184),E_ P "__weakref__" 453 (R_ 185),E_ P "__doc__" 454 N_] 4
def Me (P:Params):Obj:=yc "Token" [(T_ "object")] [(R_ 183),(T_ "object")] 182 [] none 418 426 "object.__new__"
def Ci:=yd 450 183
def Ch:=yq 452 183
def Cg:=yr 183
def Cf:=yb "object.__init_subclass__" (R_ 183)
def Ce:=ys 465 ["=>","==","==="]
def Cd:=yt [I_ 3 473,I_ 4 475,I_ 5 477,I_ 6 479]
def Cc (P:Params):Obj:=ye [E_ P "__module__" 491 ym3,E_ P "__qualname__" 493 (S_ "Part" 492),E_ P "__firstlineno__" 495 (I_ 77 494),E_ P "parse" 503 (R_ 203),E_ P "__static_attributes__" 504 (R_ 204)] 5
def Cb:=yv [79,4,202]
def Ca:=yj "Part" "Part" 486 77 0 0 193 false 194 N_ N_ N_ 489
def C9:=yh 195 192 ym3
def C8:=ys 499 ["self","p"]
def C7:=yg (M_ 31 0) "parse" "Part.parse"
def C6:=yk 197 "parse" "Part.parse" 496 79 2 501
def Mc (P:Params):Obj:=yf (M_ 31 0) "parse" "Part.parse" N_ ym3 202
def Mb (P:Params):Obj:=ye [E_ P "__module__" 491 ym3,E_ P "__firstlineno__" 495 (I_ 77 494),E_ P "parse" 503 (R_ 203),E_ P "__static_attributes__" 504 (R_ 204),E_ P "__dict__" 506 (R_ 207),E_ P "__weakref__" 508 (R_ 208),E_ P "__doc__" 509 N_] 4
def Ma (P:Params):Obj:=yc "Part" [(T_ "object")] [(R_ 206),(T_ "object")] 205 [(R_ 586)] none 484 492 "object.__new__"
def C5:=yd 505 206
def C4:=yq 507 206
def C3:=yr 206
def C2:=yb "object.__init_subclass__" (R_ 206)
def C1 (P:Params):Obj:=ye [E_ P "__module__" 519 ym3,E_ P "__qualname__" 521 (S_ "Mark" 520),E_ P "__firstlineno__" 523 (I_ 81 522),E_ P "__init__" 531 (R_ 224),E_ P "put_back" 541 (R_ 231),E_ P "__static_attributes__" 556 (R_ 232)] 6
def C0:=yv [83,4,223,99,4,230]
def BZ:=yj "Mark" "Mark" 514 81 0 0 214 false 215 N_ N_ N_ 517
def BY:=yh 216 213 ym3
def BX:=ys 527 ["self","p"]
def BW:=yg (M_ 32 0) "__init__" "Mark.__init__"
def BV:=yk 218 "__init__" "Mark.__init__" 524 83 2 529
def M9 (P:Params):Obj:=yf (M_ 32 0) "__init__" "Mark.__init__" N_ ym3 223
def BU:=ys 535 ["self","p","place","token"]
def BS:=yg (M_ 32 1) "put_back" "Mark.put_back"
def BR:=yk 225 "put_back" "Mark.put_back" 532 99 2 539
def M8 (P:Params):Obj:=yf (M_ 32 1) "put_back" "Mark.put_back" N_ ym3 230
def BQ:=ys 542 ["allow_in","at","covers","deep","in_func","in_literal","in_loop","in_switch","labels","no_cond","pending","ret_bar","splits","told"]
def M7 (P:Params):Obj:=ye [E_ P "__module__" 519 ym3,E_ P "__firstlineno__" 523 (I_ 81 522),E_ P "__init__" 531 (R_ 224),E_ P "put_back" 541 (R_ 231),E_ P "__static_attributes__" 556 (R_ 232),E_ P "__dict__" 558 (R_ 235),E_ P "__weakref__" 560 (R_ 236),E_ P "__doc__" 561 N_] 4
def M6 (P:Params):Obj:=yc "Mark" [(T_ "object")] [(R_ 234),(T_ "object")] 233 [] none 512 520 "object.__new__"
def BP:=yd 557 234
def BO:=yq 559 234
def BN:=yr 234
def BM:=yb "object.__init_subclass__" (R_ 234)
def BL:=ys 567 ["rows","count"]
def BK:=yg (D_ 33) "cut_rows" "cut_rows"
def BJ:=yk 239 "cut_rows" "cut_rows" 564 116 2 569
def BI:=yf (D_ 33) "cut_rows" "cut_rows" N_ ym3 244
def BH (P:Params):Obj:=ye [E_ P "__module__" 579 ym3,E_ P "__qualname__" 581 (S_ "Parser" 580),E_ P "__firstlineno__" 583 (I_ 119 582),E_ P "__init__" 592 (R_ 259),E_ P "now" 599 (R_ 266),E_ P "ahead" 608 (R_ 273),E_ P "step" 616 (R_ 280),E_ P "is_sign" 624 (R_ 287),E_ P "is_word" 632 (R_ 294),E_ P "is_name" 640 (R_ 301),E_ P "eat_sign" 648 (R_ 308),E_ P "eat_word" 656 (R_ 315),E_ P "eat_name" 664 (R_ 322),E_ P "need_sign" 672 (R_ 329),E_ P "need_word" 680 (R_ 336),E_ P "need_name" 687 (R_ 343),E_ P "prop_name" 694 (R_ 350),E_ P "member_name" 701 (R_ 357),E_ P "fault" 710 (R_ 364),E_ P "fault_at" 720 (R_ 371),E_ P "can_end" 727 (R_ 378),E_ P "end_statement" 734 (R_ 385),E_ P "down" 741 (R_ 392),E_ P "up" 748 (R_ 399),E_ P "part" 757 (R_ 406),E_ P "mark" 764 (R_ 413),E_ P "back" 772 (R_ 420),E_ P "keep" 780 (R_ 427),E_ P "__static_attributes__" 803 (R_ 428)] 29
def BG:=yv [121,4,258,145,4,265,148,4,272,154,4,279,160,4,286,163,4,293,166,4,300,169,4,307,172,4,314,175,4,321,178,4,328,182,4,335,185,4,342,190,4,349,193,4,356,196,4,363,199,4,370,203,4,377,206,4,384,209,4,391,215,4,398,218,4,405,231,4,412,235,4,419,238,4,426]
def BF:=yj "Parser" "Parser" 574 119 0 0 249 false 250 N_ N_ N_ 577
def BE:=yh 251 248 ym3
def BD:=ys 587 ["self","tokens","diags"]
def BC:=yg (M_ 34 0) "__init__" "Parser.__init__"
def BB:=yk 253 "__init__" "Parser.__init__" 584 121 3 590
def M5 (P:Params):Obj:=yf (M_ 34 0) "__init__" "Parser.__init__" N_ ym3 258
def BA:=ys 596 ["self"]
def Bz:=yg (M_ 34 1) "now" "Parser.now"
def By:=yk 260 "now" "Parser.now" 593 145 1 597
def M4 (P:Params):Obj:=yf (M_ 34 1) "now" "Parser.now" N_ ym3 265
def Bx:=ys 603 ["self","n","place"]
def Bw:=yg (M_ 34 2) "ahead" "Parser.ahead"
def Bv:=yk 267 "ahead" "Parser.ahead" 600 148 2 606
def M3 (P:Params):Obj:=yf (M_ 34 2) "ahead" "Parser.ahead" N_ ym3 272
def Bu:=ys 612 ["self","token"]
def Bt:=yg (M_ 34 3) "step" "Parser.step"
def Bs:=yk 274 "step" "Parser.step" 609 154 1 614
def M1 (P:Params):Obj:=yf (M_ 34 3) "step" "Parser.step" N_ ym3 279
def Br:=ys 620 ["self","text"]
def Bq:=yg (M_ 34 4) "is_sign" "Parser.is_sign"
def Bp:=yk 281 "is_sign" "Parser.is_sign" 617 160 2 622
def M0 (P:Params):Obj:=yf (M_ 34 4) "is_sign" "Parser.is_sign" N_ ym3 286
def Bo:=ys 628 ["self","text"]
def Bn:=yg (M_ 34 5) "is_word" "Parser.is_word"
def Bm:=yk 288 "is_word" "Parser.is_word" 625 163 2 630
def NZ (P:Params):Obj:=yf (M_ 34 5) "is_word" "Parser.is_word" N_ ym3 293
def Bl:=ys 636 ["self","text"]
def Bj:=yg (M_ 34 6) "is_name" "Parser.is_name"
def Bi:=yk 295 "is_name" "Parser.is_name" 633 166 2 638
def NY (P:Params):Obj:=yf (M_ 34 6) "is_name" "Parser.is_name" N_ ym3 300
def Bh:=ys 644 ["self","text"]
def Bg:=yg (M_ 34 7) "eat_sign" "Parser.eat_sign"
def Bf:=yk 302 "eat_sign" "Parser.eat_sign" 641 169 2 646
def NX (P:Params):Obj:=yf (M_ 34 7) "eat_sign" "Parser.eat_sign" N_ ym3 307
def Be:=ys 652 ["self","text"]
def Bd:=yg (M_ 34 8) "eat_word" "Parser.eat_word"
def Bc:=yk 309 "eat_word" "Parser.eat_word" 649 172 2 654
def NW (P:Params):Obj:=yf (M_ 34 8) "eat_word" "Parser.eat_word" N_ ym3 314
def Bb:=ys 660 ["self","text"]
def Ba:=yg (M_ 34 9) "eat_name" "Parser.eat_name"
def B9:=yk 316 "eat_name" "Parser.eat_name" 657 175 2 662
def NV (P:Params):Obj:=yf (M_ 34 9) "eat_name" "Parser.eat_name" N_ ym3 321
def B8:=ys 668 ["self","text"]
def B7:=yg (M_ 34 10) "need_sign" "Parser.need_sign"
def B6:=yk 323 "need_sign" "Parser.need_sign" 665 178 2 670
def NU (P:Params):Obj:=yf (M_ 34 10) "need_sign" "Parser.need_sign" N_ ym3 328
def B5:=ys 676 ["self","text"]
def B4:=yg (M_ 34 11) "need_word" "Parser.need_word"
def B0:=yk 330 "need_word" "Parser.need_word" 673 182 2 678
def NT (P:Params):Obj:=yf (M_ 34 11) "need_word" "Parser.need_word" N_ ym3 335
def AZ:=ys 684 ["self"]
def AY:=yg (M_ 34 12) "need_name" "Parser.need_name"
def AX:=yk 337 "need_name" "Parser.need_name" 681 185 1 685
def NS (P:Params):Obj:=yf (M_ 34 12) "need_name" "Parser.need_name" N_ ym3 342
def AW:=ys 691 ["self"]
def AV:=yg (M_ 34 13) "prop_name" "Parser.prop_name"
def AU:=yk 344 "prop_name" "Parser.prop_name" 688 190 1 692
def NR (P:Params):Obj:=yf (M_ 34 13) "prop_name" "Parser.prop_name" N_ ym3 349
def AS:=ys 698 ["self"]
def AR:=yg (M_ 34 14) "member_name" "Parser.member_name"
def AQ:=yk 351 "member_name" "Parser.member_name" 695 193 1 699
def NQ (P:Params):Obj:=yf (M_ 34 14) "member_name" "Parser.member_name" N_ ym3 356
def AP:=ys 705 ["self","number","args"]
def AO:=yg (M_ 34 15) "fault" "Parser.fault"
def AN:=yk 358 "fault" "Parser.fault" 702 196 3 708
def NP (P:Params):Obj:=yf (M_ 34 15) "fault" "Parser.fault" N_ ym3 363
def AM:=ys 714 ["self","number","at","args"]
def AL:=yg (M_ 34 16) "fault_at" "Parser.fault_at"
def AH:=yk 365 "fault_at" "Parser.fault_at" 711 199 4 718
def NO (P:Params):Obj:=yf (M_ 34 16) "fault_at" "Parser.fault_at" N_ ym3 370
def AF:=ys 724 ["self"]
def AE:=yg (M_ 34 17) "can_end" "Parser.can_end"
def AD:=yk 372 "can_end" "Parser.can_end" 721 203 1 725
def NN (P:Params):Obj:=yf (M_ 34 17) "can_end" "Parser.can_end" N_ ym3 377
def AB:=ys 731 ["self"]
def AA:=yg (M_ 34 18) "end_statement" "Parser.end_statement"
def Az:=yk 379 "end_statement" "Parser.end_statement" 728 206 1 732
def NM (P:Params):Obj:=yf (M_ 34 18) "end_statement" "Parser.end_statement" N_ ym3 384
def Ay:=ys 738 ["self"]
def Ax:=yg (M_ 34 19) "down" "Parser.down"
def Aw:=yk 386 "down" "Parser.down" 735 209 1 739
def NL (P:Params):Obj:=yf (M_ 34 19) "down" "Parser.down" N_ ym3 391
def Av:=ys 745 ["self"]
def Au:=yg (M_ 34 20) "up" "Parser.up"
def As:=yk 393 "up" "Parser.up" 742 215 1 746
def NK (P:Params):Obj:=yf (M_ 34 20) "up" "Parser.up" N_ ym3 398
def Ar:=ys 752 ["self","n","node"]
def Aq:=yg (M_ 34 21) "part" "Parser.part"
def Ap:=yk 400 "part" "Parser.part" 749 218 2 755
def NJ (P:Params):Obj:=yf (M_ 34 21) "part" "Parser.part" N_ ym3 405
def Ao:=ys 761 ["self"]
def An:=yg (M_ 34 22) "mark" "Parser.mark"
def Am:=yk 407 "mark" "Parser.mark" 758 231 1 762
def NH (P:Params):Obj:=yf (M_ 34 22) "mark" "Parser.mark" N_ ym3 412
def Al:=ys 768 ["self","number"]
def Ak:=yg (M_ 34 23) "back" "Parser.back"
def Aj:=yk 414 "back" "Parser.back" 765 235 2 770
def NG (P:Params):Obj:=yf (M_ 34 23) "back" "Parser.back" N_ ym3 419
def Ai:=ys 776 ["self","number"]
def Ah:=yg (M_ 34 24) "keep" "Parser.keep"
def Ag:=yk 421 "keep" "Parser.keep" 773 238 2 778
def NF (P:Params):Obj:=yf (M_ 34 24) "keep" "Parser.keep" N_ ym3 426
def Af:=ys 781 ["allow_in","at","commas","covers","deep","diags","firsts","in_func","in_literal","in_loop","in_switch","labels","no_cond","not_arrow","parts","pending","ret_bar","saved","splits","tails","tokens","types"]
def ND (P:Params):Obj:=ye [E_ P "__module__" 579 ym3,E_ P "__firstlineno__" 583 (I_ 119 582),E_ P "__init__" 592 (R_ 259),E_ P "now" 599 (R_ 266),E_ P "ahead" 608 (R_ 273),E_ P "step" 616 (R_ 280),E_ P "is_sign" 624 (R_ 287),E_ P "is_word" 632 (R_ 294),E_ P "is_name" 640 (R_ 301),E_ P "eat_sign" 648 (R_ 308),E_ P "eat_word" 656 (R_ 315),E_ P "eat_name" 664 (R_ 322),E_ P "need_sign" 672 (R_ 329),E_ P "need_word" 680 (R_ 336),E_ P "need_name" 687 (R_ 343),E_ P "prop_name" 694 (R_ 350),E_ P "member_name" 701 (R_ 357),E_ P "fault" 710 (R_ 364),E_ P "fault_at" 720 (R_ 371),E_ P "can_end" 727 (R_ 378),E_ P "end_statement" 734 (R_ 385),E_ P "down" 741 (R_ 392),E_ P "up" 748 (R_ 399),E_ P "part" 757 (R_ 406),E_ P "mark" 764 (R_ 413),E_ P "back" 772 (R_ 420),E_ P "keep" 780 (R_ 427),E_ P "__static_attributes__" 803 (R_ 428),E_ P "__dict__" 805 (R_ 431),E_ P "__weakref__" 807 (R_ 432),E_ P "__doc__" 808 N_] 4
def NA (P:Params):Obj:=yc "Parser" [(T_ "object")] [(R_ 430),(T_ "object")] 429 [] none 572 580 "object.__new__"
def Ae:=yd 804 430
def Ad:=yq 806 430
def Ac:=yr 430
def Ab:=yb "object.__init_subclass__" (R_ 430)
def Aa:=ys 814 ["p","number","mark"]
def A9:=yg (D_ 35) "take_mark" "take_mark"
def A8:=yk 435 "take_mark" "take_mark" 811 240 2 817
def TZ:=yf (D_ 35) "take_mark" "take_mark" N_ ym3 440
def TY:=ys 823 ["p","part","allow_in","no_cond","ret_bar","in_literal","covers","node"]
def TX:=yg (D_ 36) "read_apart" "read_apart"
def TV:=yk 442 "read_apart" "read_apart" 820 246 2 831
def TU:=yf (D_ 36) "read_apart" "read_apart" N_ ym3 447
def TT:=ys 837 ["token","kind","text"]
def TS:=yg (D_ 37) "is_token" "is_token"
def TR:=yk 449 "is_token" "is_token" 834 264 3 840
def TQ:=yf (D_ 37) "is_token" "is_token" N_ ym3 454
def TP:=ys 846 ["p","count"]
def TO:=yg (D_ 38) "check_chain" "check_chain"
def TN:=yk 456 "check_chain" "check_chain" 843 266 2 848
def TM:=yf (D_ 38) "check_chain" "check_chain" N_ ym3 461
def TL:=ys 854 ["p","root","stack","node","level","kid"]
def TK:=yg (D_ 39) "check_height" "check_height"
def TJ:=yk 463 "check_height" "check_height" 851 270 2 860
def TH:=yf (D_ 39) "check_height" "check_height" N_ ym3 468
def TG:=ys 866 ["p","kind","text"]
def TF:=yg (D_ 40) "eat_token" "eat_token"
def TE:=yk 470 "eat_token" "eat_token" 863 281 3 869
def TD:=yf (D_ 40) "eat_token" "eat_token" N_ ym3 475
def TC:=ys 875 ["p"]
def TB:=yg (D_ 41) "read_member_name" "read_member_name"
def TA:=yk 477 "read_member_name" "read_member_name" 872 286 1 876
def Tz:=yf (D_ 41) "read_member_name" "read_member_name" N_ ym3 482
def Tv:=ys 882 ["token"]
def Tu:=yg (D_ 42) "token_key" "token_key"
def Tt:=yk 484 "token_key" "token_key" 879 290 1 883
def Ts:=yf (D_ 42) "token_key" "token_key" N_ ym3 489
def Tr:=ys 889 ["p","token","behind","joined"]
def Tq:=yg (D_ 43) "need_angle" "need_angle"
def Tp:=yk 491 "need_angle" "need_angle" 886 302 1 893
def To:=yf (D_ 43) "need_angle" "need_angle" N_ ym3 496
def Tn (P:Params):Obj:=ye [E_ P "__module__" 927 ym4,E_ P "__qualname__" 929 (S_ "Node" 928),E_ P "__firstlineno__" 931 (I_ 329 930),E_ P "__init__" 943 (R_ 511),E_ P "__static_attributes__" 950 (R_ 512)] 5
def Tl:=yv [331,4,510]
def Tj:=yj "Node" "Node" 922 329 0 0 501 false 502 N_ N_ N_ 925
def Ti:=yh 503 500 ym4
def Th:=ys 935 ["self","kind","a","kids","flags","at"]
def Tg:=yg (M_ 56 0) "__init__" "Node.__init__"
def Tf:=yk 505 "__init__" "Node.__init__" 932 331 6 941
def Nz (P:Params):Obj:=yf (M_ 56 0) "__init__" "Node.__init__" N_ ym4 510
def Td:=ys 944 ["a","at","flags","kids","kind","nid"]
def Ny (P:Params):Obj:=ye [E_ P "__module__" 927 ym4,E_ P "__firstlineno__" 931 (I_ 329 930),E_ P "__init__" 943 (R_ 511),E_ P "__static_attributes__" 950 (R_ 512),E_ P "__dict__" 952 (R_ 515),E_ P "__weakref__" 954 (R_ 516),E_ P "__doc__" 955 N_] 4
def Nx (P:Params):Obj:=yc "Node" [(T_ "object")] [(R_ 514),(T_ "object")] 513 [] none 920 928 "object.__new__"
def Tc:=yd 951 514
def Ta:=yq 953 514
def T9:=yr 514
def T8:=yb "object.__init_subclass__" (R_ 514)
def T7:=ys 961 ["kind","a","at"]
def T6:=yg (D_ 57) "leaf" "leaf"
def T5:=yk 519 "leaf" "leaf" 958 338 3 964
def T4:=yf (D_ 57) "leaf" "leaf" N_ ym4 524
def T3:=ys 970 ["kind","a","kids","at"]
def T1:=yg (D_ 58) "twig" "twig"
def T0:=yk 526 "twig" "twig" 967 340 4 974
def RZ:=yf (D_ 58) "twig" "twig" N_ ym4 531
def RY:=ys 980 ["kind","a","kids","flags","at"]
def RW:=yg (D_ 59) "flagged" "flagged"
def RU:=yk 533 "flagged" "flagged" 977 342 5 985
def RT:=yf (D_ 59) "flagged" "flagged" N_ ym4 538
def RS:=ys 991 ["nodes","at"]
def RR:=yg (D_ 60) "list_of" "list_of"
def RP:=yk 540 "list_of" "list_of" 988 344 2 993
def RO:=yf (D_ 60) "list_of" "list_of" N_ ym4 545
def RN:=ys 998 ["any","unknown","never","undefined","string","number","boolean","object"]
def RM:=ys 1007 ["keyof","readonly","infer"]
def RL (P:Params):Obj:=ye [E_ P "__module__" 1018 ym5,E_ P "__qualname__" 1020 (S_ "KindRule" 1019),E_ P "__firstlineno__" 1022 (I_ 349 1021),E_ P "take" 1031 (R_ 562),E_ P "__static_attributes__" 1032 (R_ 563)] 5
def RK:=yv [351,4,561]
def RJ:=yj "KindRule" "KindRule" 1013 349 0 0 552 false 553 N_ N_ N_ 1016
def RH:=yh 554 551 ym5
def RG:=ys 1026 ["self","p","left"]
def RF:=yg (M_ 64 0) "take" "KindRule.take"
def RE:=yk 556 "take" "KindRule.take" 1023 351 3 1029
def Nw (P:Params):Obj:=yf (M_ 64 0) "take" "KindRule.take" N_ ym5 561
def Nv (P:Params):Obj:=ye [E_ P "__module__" 1018 ym5,E_ P "__firstlineno__" 1022 (I_ 349 1021),E_ P "take" 1031 (R_ 562),E_ P "__static_attributes__" 1032 (R_ 563),E_ P "__dict__" 1034 (R_ 566),E_ P "__weakref__" 1036 (R_ 567),E_ P "__doc__" 1037 N_] 4
def Nu (P:Params):Obj:=yc "KindRule" [(T_ "object")] [(R_ 565),(T_ "object")] 564 [(R_ 661)] none 1011 1019 "object.__new__"
def RD:=yd 1033 565
def RB:=yq 1035 565
def RA:=yr 565
def Rz:=yb "object.__init_subclass__" (R_ 565)
def Ry:=yt [R_ 206]
def Rx (P:Params):Obj:=ye [E_ P "__module__" 1047 ym5,E_ P "__qualname__" 1049 (S_ "TypePart" 1048),E_ P "__firstlineno__" 1051 (I_ 353 1050),E_ P "parse" 1059 (R_ 583),E_ P "__static_attributes__" 1060 (R_ 584)] 5
def Rw:=yv [355,4,582]
def Rv:=yj "TypePart" "TypePart" 1042 353 0 0 573 false 574 N_ N_ N_ 1045
def Ru:=yh 575 572 ym5
def Rt:=ys 1055 ["self","p"]
def Rr:=yg (M_ 65 0) "parse" "TypePart.parse"
def Rq:=yk 577 "parse" "TypePart.parse" 1052 355 2 1057
def Nt (P:Params):Obj:=yf (M_ 65 0) "parse" "TypePart.parse" N_ ym5 582
def Nr (P:Params):Obj:=ye [E_ P "__module__" 1047 ym5,E_ P "__firstlineno__" 1051 (I_ 353 1050),E_ P "parse" 1059 (R_ 583),E_ P "__static_attributes__" 1060 (R_ 584),E_ P "__doc__" 1061 N_] 2
def Nq (P:Params):Obj:=yc "TypePart" [(R_ 206)] [(R_ 586),(R_ 206),(T_ "object")] 585 [] (some (R_ 570)) 1040 1048 "object.__new__"
def Ro:=yr 586
def Rn:=yb "object.__init_subclass__" (R_ 586)
def Rm:=ys 1067 ["p","node"]
def Rl:=yg (D_ 66) "ptypes_read_kind" "ptypes_read_kind"
def Rk:=yk 589 "ptypes_read_kind" "ptypes_read_kind" 1064 357 1 1069
def Rj:=yf (D_ 66) "ptypes_read_kind" "ptypes_read_kind" N_ ym5 594
def Ri:=ys 1075 ["p"]
def Rh:=yg (D_ 67) "read_branch" "read_branch"
def Rg:=yk 596 "read_branch" "read_branch" 1072 362 1 1076
def Rf:=yf (D_ 67) "read_branch" "read_branch" N_ ym5 601
def Rb:=ys 1082 ["p","check"]
def Ra:=yg (D_ 68) "extends_here" "extends_here"
def R9:=yk 603 "extends_here" "extends_here" 1079 366 2 1084
def R8:=yf (D_ 68) "extends_here" "extends_here" N_ ym5 608
def R7:=ys 1090 ["p","no_cond","saved","node"]
def R6:=yg (D_ 69) "kind_with" "kind_with"
def R5:=yk 610 "kind_with" "kind_with" 1087 370 2 1094
def R4:=yf (D_ 69) "kind_with" "kind_with" N_ ym5 615
def R3:=ys 1100 ["p","node","parts"]
def R2:=yg (D_ 70) "read_union" "read_union"
def R1:=yk 617 "read_union" "read_union" 1097 376 1 1103
def R0:=yf (D_ 70) "read_union" "read_union" N_ ym5 622
def DZ:=ys 1109 ["p","node","parts"]
def DY:=yg (D_ 71) "read_inter" "read_inter"
def DX:=yk 624 "read_inter" "read_inter" 1106 385 1 1112
def DW:=yf (D_ 71) "read_inter" "read_inter" N_ ym5 629
def DV:=ys 1118 ["p","token"]
def DU:=yg (D_ 72) "read_operator" "read_operator"
def DT:=yk 631 "read_operator" "read_operator" 1115 394 1 1120
def DS:=yf (D_ 72) "read_operator" "read_operator" N_ ym5 636
def DR:=ys 1126 ["p","saved","key","node","links","index"]
def DQ:=yg (D_ 73) "read_hanging" "read_hanging"
def DP:=yk 638 "read_hanging" "read_hanging" 1123 399 1 1132
def DM:=yf (D_ 73) "read_hanging" "read_hanging" N_ ym5 643
def DL:=yt [R_ 565]
def DK (P:Params):Obj:=ye [E_ P "__module__" 1142 ym5,E_ P "__qualname__" 1144 (S_ "NameKindRule" 1143),E_ P "__firstlineno__" 1146 (I_ 419 1145),E_ P "take" 1158 (R_ 658),E_ P "__static_attributes__" 1159 (R_ 659)] 5
def DJ:=yv [421,4,657]
def DI:=yj "NameKindRule" "NameKindRule" 1137 419 0 0 648 false 649 N_ N_ N_ 1140
def DH:=yh 650 647 ym5
def DG:=ys 1150 ["self","p","left","token","name","args"]
def DF:=yg (M_ 74 0) "take" "NameKindRule.take"
def DE:=yk 652 "take" "NameKindRule.take" 1147 421 3 1156
def Np (P:Params):Obj:=yf (M_ 74 0) "take" "NameKindRule.take" N_ ym5 657
def Nn (P:Params):Obj:=ye [E_ P "__module__" 1142 ym5,E_ P "__firstlineno__" 1146 (I_ 419 1145),E_ P "take" 1158 (R_ 658),E_ P "__static_attributes__" 1159 (R_ 659),E_ P "__doc__" 1160 N_] 2
def Nm (P:Params):Obj:=yc "NameKindRule" [(R_ 565)] [(R_ 661),(R_ 565),(T_ "object")] 660 [] (some (R_ 645)) 1135 1143 "object.__new__"
def DD:=yr 661
def DC:=yb "object.__init_subclass__" (R_ 661)
def DB:=ys 1166 ["p","behind"]
def DA:=yg (D_ 75) "refuse_odd_kind" "refuse_odd_kind"
def Dz:=yk 664 "refuse_odd_kind" "refuse_odd_kind" 1163 432 1 1168
def Dy:=yf (D_ 75) "refuse_odd_kind" "refuse_odd_kind" N_ ym5 669
def Dx:=ys 1174 ["p","at","name","links"]
def Dw:=yg (D_ 76) "read_dotted" "read_dotted"
def Dv:=yk 671 "read_dotted" "read_dotted" 1171 440 1 1178
def Du:=yf (D_ 76) "read_dotted" "read_dotted" N_ ym5 676
def Dt:=ys 1184 ["p","args"]
def Ds:=yg (D_ 77) "read_type_args" "read_type_args"
def Dr:=yk 678 "read_type_args" "read_type_args" 1181 450 1 1186
def Dq:=yf (D_ 77) "read_type_args" "read_type_args" N_ ym5 683
def Dp:=ys 1192 ["p","head"]
def Dn:=yg (D_ 78) "starts_func_kind" "starts_func_kind"
def Dm:=yk 685 "starts_func_kind" "starts_func_kind" 1189 457 1 1194
def Dl:=yf (D_ 78) "starts_func_kind" "starts_func_kind" N_ ym5 690
def Dk:=ys 1200 ["p","n","token"]
def Dj:=yg (D_ 79) "follows_param" "follows_param"
def Di:=yk 692 "follows_param" "follows_param" 1197 470 2 1203
def Dh:=yf (D_ 79) "follows_param" "follows_param" N_ ym5 697
def Df:=ys 1209 ["p","spot","found"]
def De:=yg (D_ 80) "pattern_ahead" "pattern_ahead"
def Dd:=yk 699 "pattern_ahead" "pattern_ahead" 1206 477 1 1212
def Dc:=yf (D_ 80) "pattern_ahead" "pattern_ahead" N_ ym5 704
def Da (P:Params):Obj:=ye [E_ P "__module__" 1224 ym6,E_ P "__qualname__" 1226 (S_ "TailRule" 1225),E_ P "__firstlineno__" 1228 (I_ 490 1227),E_ P "take" 1238 (R_ 719),E_ P "__static_attributes__" 1239 (R_ 720)] 5
def D9:=yv [492,4,718]
def D8:=yj "TailRule" "TailRule" 1219 490 0 0 709 false 710 N_ N_ N_ 1222
def D7:=yh 711 708 ym6
def D6:=ys 1232 ["self","p","left","flags"]
def D5:=yg (M_ 82 0) "take" "TailRule.take"
def D4:=yk 713 "take" "TailRule.take" 1229 492 4 1236
def Nl (P:Params):Obj:=yf (M_ 82 0) "take" "TailRule.take" N_ ym6 718
def Nk (P:Params):Obj:=ye [E_ P "__module__" 1224 ym6,E_ P "__firstlineno__" 1228 (I_ 490 1227),E_ P "take" 1238 (R_ 719),E_ P "__static_attributes__" 1239 (R_ 720),E_ P "__dict__" 1241 (R_ 723),E_ P "__weakref__" 1243 (R_ 724),E_ P "__doc__" 1244 N_] 4
def Nj (P:Params):Obj:=yc "TailRule" [(T_ "object")] [(R_ 722),(T_ "object")] 721 [(R_ 764)] none 1217 1225 "object.__new__"
def D3:=yd 1240 722
def LZ:=yq 1242 722
def LY:=yr 722
def LW:=yb "object.__init_subclass__" (R_ 722)
def LV:=ys 1250 ["token"]
def LR:=yg (D_ 83) "is_template" "is_template"
def LP:=yk 727 "is_template" "is_template" 1247 494 1 1251
def LO:=yf (D_ 83) "is_template" "is_template" N_ ym6 732
def LN:=ys 1257 ["p","at","allow_in","rows"]
def LK:=yg (D_ 84) "read_args" "read_args"
def LJ:=yk 734 "read_args" "read_args" 1254 496 1 1261
def LH:=yf (D_ 84) "read_args" "read_args" N_ ym6 739
def LG:=ys 1267 ["p","at"]
def LD:=yg (D_ 85) "read_item" "read_item"
def LC:=yk 741 "read_item" "read_item" 1264 509 1 1269
def LA:=yf (D_ 85) "read_item" "read_item" N_ ym6 746
def Lz:=yt [R_ 722]
def Ly (P:Params):Obj:=ye [E_ P "__module__" 1279 ym6,E_ P "__qualname__" 1281 (S_ "KindArgsTail" 1280),E_ P "__firstlineno__" 1283 (I_ 514 1282),E_ P "take" 1295 (R_ 761),E_ P "__static_attributes__" 1296 (R_ 762)] 5
def Lx:=yv [516,4,760]
def Lw:=yj "KindArgsTail" "KindArgsTail" 1274 514 0 0 751 false 752 N_ N_ N_ 1277
def Lv:=yh 753 750 ym6
def Lu:=ys 1287 ["self","p","left","flags","targs","args"]
def Ls:=yg (M_ 86 0) "take" "KindArgsTail.take"
def Lr:=yk 755 "take" "KindArgsTail.take" 1284 516 4 1293
def Ni (P:Params):Obj:=yf (M_ 86 0) "take" "KindArgsTail.take" N_ ym6 760
def Nh (P:Params):Obj:=ye [E_ P "__module__" 1279 ym6,E_ P "__firstlineno__" 1283 (I_ 514 1282),E_ P "take" 1295 (R_ 761),E_ P "__static_attributes__" 1296 (R_ 762),E_ P "__doc__" 1297 N_] 2
def Ng (P:Params):Obj:=yc "KindArgsTail" [(R_ 722)] [(R_ 764),(R_ 722),(T_ "object")] 763 [] (some (R_ 748)) 1272 1280 "object.__new__"
def Lp:=yr 764
def Lo:=yb "object.__init_subclass__" (R_ 764)
def Ln:=ys 1303 ["p","at","spot","rows","tagged","fine"]
def Lm:=yg (D_ 87) "try_type_args" "try_type_args"
def Ll:=yk 767 "try_type_args" "try_type_args" 1300 522 1 1309
def Lk:=yf (D_ 87) "try_type_args" "try_type_args" N_ ym6 772
def Lj:=yt [I_ 0 1314,I_ 0 1315,I_ 1 1316,I_ 0 1317,I_ 0 1318,I_ 1 1319,I_ 0 1320,I_ 0 1321,I_ 0 1322,I_ 0 1323,I_ 0 1324,I_ 0 1325,I_ 0 1326,I_ 2 1327,I_ 0 1328,I_ 5 1329,I_ 0 1330,I_ 0 1331,I_ 0 1332,I_ 0 1333,I_ 0 1334,I_ 10 1335,I_ 0 1336,I_ 1 1337,I_ 2 1338,I_ 0 1339,I_ 0 1340,I_ 7 1341,I_ 0 1342,I_ 0 1343,I_ 1 1344,I_ 0 1345,I_ 3 1346,I_ 0 1347,I_ 1 1348,I_ 0 1349,I_ 0 1350,I_ 1 1351,I_ 5 1352,I_ 1 1353,I_ 0 1354,I_ 4 1355,I_ 2 1356,I_ 1 1357,I_ 0 1358,I_ 1 1359,I_ 10 1360,I_ 3 1361,I_ 0 1362,I_ 8 1363,I_ 0 1364,I_ 1 1365,I_ 7 1366,I_ 0 1367,I_ 1 1368,I_ 11 1369,I_ 0 1370,I_ 0 1371,I_ 3 1372,I_ 1 1373,I_ 1 1374,I_ 2 1375,I_ 0 1376,I_ 1 1377]
def Li:=ys 1382 ["pile","n","at"]
def Lh:=yg (D_ 90) "_law_take" "_law_take"
def Lg:=yk 775 "_law_take" "_law_take" 1379 548 2 1385
def Lf:=yf (D_ 90) "_law_take" "_law_take" N_ ym7 780
def Le:=ys 1391 ["pile","out","group"]
def Ld:=yg (D_ 91) "_law_signs" "_law_signs"
def L9:=yk 782 "_law_signs" "_law_signs" 1388 552 1 1394
def L8:=yf (D_ 91) "_law_signs" "_law_signs" N_ ym7 787
def L7:=ys 1400 ["pile","out","last","sign","gap","both"]
def L6:=yg (D_ 92) "_law_text" "_law_text"
def L5:=yk 789 "_law_text" "_law_text" 1397 560 1 1406
def L4:=yf (D_ 92) "_law_text" "_law_text" N_ ym7 794
def L0:=ys 1412 ["src","c","at","text","sign"]
def IZ:=yg (D_ 93) "_law_sign" "_law_sign"
def IY:=yk 796 "_law_sign" "_law_sign" 1409 573 2 1417
def IX:=yf (D_ 93) "_law_sign" "_law_sign" N_ ym7 801
def IW:=ys 1423 ["src","cuts","out","c","text","at","line","rest","sort"]
def IV:=yg (D_ 94) "_law_rows" "_law_rows"
def IU:=yk 803 "_law_rows" "_law_rows" 1420 583 2 1432
def IT:=yf (D_ 94) "_law_rows" "_law_rows" N_ ym7 808
def IS:=yg (D_ 95) "_law_seen" "_law_seen"
def IQ:=yj "_law_seen" "_law_seen" 1435 599 1 3 810 true 811 N_ N_ (R_ 812) 1438
def IP:=yf (D_ 95) "_law_seen" "_law_seen" N_ ym7 813
def IM:=ys 1444 ["src","c","named","sign","many","cuts","said","wants","text","at","end","line","beyond"]
def IL:=yg (D_ 96) "_law_angles" "_law_angles"
def IK:=yk 815 "_law_angles" "_law_angles" 1441 601 3 1457
def IJ:=yf (D_ 96) "_law_angles" "_law_angles" N_ ym7 820
def II:=yg (D_ 97) "_law_call" "_law_call"
def IH:=yj "_law_call" "_law_call" 1460 630 3 3 822 true 823 N_ N_ (R_ 824) 1463
def IG:=yf (D_ 97) "_law_call" "_law_call" N_ ym7 825
def IF:=ys 1469 ["nodes","level","out","node"]
def IE:=yg (D_ 98) "_law_names" "_law_names"
def ID:=yk 827 "_law_names" "_law_names" 1466 660 2 1473
def IB:=yf (D_ 98) "_law_names" "_law_names" N_ ym7 832
def Iz:=ys 1479 ["handed","base","place","named","p","s"]
def Iy:=yg (D_ 99) "_law_reader" "_law_reader"
def Iw:=yk 834 "_law_reader" "_law_reader" 1476 665 4 1485
def Iv:=yf (D_ 99) "_law_reader" "_law_reader" N_ ym7 839
def Iu:=yg (D_ 100) "_law_true" "_law_true"
def Ir:=yj "_law_true" "_law_true" 1488 678 2 3 841 true 842 N_ N_ (R_ 843) 1491
def Iq:=yf (D_ 100) "_law_true" "_law_true" N_ ym7 844
def Ip:=ys 1497 ["src","w","got","s","at"]
def Io:=yg (D_ 101) "_law_move" "_law_move"
def Im:=yk 846 "_law_move" "_law_move" 1494 692 3 1502
def Il:=yf (D_ 101) "_law_move" "_law_move" N_ ym7 851
def Ik:=ys 1508 ["src","w","letter","s","sign"]
def Ij:=yg (D_ 102) "_law_go" "_law_go"
def Ii:=yk 853 "_law_go" "_law_go" 1505 703 3 1513
def Ih:=yf (D_ 102) "_law_go" "_law_go" N_ ym7 858
def Ig:=ys 1519 ["src","w","got","said"]
def Ie:=yg (D_ 103) "_law_kinds" "_law_kinds"
def Ic:=yk 860 "_law_kinds" "_law_kinds" 1516 710 2 1523
def Ib:=yf (D_ 103) "_law_kinds" "_law_kinds" N_ ym7 865
def Ia:=ys 1529 ["src","w","c","got","node","said","args","kinds"]
def I9:=yg (D_ 104) "_law_tail" "_law_tail"
def I8:=yk 867 "_law_tail" "_law_tail" 1526 719 2 1537
def I7:=yf (D_ 104) "_law_tail" "_law_tail" N_ ym7 872
def OZ:=ys 1543 ["src","w","c","text","at","end","line","fine","said"]
def OY:=yg (D_ 105) "_law_angle" "_law_angle"
def OX:=yk 874 "_law_angle" "_law_angle" 1540 740 2 1552
def OW:=yf (D_ 105) "_law_angle" "_law_angle" N_ ym7 879
def OV:=ys 1558 ["w","number"]
def OU:=yg (D_ 106) "_law_mark" "_law_mark"
def OT:=yk 881 "_law_mark" "_law_mark" 1555 752 1 1560
def OS:=yf (D_ 106) "_law_mark" "_law_mark" N_ ym7 886
def OR:=ys 1566 ["w","number","good","there","known"]
def OQ:=yg (D_ 107) "_law_end" "_law_end"
def OP:=yk 888 "_law_end" "_law_end" 1563 756 3 1571
def OO:=yf (D_ 107) "_law_end" "_law_end" N_ ym7 893
def ON:=ys 1577 ["w","n","p","s"]
def OM:=yg (D_ 108) "_law_lay" "_law_lay"
def OL:=yk 895 "_law_lay" "_law_lay" 1574 770 2 1581
def OK:=yf (D_ 108) "_law_lay" "_law_lay" N_ ym7 900
def OJ:=ys 1587 ["src","w","n","p","at"]
def OI:=yg (D_ 109) "_law_fault" "_law_fault"
def OH:=yk 902 "_law_fault" "_law_fault" 1584 793 3 1592
def OG:=yf (D_ 109) "_law_fault" "_law_fault" N_ ym7 907
def OF:=ys 1598 ["src","w","deed","n"]
def OE:=yg (D_ 110) "_law_do" "_law_do"
def OD:=yk 909 "_law_do" "_law_do" 1595 802 4 1602
def OC:=yf (D_ 110) "_law_do" "_law_do" N_ ym7 914
def OB:=ys 1608 ["src","handed","one","two","w"]
def OA:=yg (D_ 111) "_law_close" "_law_close"
def Oz:=yk 916 "_law_close" "_law_close" 1605 816 4 1613
def Oy:=yf (D_ 111) "_law_close" "_law_close" N_ ym7 921
def Ox:=yg (D_ 112) "law" "law"
def Ow:=yj "law" "law" 1616 834 1 3 923 true 924 N_ N_ (R_ 925) 1619
def Ov:=yf (D_ 112) "law" "law" N_ ym7 926
abbrev L_ (o:Obj):BT:=.node o .nil .nil
def tb (P:Params):BT:=(.node (boot_o_0 P) (.node (boot_o_1 P) (.node (boot_o_3 P) (L_ (boot_o_7 P)) (L_ b11)) (.node (boot_o_5 P) (L_ (boot_o_9 P)) (L_ b13))) (.node (boot_o_2 P) (.node (boot_o_4 P) (L_ (boot_o_8 P)) (L_ b12)) (.node (boot_o_6 P) (L_ (boot_o_10 P)) (L_ b14))))
def tf (P:Params):BT:=(.node (boot_o_0 P) (.node (boot_o_1 P) (.node (o3 P) (.node (boot_o_7 P) (.node b11 (.node b12 (.node o43 (.node CS (.node BD (L_ (Nz P)) (L_ b11)) (.node AA (L_ b12) (L_ b11))) (.node o23 (.node b11 (L_ Rv) (L_ IE)) (.node TV (L_ De) .nil))) (.node o95 (.node (Mj P) (.node (M0 P) (L_ b11) (L_ b11)) (.node b12 (L_ b11) (L_ Ov))) (.node BV (.node b11 (L_ Ra) (L_ b11)) (.node TC (L_ b12) .nil)))) (.node o47 (.node (o79 P) (.node CI (.node Bw (L_ b12) (L_ b12)) (.node (NK P) (L_ b11) (L_ OF))) (.node C5 (.node B0 (L_ Rm) (L_ b12)) (.node b11 (L_ (Nl P)) .nil))) (.node b12 (.node b12 (.node b12 (L_ b11) (L_ b11)) (.node Ae (L_ Dp) .nil)) (.node b11 (.node AM (L_ R0) (L_ OX)) (.node Tq (L_ b11) .nil))))) (.node o23 (.node (o39 P) (.node b11 (.node CN (.node b11 (L_ b11) (L_ b11)) (.node Aw (L_ (DK P)) (L_ b12))) (.node C8 (.node B7 (L_ (Nt P)) (L_ Iw)) (.node TQ (L_ D8) .nil))) (.node b11 (.node b11 (.node b11 (L_ (RL P)) (L_ IV)) (.node Ai (L_ b12) .nil)) (.node (M8 P) (.node b12 (L_ R5) (L_ I9)) (.node b11 (L_ LG) .nil)))) (.node o55 (.node o87 (.node CC (.node Bs (L_ RY) (L_ L7)) (.node b11 (L_ DC) (L_ b11))) (.node C0 (.node (NS P) (L_ b11) (L_ Ik)) (.node b12 (L_ b11) .nil))) (.node CW (.node (Me P) (.node Be (L_ RB) (L_ b12)) (.node A9 (L_ b11) .nil)) (.node o23 (.node b11 (L_ b11) (L_ OS)) (.node Tj (L_ Ls) .nil)))))) (.node b11 (.node (o19 P) (.node o35 (.node o67 (.node b11 (.node (M5 P) (L_ Tc) (L_ Lm)) (.node b12 (L_ DP) (L_ OM))) (.node Ca (.node b11 (L_ Rt) (L_ b12)) (.node TT (L_ o23) .nil))) (.node (o99 P) (.node Cw (.node b11 (L_ RN) (L_ b11)) (.node Aj (L_ Dw) .nil)) (.node BU (.node AR (L_ b12) (L_ b11)) (.node Tz (L_ LJ) .nil)))) (.node b11 (.node o43 (.node b12 (.node b12 (L_ T0) (L_ L9)) (.node b11 (L_ b11) (L_ OC))) (.node b11 (.node AZ (L_ Rj) (L_ Im)) (.node TK (L_ D3) .nil))) (.node CX (.node Ck (.node Bf (L_ b11) (L_ IL)) (.node b11 (L_ Dl) .nil)) (.node BK (.node (NO P) (L_ b11) (L_ OV)) (.node o23 (L_ b11) .nil))))) (.node o27 (.node o43 (.node o75 (.node b11 (.node b11 (L_ T6) (L_ Lh)) (.node Av (L_ DH) (L_ OH))) (.node (Mc P) (.node b12 (L_ Ro) (L_ Iu)) (.node b11 (L_ D6) .nil))) (.node E9 (.node Cr (.node Bj (L_ RH) (L_ b12)) (.node (NF P) (L_ Dr) .nil)) (.node BP (.node AN (L_ R3) (L_ b12)) (.node b11 (L_ LA) .nil)))) (.node (o59 P) (.node b11 (.node CB (.node Br (L_ RT) (L_ L4)) (.node An (L_ b11) (L_ b11))) (.node b12 (.node b11 (L_ b11) (L_ Ih)) (.node TE (L_ LR) .nil))) (.node (Mp P) (.node Cf (.node (NW P) (L_ o23) (L_ b11)) (.node b12 (L_ b11) .nil)) (.node BF (.node b11 (L_ DU) (L_ b11)) (.node Th (L_ (Nh P)) .nil))))))) (.node (boot_o_5 P) (.node (boot_o_9 P) (.node o17 (.node b11 (.node (o65 P) (.node CQ (.node BC (L_ (Ny P)) (L_ Ln)) (.node (NM P) (L_ b11) (L_ ON))) (.node b11 (.node B9 (L_ b11) (L_ IB)) (.node b11 (L_ Dc) .nil))) (.node (o97 P) (.node (Mi P) (.node b12 (L_ RP) (L_ IY)) (.node b11 (L_ Dx) .nil)) (.node b11 (.node AS (L_ R8) (L_ Ic)) (.node TB (L_ b11) .nil)))) (.node o49 (.node o81 (.node (Mm P) (.node (M3 P) (L_ b11) (L_ b11)) (.node b12 (L_ DE) (L_ OE))) (.node C3 (.node b11 (L_ Rl) (L_ b11)) (.node TL (L_ (Nk P)) .nil))) (.node b11 (.node b11 (.node b11 (L_ RE) (L_ IM)) (.node Ac (L_ Dn) .nil)) (.node BL (.node AL (L_ b12) (L_ b11)) (.node To (L_ Lw) .nil))))) (.node b11 (.node o41 (.node o73 (.node CL (.node By (L_ T7) (L_ Li)) (.node b11 (L_ DJ) (L_ b11))) (.node C7 (.node (NU P) (L_ (Nr P)) (L_ b11)) (.node b12 (L_ b11) .nil))) (.node (Ea P) (.node (Cs P) (.node Bl (L_ RK) (L_ IT)) (.node Ah (L_ b11) .nil)) (.node (M7 P) (.node b11 (L_ b11) (L_ I7)) (.node Tt (L_ LD) .nil)))) (.node (o57 P) (.node o89 (.node b11 (.node b11 (L_ RW) (L_ L6)) (.node Ao (L_ b12) (L_ Oz))) (.node BY (.node b12 (L_ Rg) (L_ Ij)) (.node b11 (L_ LV) .nil))) (.node CV (.node Ch (.node Bd (L_ Rz) (L_ IH)) (.node TZ (L_ Di) .nil)) (.node b11 (.node AD (L_ DV) (L_ b12)) (.node b11 (L_ (Ni P)) .nil)))))) (.node b13 (.node (o21 P) (.node o37 (.node o69 (.node (CO P) (.node b12 (L_ T9) (L_ Lk)) (.node b11 (L_ DL) (L_ OK))) (.node b11 (.node B8 (L_ Rr) (L_ b11)) (.node TS (L_ b11) .nil))) (.node Ec (.node Cu (.node Bm (L_ b11) (L_ IW)) (.node b11 (L_ Du) .nil)) (.node BS (.node (NQ P) (L_ b11) (L_ Ia)) (.node b12 (L_ b11) .nil)))) (.node o53 (.node (o85 P) (.node b11 (.node b11 (L_ b11) (L_ b11)) (.node Ap (L_ (Nm P)) (L_ b12))) (.node (C1 P) (.node AY (L_ b12) (L_ b11)) (.node TH (L_ LY) .nil))) (.node b11 (.node Cj (.node b11 (L_ (Nu P)) (L_ IJ)) (.node Aa (L_ b12) .nil)) (.node BI (.node b12 (L_ DX) (L_ OU)) (.node b11 (L_ Lu) .nil))))) (.node o29 (.node (o45 P) (.node (o77 P) (.node CJ (.node Bx (L_ T4) (L_ Lf)) (.node Au (L_ b12) (L_ b11))) (.node (Mb P) (.node b11 (L_ b11) (L_ Iq)) (.node TN (L_ D5) .nil))) (.node E7 (.node Cp (.node (NY P) (L_ b12) (L_ IQ)) (.node (ND P) (L_ b11) .nil)) (.node BN (.node b11 (L_ R2) (L_ b11)) (.node Tr (L_ o23) .nil)))) (.node o61 (.node o93 (.node Cz (.node Bq (L_ b12) (L_ b12)) (.node (NH P) (L_ Dz) (L_ Ox))) (.node b11 (.node AU (L_ Rb) (L_ b12)) (.node b11 (L_ LO) .nil))) (.node (Mo P) (.node Cd (.node b12 (L_ b11) (L_ IF)) (.node b11 (L_ Df) .nil)) (.node b11 (.node AB (L_ DS) (L_ OP)) (.node Tg (L_ Lp) .nil)))))))) (.node (o2 P) (.node (boot_o_4 P) (.node (boot_o_8 P) (.node b12 (.node o32 (.node o23 (.node CR (.node b11 (L_ Td) (L_ b12)) (.node Az (L_ DR) (L_ b12))) (.node (Cc P) (.node Ba (L_ Ru) (L_ ID)) (.node TU (L_ Dd) .nil))) (.node o96 (.node Cx (.node b11 (L_ RR) (L_ IZ)) (.node Al (L_ b12) .nil)) (.node (M9 P) (.node b12 (L_ R9) (L_ Ie)) (.node b11 (L_ LN) .nil)))) (.node o48 (.node (o80 P) (.node CH (.node Bv (L_ T3) (L_ Le)) (.node b11 (L_ DF) (L_ b11))) (.node C4 (.node (NT P) (L_ b11) (L_ Ip)) (.node b12 (L_ b11) .nil))) (.node CZ (.node Co (.node Bh (L_ RF) (L_ b12)) (.node Ad (L_ b11) .nil)) (.node b12 (.node b11 (L_ b11) (L_ OW)) (.node Tp (L_ Lx) .nil))))) (.node (o24 P) (.node o40 (.node b12 (.node CM (.node Bz (L_ b12) (L_ b12)) (.node (NL P) (L_ b11) (L_ OJ))) (.node b11 (.node B6 (L_ b11) (L_ Iv)) (.node b11 (L_ D7) .nil))) (.node o23 (.node o23 (.node b12 (L_ b11) (L_ IU)) (.node b11 (L_ Dt) .nil)) (.node BQ (.node AP (L_ R4) (L_ I8)) (.node Tu (L_ b11) .nil)))) (.node o56 (.node o88 (.node (Ml P) (.node (M1 P) (L_ b11) (L_ b11)) (.node b12 (L_ b11) (L_ OA))) (.node BZ (.node b11 (L_ Rh) (L_ b11)) (.node TG (L_ b12) .nil))) (.node b11 (.node Ci (.node b11 (L_ RA) (L_ II)) (.node A8 (L_ Dj) .nil)) (.node (BH P) (.node AE (L_ b12) (L_ b11)) (.node Ti (L_ Lr) .nil)))))) (.node o12 (.node o20 (.node (o36 P) (.node o68 (.node o23 (.node b11 (L_ Ta) (L_ Ll)) (.node Ay (L_ DM) (L_ OL))) (.node C9 (.node b12 (L_ b11) (L_ Iz)) (.node b11 (L_ (Da P)) .nil))) (.node (Mr P) (.node Cv (.node Bn (L_ RM) (L_ b12)) (.node (NG P) (L_ Dv) .nil)) (.node b11 (.node AQ (L_ R7) (L_ b12)) (.node b11 (L_ LH) .nil)))) (.node b12 (.node o23 (.node CE (.node Bu (L_ RZ) (L_ L8)) (.node Aq (L_ (Nn P)) (L_ b11))) (.node o23 (.node b11 (L_ b11) (L_ Il)) (.node TJ (L_ LZ) .nil))) (.node (Mq P) (.node (Mg P) (.node (NX P) (L_ (Nv P)) (L_ IK)) (.node b12 (L_ b11) .nil)) (.node BJ (.node b11 (L_ DY) (L_ b11)) (.node (Tn P) (L_ b12) .nil))))) (.node o28 (.node o23 (.node o76 (.node b12 (.node b12 (L_ T5) (L_ Lg)) (.node b11 (L_ b11) (L_ OG))) (.node b11 (.node B5 (L_ Rn) (L_ Ir)) (.node TO (L_ b11) .nil))) (.node E8 (.node Cq (.node Bi (L_ b11) (L_ IS)) (.node Af (L_ Dq) .nil)) (.node BO (.node (NP P) (L_ b11) (L_ OZ)) (.node b12 (L_ Lz) .nil)))) (.node (o60 P) (.node b12 (.node b11 (.node b11 (L_ b11) (L_ b11)) (.node Am (L_ DA) (L_ b12))) (.node BX (.node AV (L_ b12) (L_ b11)) (.node TD (L_ LP) .nil))) (.node CT (.node Ce (.node b11 (L_ (Rx P)) (L_ b12)) (.node TY (L_ b12) .nil)) (.node BE (.node b12 (L_ DT) (L_ OQ)) (.node b11 (L_ (Ng P)) .nil))))))) (.node (boot_o_6 P) (.node (boot_o_10 P) (.node b11 (.node o34 (.node b11 (.node CP (.node BB (L_ (Nx P)) (L_ b11)) (.node b11 (L_ DQ) (L_ b11))) (.node Cb (.node (NV P) (L_ b12) (L_ b11)) (.node b12 (L_ b11) .nil))) (.node o98 (.node (Mh P) (.node Bo (L_ RO) (L_ IX)) (.node Ak (L_ b11) .nil)) (.node b12 (.node b11 (L_ b11) (L_ Ib)) (.node TA (L_ LK) .nil)))) (.node o50 (.node o82 (.node b11 (.node b11 (L_ T1) (L_ Ld)) (.node Ar (L_ (Np P)) (L_ OD))) (.node C2 (.node b12 (L_ Rk) (L_ Io)) (.node b11 (L_ (Nj P)) .nil))) (.node CY (.node Cm (.node Bg (L_ (Nw P)) (L_ b11)) (.node Ab (L_ Dm) .nil)) (.node b11 (.node AH (L_ DZ) (L_ b12)) (.node b11 (L_ Lv) .nil))))) (.node o26 (.node o42 (.node b11 (.node CK (.node (M4 P) (L_ b11) (L_ b11)) (.node b12 (L_ DI) (L_ OI))) (.node C6 (.node b11 (L_ (Nq P)) (L_ b12)) (.node TP (L_ b12) .nil))) (.node b11 (.node b11 (.node b11 (L_ RJ) (L_ b11)) (.node Ag (L_ Ds) .nil)) (.node (M6 P) (.node AO (L_ b12) (L_ b11)) (.node Ts (L_ LC) .nil)))) (.node o58 (.node o90 (.node b12 (.node b12 (L_ RU) (L_ L5)) (.node b11 (L_ DB) (L_ Oy))) (.node b11 (.node AW (L_ Rf) (L_ Ii)) (.node TF (L_ b11) .nil))) (.node CU (.node Cg (.node Bc (L_ Ry) (L_ IG)) (.node b11 (L_ Dh) .nil)) (.node BG (.node (NN P) (L_ b11) (L_ OR)) (.node b12 (L_ b11) .nil)))))) (.node b14 (.node o22 (.node (o38 P) (.node o70 (.node b11 (.node BA (L_ T8) (L_ Lj)) (.node Ax (L_ o23) (L_ b11))) (.node b12 (.node b11 (L_ Rq) (L_ Iy)) (.node TR (L_ D9) .nil))) (.node Eb (.node Ct (.node (NZ P) (L_ o23) (L_ b11)) (.node b12 (L_ b11) .nil)) (.node BR (.node b11 (L_ R6) (L_ b11)) (.node Tv (L_ b12) .nil)))) (.node b11 (.node b11 (.node CD (.node Bt (L_ b12) (L_ b12)) (.node (NJ P) (L_ DD) (L_ OB))) (.node b11 (.node AX (L_ Ri) (L_ b12)) (.node b11 (L_ LW) .nil))) (.node b12 (.node (Mf P) (.node b12 (L_ RD) (L_ b11)) (.node b11 (L_ Dk) .nil)) (.node b11 (.node AF (L_ DW) (L_ OT)) (.node Tl (L_ b11) .nil))))) (.node b11 (.node b11 (.node o78 (.node b11 (.node b11 (L_ b11) (L_ b11)) (.node As (L_ DG) (L_ b12))) (.node (Ma P) (.node B4 (L_ b12) (L_ b11)) (.node TM (L_ D4) .nil))) (.node b11 (.node b11 (.node b11 (L_ RG) (L_ IP)) (.node (NA P) (L_ b12) .nil)) (.node BM (.node b12 (L_ R1) (L_ OY)) (.node b11 (L_ (Ly P)) .nil)))) (.node o62 (.node b11 (.node Cy (.node Bp (L_ RS) (L_ L0)) (.node b11 (L_ Dy) (L_ Ow))) (.node BW (.node (NR P) (L_ b11) (L_ Ig)) (.node b12 (L_ b11) .nil))) (.node (Mn P) (.node b11 (.node Bb (L_ Rw) (L_ b11)) (.node TX (L_ b11) .nil)) (.node b12 (.node b11 (L_ b11) (L_ OO)) (.node Tf (L_ Lo) .nil)))))))))
def Ji:Life:={}
def ui:Env:={scope:=pw.main.scope,locals:=mainNs,globals:=mainNs,cells:=[],code:=R_ 13,frame:=some 14}
def c0:Code:=.body pw.main.body ui
def p0:Pos:=⟨0,0,0,0⟩
def pf:Pos:=⟨834,0,853,91⟩
def st0 (w:World) (os:OsState):SharedT:=⟨tb w.params,15,Ji,#[],⟨0,0,0,0⟩,187,os⟩
def stf (w:World) (os:OsState):SharedT:=⟨tf w.params,928,Ji,#[],⟨0,0,0,0⟩,1622,os⟩
noncomputable def KR:BT→Nat→Nat→Nat→BT
 | .nil,_,_,_=>.nil
 | .node v l r,a,b,n=>match Nat.blt b n with
  | true=>.node v (KR l (2 * a) (a+b) n) (KR r (2 * a) (2 * a+b) n)
  | false=>.nil
noncomputable def En (P:Params) (s:String) (t k:Nat) (o:Obj):Obj:=match o with
 | ⟨c,d,.dict es _,x⟩=>⟨c,d,.dict (E_ P "__name__" 165 (S_ s t)::(es.toList.drop 1).take (k - 1)).toArray k,x⟩
 | o=>o
noncomputable def Em (j:Nat) (o:Obj):Obj:=match o with
 | ⟨c,d,.fields vs,x⟩=>⟨c,d,.fields (vs.toList.take (3 * j)).toArray,x⟩
 | o=>o
noncomputable def Eo (o:Obj):Obj:=match o with
 | ⟨c,d,.cls k,x⟩=>⟨c,d,.cls {k with subclasses:=[]},x⟩
 | o=>o
noncomputable def mid (w:World) (os:OsState) (n tk:Nat) (s:String) (t k j z:Nat):SharedT:=⟨(((KR (tf w.params) 1 0 n).set 3 (En w.params s t k)).set 12 (Em j)).set z Eo,n,Ji,#[],⟨0,0,0,0⟩,tk,os⟩
noncomputable def bd_ (a n:Nat):List Stmt:=(pw.main.body.drop a).take n
theorem Ho:∀ w,(fun os=>segRunT treeTable pw w 11 (some (R_ 6)) 1 1565 (st0 w os) (piecesOf (bd_ 0 8) ui c0 p0 [topFrame p0]))=fun os=>some (.next,mid w os 167 400 "kindkeep.diags" 194 16 7 2,c0,⟨35,0,45,16⟩):=fun w=>by kernel_rfl
theorem Hn:∀ w,(fun os=>segRunT treeTable pw w 11 (some (R_ 6)) 1 964 (mid w os 167 400 "kindkeep.diags" 194 16 7 2) (piecesOf (bd_ 8 26) ui c0 ⟨35,0,45,16⟩ [topFrame p0]))=fun os=>some (.next,mid w os 246 572 "kindkeep.pcore" 457 40 11 206,c0,⟨116,0,118,18⟩):=fun w=>by kernel_rfl
theorem Hm:∀ w,(fun os=>segRunT treeTable pw w 11 (some (R_ 6)) 1 1009 (mid w os 246 572 "kindkeep.pcore" 457 40 11 206) (piecesOf (bd_ 34 1) ui c0 ⟨116,0,118,18⟩ [topFrame p0]))=fun os=>some (.next,mid w os 435 811 "kindkeep.pcore" 457 41 12 206,c0,⟨119,0,239,31⟩):=fun w=>by kernel_rfl
theorem Hl:∀ w,(fun os=>segRunT treeTable pw w 11 (some (R_ 6)) 1 654 (mid w os 435 811 "kindkeep.pcore" 457 41 12 206) (piecesOf (bd_ 35 23) ui c0 ⟨119,0,239,31⟩ [topFrame p0]))=fun os=>some (.next,mid w os 526 967 "kindkeep.nodes" 896 63 23 206,c0,⟨338,0,339,35⟩):=fun w=>by kernel_rfl
theorem Hk:∀ w,(fun os=>segRunT treeTable pw w 11 (some (R_ 6)) 1 849 (mid w os 526 967 "kindkeep.nodes" 896 63 23 206) (piecesOf (bd_ 58 16) ui c0 ⟨338,0,339,35⟩ [topFrame p0]))=fun os=>some (.next,mid w os 645 1135 "kindkeep.ptypes" 996 78 36 565,c0,⟨399,0,418,15⟩):=fun w=>by kernel_rfl
theorem Hj:∀ w,(fun os=>segRunT treeTable pw w 11 (some (R_ 6)) 1 1121 (mid w os 645 1135 "kindkeep.ptypes" 996 78 36 565) (piecesOf (bd_ 74 16) ui c0 ⟨399,0,418,15⟩ [topFrame p0]))=fun os=>some (.next,mid w os 775 1379 "law_xm0535_01" 1312 92 49 2,c0,⟨547,0,547,9⟩):=fun w=>by kernel_rfl
theorem Hi:∀ w,(fun os=>segRunT treeTable pw w 11 (some (R_ 6)) 1 742 (mid w os 775 1379 "law_xm0535_01" 1312 92 49 2) (piecesOf (bd_ 90 23) ui c0 ⟨547,0,547,9⟩ [topFrame p0]))=fun os=>some (.next,stf w os,c0,pf):=fun w=>by kernel_rfl
noncomputable def hf (P:Params):Heap:=absHeap (tf P) 928 Ji
noncomputable def YP (w:World) (h:Heap):Prop:=∀ b o,(hf w.params).get? b=some o→h.get? b=some o
theorem kW {P:Params} {a:Nat} {o:Obj} (h:Nat.blt a 928=true) (g:(tf P).get a=some o) (hal:alive o=some o):(hf P).get? a=some o:=
 (abs_get (Nat.le_of_ble_eq_true h) g).trans hal
theorem YP.at_ {w:World} {h:Heap} (Y:YP w h) {a:Nat} {o:Obj} (hb:Nat.blt a 928=true) (g:(tf w.params).get a=some o) (hal:alive o=some o):h.get? a=some o:=Y a o (kW hb g hal)
theorem YP.keeps {w:World} {h h':Heap} (Y:YP w h) (k:∀ b o,h.get? b=some o→h'.get? b=some o):YP w h':=fun b o e=>k b o (Y b o e)
theorem XD (P:Params):(hf P).NoLimit:=
 ⟨fun n=>nsFind #[E_ P "type.__subclasses__.Exception.0" 223 (I_ 39 0),E_ P "type.__subclasses__.Exception.n" 224 (I_ 1 0)] n,
  ⟨o2 P,_,_,kW rfl rfl rfl,rfl,by intro e he;simp at he;rcases he with rfl | rfl <;> exact ⟨_,_,rfl⟩,fun _=>rfl⟩,by kernel_rfl⟩
theorem YP.lim {w:World} {h:Heap} (Y:YP w h):h.NoLimit:=(XD w.params).keeps Y
noncomputable def q:Program:={pw with main:={pw.main with body:=[D_ 112]}}
noncomputable def loose:List Str:=pw.boundNames.filter (fun n=>n != "law")
theorem Vo:opening pw=plainProg pw.main.scope.names:=by kernel_rfl
theorem Gq:∀ s,fenceModules? pw s=some s:=fun s=>by kernel_rfl
theorem H3:∀ w:World,(fencedOpening treeTable pw w 14000).map (fun s=>(s.heap,s.gens,s.drawn,s.toks))=some (boot_heap w.params,Array.mk [],boot_drawn,boot_toks):=
 boot_open Vo (by decide) Gq
theorem H2:∀ w:World,((boot_heap w.params).isNs mainGlobals&&(#[]:Array GenState).size==0,(boot_heap w.params).objs.size,(boot_heap w.params).nsMap mainGlobals "__annotations__")=(true,11,some (R_ 6)):=fun w=>by kernel_rfl
theorem MF:∀ (w:World),(fun os=>topGo treeTable pw w 11 (some (R_ 6)) 12 ⟨boot_heap w.params,#[],boot_drawn,boot_toks,os⟩ (topStub pw))=fun os=>some ((st0 w os).abs,⟨denote treeTable c0,c0,p0,[topFrame p0]⟩):=fun w=>by kernel_rfl
theorem G8:∀ (w:World),(fun os=>segRun treeTable pw w 11 (some (R_ 6)) 1 1 (st0 w os).abs (blockOf pw.main.body ui c0 p0 [topFrame p0]))=fun os=>some (.next,(st0 w os).abs,c0,p0):=fun w=>by kernel_rfl
theorem MG:∀ (w:World),(fun os=>topRun treeTable pw w 11 (some (R_ 6)) 2 (stf w os).abs ⟨doneF .next,c0,pf,[topFrame p0]⟩)=fun os=>some (stf w os).abs:=fun w=>by kernel_rfl
noncomputable def Nc (P:Params) (os:OsState):Bool:=staticsOk (importedModules pw.main.body) (boot_heap P) (hf P)&&namesBound pw (hf P)&&gensDone ⟨hf P,#[],⟨0,0,0,0⟩,1622,os⟩&&laidKept (boot_heap P) (hf P)
theorem Ei:∀ (w:World),(fun os=>Nc w.params os)=fun _=>true:=fun w=>by kernel_rfl
theorem Eh:∀ (w:World),(fun os=>openSeen q loose (importedModules pw.main.body) (fun _=>true) true ⟨hf w.params,#[],⟨0,0,0,0⟩,1622,os⟩)=fun _=>openGood q loose:=fun w=>by kernel_rfl
theorem Xl {a n m N:Nat} {w:World} {os:OsState} {s s':OsState→SharedT} {p p':Pos} {r:Shared} (h:(fun os=>segRunT treeTable pw w 11 (some (R_ 6)) 1 m (s os) (piecesOf (bd_ a n) ui c0 p [topFrame p0]))=fun os=>some (.next,s' os,c0,p'))
  (k:topRun treeTable pw w 11 (some (R_ 6)) N (s' os).abs (restOf (pw.main.body.drop (a+n)) ui c0 p' [topFrame p0])=some r):topRun treeTable pw w 11 (some (R_ 6)) (m+N) (s os).abs (restOf (pw.main.body.drop a) ui c0 p [topFrame p0])=some r:=by
 have z:=piece_app (rest:=pw.main.body.drop (a+n)) (segRun_of (congrFun h os)) k
 unfold bd_ at z
 rw [← List.drop_drop,List.take_append_drop] at z
 exact z
theorem O7:pw.main.body.drop 113=[]:=by kernel_rfl
theorem ME (w:World) (os:OsState):topRun treeTable pw w 11 (some (R_ 6)) (12+(1+(1565+(964+(1009+(654+(849+(1121+(742+2))))))))) ⟨boot_heap w.params,#[],boot_drawn,boot_toks,os⟩ (topStub pw)=some ⟨hf w.params,#[],⟨0,0,0,0⟩,1622,os⟩:=by
 refine go_top (congrFun (MF w) os) (piece_block (congrFun (G8 w) os) ?_)
 refine Xl (a:=0) (Ho w) (Xl (Hn w) (Xl (Hm w) (Xl (Hl w) (Xl (Hk w) (Xl (Hj w) (Xl (Hi w) ?_))))))
 show topRun _ _ _ _ _ 2 _ (restOf (pw.main.body.drop 113) _ _ _ _)=_
 rw [O7]
 exact piece_nil (congrFun (MG w) os)
theorem left:LeftO pw q loose (fun _=>true) (fun s=>s.heap) (fun w=>hf w.params) 14000:=
 LeftO.of_pieces H3 H2 ME (by decide) fun w=>by
  funext os
  have a:=congrFun (Ei w) os
  have b:=congrFun (Eh w) os
  exact Prod.ext a (Prod.ext b rfl)
theorem ok1:chainsOk q=true:=by kernel_rfl
theorem ok2:(opening PySem.Challenge.rw_xm0535_01.row.prog).tameTopW=true:=by
 rw [show opening PySem.Challenge.rw_xm0535_01.row.prog=_ from Vo]
 kernel_rfl
theorem ok3:bearImports (behindTheImports PySem.Challenge.rw_xm0535_01.row.prog)=false:=by kernel_rfl
theorem ok4:(chainsOk q&&opensWell PySem.Challenge.rw_xm0535_01.row.prog&&(frees PySem.Challenge.rw_xm0535_01.row.toRowW&&PySem.Challenge.rw_xm0535_01.row.within.isEmpty))=true:=by
 unfold opensWell
 rw [ok1,ok2,ok3]
 rfl
theorem head (d:DefRec) (hdef:defOf q "law"=some (d,[])) (hp:pw.theDef "law"=some (d.params,d.body,d.scope)) (hk:kwWritten? d.params.kwonlyargs d.params.kw_defaults=some [])
  (hw:PySem.Challenge.rw_xm0535_01.row.toRowW.promised)
  (call:WalkO q loose (fun _ _=>True) YP PySem.Challenge.rw_xm0535_01.row.toRowW d [] fun f vs=>PySem.call f vs):PySem.Challenge.rw_xm0535_01.Holds:=
 holds_law said fun k1=>holds_open (r:=PySem.Challenge.rw_xm0535_01.row) (q:=q) (loose:=loose) (Xt:=fun _=>true) (XP:=fun _ _=>True) (YP:=YP) (N:=14000) left
  (fun w s e b o x=>by rw [e];exact x) (fun w h h' y k b o x=>k b o (y b o x)) (fun _ _=>trivial) (fun _ _ _ _ _=>trivial)
  hdef hp hk (fun s _=>recFacts_nil rfl) rfl k1 ok4 ⟨rfl,rfl,rfl,rfl,rfl,by decide +kernel⟩ hw call
end
theorem e0a2 {A0 A1:Prop} {G:Prop} (h:A0∧A1) (k:A0→A1→G):G:=by
 rcases h with ⟨h0,h1⟩
 exact k h0 h1
theorem e0a3 {A0 A1 A2:Prop} {G:Prop} (h:A0∧A1∧A2) (k:A0→A1→A2→G):G:=by
 rcases h with ⟨h0,h1,h2⟩
 exact k h0 h1 h2
theorem e0a4 {A0 A1 A2 A3:Prop} {G:Prop} (h:A0∧A1∧A2∧A3) (k:A0→A1→A2→A3→G):G:=by
 rcases h with ⟨h0,h1,h2,h3⟩
 exact k h0 h1 h2 h3
theorem e0a5 {A0 A1 A2 A3 A4:Prop} {G:Prop} (h:A0∧A1∧A2∧A3∧A4) (k:A0→A1→A2→A3→A4→G):G:=by
 rcases h with ⟨h0,h1,h2,h3,h4⟩
 exact k h0 h1 h2 h3 h4
theorem e0a6 {A0 A1 A2 A3 A4 A5:Prop} {G:Prop} (h:A0∧A1∧A2∧A3∧A4∧A5) (k:A0→A1→A2→A3→A4→A5→G):G:=by
 rcases h with ⟨h0,h1,h2,h3,h4,h5⟩
 exact k h0 h1 h2 h3 h4 h5
theorem e0a7 {A0 A1 A2 A3 A4 A5 A6:Prop} {G:Prop} (h:A0∧A1∧A2∧A3∧A4∧A5∧A6) (k:A0→A1→A2→A3→A4→A5→A6→G):G:=by
 rcases h with ⟨h0,h1,h2,h3,h4,h5,h6⟩
 exact k h0 h1 h2 h3 h4 h5 h6
theorem e0a8 {A0 A1 A2 A3 A4 A5 A6 A7:Prop} {G:Prop} (h:A0∧A1∧A2∧A3∧A4∧A5∧A6∧A7) (k:A0→A1→A2→A3→A4→A5→A6→A7→G):G:=by
 rcases h with ⟨h0,h1,h2,h3,h4,h5,h6,h7⟩
 exact k h0 h1 h2 h3 h4 h5 h6 h7
theorem e1a1 {α0:Sort _} {A0:α0→Prop} {G:Prop} (h:∃ x0,A0 x0) (k:∀ x0,A0 x0→G):G:=by
 rcases h with ⟨x0,h0⟩
 exact k _ h0
theorem e1a2 {α0:Sort _} {A0 A1:α0→Prop} {G:Prop} (h:∃ x0,A0 x0∧A1 x0) (k:∀ x0,A0 x0→A1 x0→G):G:=by
 rcases h with ⟨x0,h0,h1⟩
 exact k _ h0 h1
theorem e1a3 {α0:Sort _} {A0 A1 A2:α0→Prop} {G:Prop} (h:∃ x0,A0 x0∧A1 x0∧A2 x0) (k:∀ x0,A0 x0→A1 x0→A2 x0→G):G:=by
 rcases h with ⟨x0,h0,h1,h2⟩
 exact k _ h0 h1 h2
theorem e1a4 {α0:Sort _} {A0 A1 A2 A3:α0→Prop} {G:Prop} (h:∃ x0,A0 x0∧A1 x0∧A2 x0∧A3 x0) (k:∀ x0,A0 x0→A1 x0→A2 x0→A3 x0→G):G:=by
 rcases h with ⟨x0,h0,h1,h2,h3⟩
 exact k _ h0 h1 h2 h3
theorem e1a5 {α0:Sort _} {A0 A1 A2 A3 A4:α0→Prop} {G:Prop} (h:∃ x0,A0 x0∧A1 x0∧A2 x0∧A3 x0∧A4 x0) (k:∀ x0,A0 x0→A1 x0→A2 x0→A3 x0→A4 x0→G):G:=by
 rcases h with ⟨x0,h0,h1,h2,h3,h4⟩
 exact k _ h0 h1 h2 h3 h4
theorem e1a6 {α0:Sort _} {A0 A1 A2 A3 A4 A5:α0→Prop} {G:Prop} (h:∃ x0,A0 x0∧A1 x0∧A2 x0∧A3 x0∧A4 x0∧A5 x0) (k:∀ x0,A0 x0→A1 x0→A2 x0→A3 x0→A4 x0→A5 x0→G):G:=by
 rcases h with ⟨x0,h0,h1,h2,h3,h4,h5⟩
 exact k _ h0 h1 h2 h3 h4 h5
theorem e2a1 {α0 α1:Sort _} {A0:α0→α1→Prop} {G:Prop} (h:∃ x0 x1,A0 x0 x1) (k:∀ x0 x1,A0 x0 x1→G):G:=by
 rcases h with ⟨x0,x1,h0⟩
 exact k _ _ h0
theorem e2a2 {α0 α1:Sort _} {A0 A1:α0→α1→Prop} {G:Prop} (h:∃ x0 x1,A0 x0 x1∧A1 x0 x1) (k:∀ x0 x1,A0 x0 x1→A1 x0 x1→G):G:=by
 rcases h with ⟨x0,x1,h0,h1⟩
 exact k _ _ h0 h1
theorem e2a3 {α0 α1:Sort _} {A0 A1 A2:α0→α1→Prop} {G:Prop} (h:∃ x0 x1,A0 x0 x1∧A1 x0 x1∧A2 x0 x1) (k:∀ x0 x1,A0 x0 x1→A1 x0 x1→A2 x0 x1→G):G:=by
 rcases h with ⟨x0,x1,h0,h1,h2⟩
 exact k _ _ h0 h1 h2
theorem e2a4 {α0 α1:Sort _} {A0 A1 A2 A3:α0→α1→Prop} {G:Prop} (h:∃ x0 x1,A0 x0 x1∧A1 x0 x1∧A2 x0 x1∧A3 x0 x1) (k:∀ x0 x1,A0 x0 x1→A1 x0 x1→A2 x0 x1→A3 x0 x1→G):G:=by
 rcases h with ⟨x0,x1,h0,h1,h2,h3⟩
 exact k _ _ h0 h1 h2 h3
theorem e3a2 {α0 α1 α2:Sort _} {A0 A1:α0→α1→α2→Prop} {G:Prop} (h:∃ x0 x1 x2,A0 x0 x1 x2∧A1 x0 x1 x2) (k:∀ x0 x1 x2,A0 x0 x1 x2→A1 x0 x1 x2→G):G:=by
 rcases h with ⟨x0,x1,x2,h0,h1⟩
 exact k _ _ _ h0 h1
theorem e3a3 {α0 α1 α2:Sort _} {A0 A1 A2:α0→α1→α2→Prop} {G:Prop} (h:∃ x0 x1 x2,A0 x0 x1 x2∧A1 x0 x1 x2∧A2 x0 x1 x2) (k:∀ x0 x1 x2,A0 x0 x1 x2→A1 x0 x1 x2→A2 x0 x1 x2→G):G:=by
 rcases h with ⟨x0,x1,x2,h0,h1,h2⟩
 exact k _ _ _ h0 h1 h2
theorem e3a4 {α0 α1 α2:Sort _} {A0 A1 A2 A3:α0→α1→α2→Prop} {G:Prop} (h:∃ x0 x1 x2,A0 x0 x1 x2∧A1 x0 x1 x2∧A2 x0 x1 x2∧A3 x0 x1 x2) (k:∀ x0 x1 x2,A0 x0 x1 x2→A1 x0 x1 x2→A2 x0 x1 x2→A3 x0 x1 x2→G):G:=by
 rcases h with ⟨x0,x1,x2,h0,h1,h2,h3⟩
 exact k _ _ _ h0 h1 h2 h3
theorem e3a5 {α0 α1 α2:Sort _} {A0 A1 A2 A3 A4:α0→α1→α2→Prop} {G:Prop} (h:∃ x0 x1 x2,A0 x0 x1 x2∧A1 x0 x1 x2∧A2 x0 x1 x2∧A3 x0 x1 x2∧A4 x0 x1 x2) (k:∀ x0 x1 x2,A0 x0 x1 x2→A1 x0 x1 x2→A2 x0 x1 x2→A3 x0 x1 x2→A4 x0 x1 x2→G):G:=by
 rcases h with ⟨x0,x1,x2,h0,h1,h2,h3,h4⟩
 exact k _ _ _ h0 h1 h2 h3 h4
theorem e3a6 {α0 α1 α2:Sort _} {A0 A1 A2 A3 A4 A5:α0→α1→α2→Prop} {G:Prop} (h:∃ x0 x1 x2,A0 x0 x1 x2∧A1 x0 x1 x2∧A2 x0 x1 x2∧A3 x0 x1 x2∧A4 x0 x1 x2∧A5 x0 x1 x2) (k:∀ x0 x1 x2,A0 x0 x1 x2→A1 x0 x1 x2→A2 x0 x1 x2→A3 x0 x1 x2→A4 x0 x1 x2→A5 x0 x1 x2→G):G:=by
 rcases h with ⟨x0,x1,x2,h0,h1,h2,h3,h4,h5⟩
 exact k _ _ _ h0 h1 h2 h3 h4 h5
theorem e4a2 {α0 α1 α2 α3:Sort _} {A0 A1:α0→α1→α2→α3→Prop} {G:Prop} (h:∃ x0 x1 x2 x3,A0 x0 x1 x2 x3∧A1 x0 x1 x2 x3) (k:∀ x0 x1 x2 x3,A0 x0 x1 x2 x3→A1 x0 x1 x2 x3→G):G:=by
 rcases h with ⟨x0,x1,x2,x3,h0,h1⟩
 exact k _ _ _ _ h0 h1
theorem e4a3 {α0 α1 α2 α3:Sort _} {A0 A1 A2:α0→α1→α2→α3→Prop} {G:Prop} (h:∃ x0 x1 x2 x3,A0 x0 x1 x2 x3∧A1 x0 x1 x2 x3∧A2 x0 x1 x2 x3) (k:∀ x0 x1 x2 x3,A0 x0 x1 x2 x3→A1 x0 x1 x2 x3→A2 x0 x1 x2 x3→G):G:=by
 rcases h with ⟨x0,x1,x2,x3,h0,h1,h2⟩
 exact k _ _ _ _ h0 h1 h2
theorem e4a4 {α0 α1 α2 α3:Sort _} {A0 A1 A2 A3:α0→α1→α2→α3→Prop} {G:Prop} (h:∃ x0 x1 x2 x3,A0 x0 x1 x2 x3∧A1 x0 x1 x2 x3∧A2 x0 x1 x2 x3∧A3 x0 x1 x2 x3) (k:∀ x0 x1 x2 x3,A0 x0 x1 x2 x3→A1 x0 x1 x2 x3→A2 x0 x1 x2 x3→A3 x0 x1 x2 x3→G):G:=by
 rcases h with ⟨x0,x1,x2,x3,h0,h1,h2,h3⟩
 exact k _ _ _ _ h0 h1 h2 h3
theorem e4a6 {α0 α1 α2 α3:Sort _} {A0 A1 A2 A3 A4 A5:α0→α1→α2→α3→Prop} {G:Prop} (h:∃ x0 x1 x2 x3,A0 x0 x1 x2 x3∧A1 x0 x1 x2 x3∧A2 x0 x1 x2 x3∧A3 x0 x1 x2 x3∧A4 x0 x1 x2 x3∧A5 x0 x1 x2 x3) (k:∀ x0 x1 x2 x3,A0 x0 x1 x2 x3→A1 x0 x1 x2 x3→A2 x0 x1 x2 x3→A3 x0 x1 x2 x3→A4 x0 x1 x2 x3→A5 x0 x1 x2 x3→G):G:=by
 rcases h with ⟨x0,x1,x2,x3,h0,h1,h2,h3,h4,h5⟩
 exact k _ _ _ _ h0 h1 h2 h3 h4 h5
theorem e4a7 {α0 α1 α2 α3:Sort _} {A0 A1 A2 A3 A4 A5 A6:α0→α1→α2→α3→Prop} {G:Prop} (h:∃ x0 x1 x2 x3,A0 x0 x1 x2 x3∧A1 x0 x1 x2 x3∧A2 x0 x1 x2 x3∧A3 x0 x1 x2 x3∧A4 x0 x1 x2 x3∧A5 x0 x1 x2 x3∧A6 x0 x1 x2 x3) (k:∀ x0 x1 x2 x3,A0 x0 x1 x2 x3→A1 x0 x1 x2 x3→A2 x0 x1 x2 x3→A3 x0 x1 x2 x3→A4 x0 x1 x2 x3→A5 x0 x1 x2 x3→A6 x0 x1 x2 x3→G):G:=by
 rcases h with ⟨x0,x1,x2,x3,h0,h1,h2,h3,h4,h5,h6⟩
 exact k _ _ _ _ h0 h1 h2 h3 h4 h5 h6
theorem e4a8 {α0 α1 α2 α3:Sort _} {A0 A1 A2 A3 A4 A5 A6 A7:α0→α1→α2→α3→Prop} {G:Prop} (h:∃ x0 x1 x2 x3,A0 x0 x1 x2 x3∧A1 x0 x1 x2 x3∧A2 x0 x1 x2 x3∧A3 x0 x1 x2 x3∧A4 x0 x1 x2 x3∧A5 x0 x1 x2 x3∧A6 x0 x1 x2 x3∧A7 x0 x1 x2 x3) (k:∀ x0 x1 x2 x3,A0 x0 x1 x2 x3→A1 x0 x1 x2 x3→A2 x0 x1 x2 x3→A3 x0 x1 x2 x3→A4 x0 x1 x2 x3→A5 x0 x1 x2 x3→A6 x0 x1 x2 x3→A7 x0 x1 x2 x3→G):G:=by
 rcases h with ⟨x0,x1,x2,x3,h0,h1,h2,h3,h4,h5,h6,h7⟩
 exact k _ _ _ _ h0 h1 h2 h3 h4 h5 h6 h7
theorem e5a3 {α0 α1 α2 α3 α4:Sort _} {A0 A1 A2:α0→α1→α2→α3→α4→Prop} {G:Prop} (h:∃ x0 x1 x2 x3 x4,A0 x0 x1 x2 x3 x4∧A1 x0 x1 x2 x3 x4∧A2 x0 x1 x2 x3 x4) (k:∀ x0 x1 x2 x3 x4,A0 x0 x1 x2 x3 x4→A1 x0 x1 x2 x3 x4→A2 x0 x1 x2 x3 x4→G):G:=by
 rcases h with ⟨x0,x1,x2,x3,x4,h0,h1,h2⟩
 exact k _ _ _ _ _ h0 h1 h2
theorem e5a7 {α0 α1 α2 α3 α4:Sort _} {A0 A1 A2 A3 A4 A5 A6:α0→α1→α2→α3→α4→Prop} {G:Prop} (h:∃ x0 x1 x2 x3 x4,A0 x0 x1 x2 x3 x4∧A1 x0 x1 x2 x3 x4∧A2 x0 x1 x2 x3 x4∧A3 x0 x1 x2 x3 x4∧A4 x0 x1 x2 x3 x4∧A5 x0 x1 x2 x3 x4∧A6 x0 x1 x2 x3 x4) (k:∀ x0 x1 x2 x3 x4,A0 x0 x1 x2 x3 x4→A1 x0 x1 x2 x3 x4→A2 x0 x1 x2 x3 x4→A3 x0 x1 x2 x3 x4→A4 x0 x1 x2 x3 x4→A5 x0 x1 x2 x3 x4→A6 x0 x1 x2 x3 x4→G):G:=by
 rcases h with ⟨x0,x1,x2,x3,x4,h0,h1,h2,h3,h4,h5,h6⟩
 exact k _ _ _ _ _ h0 h1 h2 h3 h4 h5 h6
theorem e7a5 {α0 α1 α2 α3 α4 α5 α6:Sort _} {A0 A1 A2 A3 A4:α0→α1→α2→α3→α4→α5→α6→Prop} {G:Prop} (h:∃ x0 x1 x2 x3 x4 x5 x6,A0 x0 x1 x2 x3 x4 x5 x6∧A1 x0 x1 x2 x3 x4 x5 x6∧A2 x0 x1 x2 x3 x4 x5 x6∧A3 x0 x1 x2 x3 x4 x5 x6∧A4 x0 x1 x2 x3 x4 x5 x6) (k:∀ x0 x1 x2 x3 x4 x5 x6,A0 x0 x1 x2 x3 x4 x5 x6→A1 x0 x1 x2 x3 x4 x5 x6→A2 x0 x1 x2 x3 x4 x5 x6→A3 x0 x1 x2 x3 x4 x5 x6→A4 x0 x1 x2 x3 x4 x5 x6→G):G:=by
 rcases h with ⟨x0,x1,x2,x3,x4,x5,x6,h0,h1,h2,h3,h4⟩
 exact k _ _ _ _ _ _ _ h0 h1 h2 h3 h4
theorem e9a1 {α0 α1 α2 α3 α4 α5 α6 α7 α8:Sort _} {A0:α0→α1→α2→α3→α4→α5→α6→α7→α8→Prop} {G:Prop} (h:∃ x0 x1 x2 x3 x4 x5 x6 x7 x8,A0 x0 x1 x2 x3 x4 x5 x6 x7 x8) (k:∀ x0 x1 x2 x3 x4 x5 x6 x7 x8,A0 x0 x1 x2 x3 x4 x5 x6 x7 x8→G):G:=by
 rcases h with ⟨x0,x1,x2,x3,x4,x5,x6,x7,x8,h0⟩
 exact k _ _ _ _ _ _ _ _ _ h0
section
local macro_rules
 | `(tactic| obtain ⟨$ps,*⟩ := $h:term) => do
  let ps:=ps.getElems
  let n:=ps.size
  if n < 2 then Lean.Macro.throwUnsupported
  let un (p:Lean.TSyntax `Lean.Parser.Tactic.rcasesPatLo):Lean.MacroM (Lean.TSyntax `rintroPat):=do
   match p with
   | `(Lean.Parser.Tactic.rcasesPatLo| $q:rcasesPat) => `(rintroPat| $q:rcasesPat)
   | _ => let q ← `(rcasesPat| ($p)); `(rintroPat| $q:rcasesPat)
  let cl : Lean.TSyntax `tactic ← if h.raw.isIdent then `(tactic| try clear $h) else `(tactic| skip)
  let mut alts:Array (Lean.TSyntax `tactic):=#[]
  let mk (i j:Nat):Lean.MacroM (Lean.TSyntax `tactic):=do
   let e:=Lean.mkIdent (Lean.Name.mkSimple s!"e{i}a{j}")
   let m:=i+j
   let mut rs:Array (Lean.TSyntax `rintroPat):=#[]
   for k in [0:m] do
    if k+1 < m||m==n then rs:=rs.push (← un ps[k]!)
    else
     let q ← `(rcasesPat| ⟨$(ps.extract k n),*⟩)
     rs := rs.push (← `(rintroPat| $q:rcasesPat))
   `(tactic| (refine $e $h ?_; $cl; rintro $rs*))
  for j' in [0:n-1] do
   let j:=n - j'
   if j > 8 then continue
   for i in [0:n - j+1] do
    if i≤9 then alts:=alts.push (← mk i j)
  for i' in [0:n-1] do
   let i:=n - 1 - i'
   if i≤9 then alts:=alts.push (← mk i 1)
  `(tactic| first $[| $alts:tactic]*)
local macro_rules
 | `(tactic| rintro $ps:rintroPat*) => do
  let isT (p:Lean.TSyntax `rintroPat):Bool:=match p with
   | `(rintroPat| ⟨$_,*⟩) => true
   | _=>false
  match ps.findIdx? isT with
  | none=>Lean.Macro.throwUnsupported
  | some i=>
   match ps[i]! with
   | `(rintroPat| ⟨$qs,*⟩) =>
    let pre:=ps.extract 0 i
    let post:=ps.extract (i+1) ps.size
    let t1 ← if pre.isEmpty then `(tactic| skip) else `(tactic| rintro $pre*)
    let t2 ← if post.isEmpty then `(tactic| (intro t; obtain ⟨$qs,*⟩ := t)) else `(tactic| (intro t; obtain ⟨$qs,*⟩ := t) <;> rintro $post*)
    `(tactic| ($t1; $t2))
   | _=>Lean.Macro.throwUnsupported
local macro_rules
 | `(tactic| rcases $h:term with $[$ps:rcasesPat]|*) => do
  if ps.size < 2 then Lean.Macro.throwUnsupported
  let cl : Lean.TSyntax `tactic ← if h.raw.isIdent then `(tactic| try clear $h) else `(tactic| skip)
  let one (p:Lean.TSyntax `rcasesPat):Lean.MacroM (Lean.TSyntax `tactic):=do
   let p0 ← `(rintroPat| $p:rcasesPat)
   `(tactic| rintro $p0:rintroPat)
  let t1 ← one ps[0]!
  let rest:=ps.extract 1 ps.size
  let t2 : Lean.TSyntax `tactic ← if rest.size == 1 then one ps[1]! else `(tactic| (intro t; rcases t with $[$rest:rcasesPat]|*))
  `(tactic| focus (refine Or.elim $h ?_ ?_; rotate_left; (focus ($cl; $t2)); rotate_right; (focus ($cl; $t1))))
section
open PySem PySem.W PyProof.Rows
noncomputable def vz:List (String×Addr):=[("KeepError",39),("TooDeep",60),("ParseStop",80),("HostFault",100),("Diag",126),("Diags",162),("Token",183),("Part",206),("Mark",234),("Parser",430),("Node",514),("KindRule",565),("TypePart",586),("NameKindRule",661),("TailRule",722),("KindArgsTail",764)]
noncomputable def CA (C:String):Addr:=(vz.lookup C).getD 0
noncomputable def qH:List (String×Addr):=[("_wall",21),("KeepError.__init__",36),("TooDeep.__init__",57),("ParseStop.__init__",77),("HostFault.__init__",97),("Diag.__init__",116),("Diag.row",123),("Diags.__init__",145),("Diags.put",152),("Diags.numbers",159),("Token.__init__",180),("Part.parse",203),("Mark.__init__",224),("Mark.put_back",231),("cut_rows",245),("Parser.__init__",259),("Parser.now",266),("Parser.ahead",273),("Parser.step",280),("Parser.is_sign",287),("Parser.is_word",294),("Parser.is_name",301),("Parser.eat_sign",308),("Parser.eat_word",315),("Parser.eat_name",322),("Parser.need_sign",329),("Parser.need_word",336),("Parser.need_name",343),("Parser.prop_name",350),("Parser.member_name",357),("Parser.fault",364),("Parser.fault_at",371),("Parser.can_end",378),("Parser.end_statement",385),("Parser.down",392),("Parser.up",399),("Parser.part",406),("Parser.mark",413),("Parser.back",420),("Parser.keep",427),("take_mark",441),("read_apart",448),("is_token",455),("check_chain",462),("check_height",469),("eat_token",476),("read_member_name",483),("token_key",490),("need_angle",497),("Node.__init__",511),("leaf",525),("twig",532),("flagged",539),("list_of",546),("KindRule.take",562),("TypePart.parse",583),("ptypes_read_kind",595),("read_branch",602),("extends_here",609),("kind_with",616),("read_union",623),("read_inter",630),("read_operator",637),("read_hanging",644),("NameKindRule.take",658),("refuse_odd_kind",670),("read_dotted",677),("read_type_args",684),("starts_func_kind",691),("follows_param",698),("pattern_ahead",705),("TailRule.take",719),("is_template",733),("read_args",740),("read_item",747),("KindArgsTail.take",761),("try_type_args",773),("_law_take",781),("_law_signs",788),("_law_text",795),("_law_sign",802),("_law_rows",809),("_law_seen",814),("_law_angles",821),("_law_call",826),("_law_names",833),("_law_reader",840),("_law_true",845),("_law_move",852),("_law_go",859),("_law_kinds",866),("_law_tail",873),("_law_angle",880),("_law_mark",887),("_law_end",894),("_law_lay",901),("_law_fault",908),("_law_do",915),("_law_close",922),("law",927)]
noncomputable def FA (f:String):Addr:=(qH.lookup f).getD 0
noncomputable def KF (P:Params):Frag:=[(36,o36 P),(38,o38 P),(39,o39 P),(57,o57 P),(59,o59 P),(60,o60 P),(77,o77 P),(79,o79 P),(80,o80 P),(97,o97 P),(99,o99 P),(100,Mr P),(116,Mq P),(123,Mp P),(125,Mo P),(126,Mn P),(145,Mm P),(152,Ml P),(159,Mj P),(161,Mi P),(162,Mh P),(180,Mg P),(182,Mf P),(183,Me P),(203,Mc P),(205,Mb P),(206,Ma P),(224,M9 P),(231,M8 P),(233,M7 P),(234,M6 P),(259,M5 P),(266,M4 P),(273,M3 P),(280,M1 P),(287,M0 P),(294,NZ P),(301,NY P),(308,NX P),(315,NW P),(322,NV P),(329,NU P),(336,NT P),(343,NS P),(350,NR P),(357,NQ P),(364,NP P),(371,NO P),(378,NN P),(385,NM P),(392,NL P),(399,NK P),(406,NJ P),(413,NH P),(420,NG P),(427,NF P),(429,ND P),(430,NA P),(511,Nz P),(513,Ny P),(514,Nx P),(562,Nw P),(564,Nv P),(565,Nu P),(583,Nt P),(585,Nr P),(586,Nq P),(658,Np P),(660,Nn P),(661,Nm P),(719,Nl P),(721,Nk P),(722,Nj P),(761,Ni P),(763,Nh P),(764,Ng P)]
noncomputable def v8:List (String×List String):=[("Token",["kind","text","num","at","end","line_before"]),("Diag",["number","at","args","file"]),("Diags",["rows","file"]),("Parser",["tokens","at","diags","parts","firsts","tails","types","deep","pending","allow_in","in_func","in_loop","in_switch","labels","no_cond","ret_bar","in_literal","covers","commas","not_arrow","splits","saved"]),("Mark",["at","told","splits","covers","deep","pending","allow_in","in_func","in_loop","in_switch","labels","no_cond","ret_bar","in_literal"]),("Node",["kind","a","kids","flags","at","nid"])]
noncomputable def yI:List (String×String):=[("Diag","row"),("Diags","put"),("Parser","now"),("Parser","ahead"),("Parser","step"),("Parser","is_sign"),("Parser","is_word"),("Parser","is_name"),("Parser","eat_sign"),("Parser","need_sign"),("Parser","need_name"),("Parser","fault"),("Parser","fault_at"),("Parser","down"),("Parser","up"),("Parser","part"),("Parser","mark"),("Parser","back"),("Parser","keep"),("Mark","put_back"),("TypePart","parse"),("NameKindRule","take"),("KindArgsTail","take")]
noncomputable def ZP (K:Frag) (C:Addr) (k:Str):Bool:=plainGet K C k&&hasDictIn K C&&(match findIn K (.ref C) k with | some attr=>noGet K attr | none=>false)&&
 (findIn K (.ref C) "__setattr__"==some (some (.builtin "object.__setattr__")))&&plainOver K C&&(takerIn K C k==some none)
noncomputable def WO (K:Frag) (C:Addr) (m:Str) (f:Addr):Bool:=plainGet K C m&&hasDictIn K C&&(findIn K (.ref C) m==some (some (.ref f)))&&isFn K (.ref f)
noncomputable def WZ (K:Frag) (C:Addr) (f:Addr):Bool:=makesIn K C&&(findIn K (.ref C) "__init__"==some (some (.ref f)))&&isFn K (.ref f)
noncomputable def Jm (K:Frag) (C:Addr):Bool:=makesIn K C&&(findIn K (.ref C) "__init__"==some (some (.builtin "object.__init__")))
theorem VU (P:Params):(v8.all fun c=>c.2.all fun k=>ZP (KF P) (CA c.1) (Str.ofString k))=true:=by kernel_rfl
theorem WM (P:Params):(yI.all fun c=>WO (KF P) (CA c.1) (Str.ofString c.2) (FA (c.1++"."++c.2)))=true:=by kernel_rfl
theorem Yz (P:Params):((["Token","Diag","Diags","Parser","Mark","Node"]:List String).all fun c=>WZ (KF P) (CA c) (FA (c++".__init__")))=true:=by kernel_rfl
theorem qF (P:Params):((["TypePart","NameKindRule","KindArgsTail"]:List String).all fun c=>Jm (KF P) (CA c))=true:=by kernel_rfl
theorem HH (P:Params):(KF P).map (fun p=>(Nat.blt p.1 928,(tf P).get p.1,alive p.2))=(KF P).map (fun p=>(true,some p.2,some p.2)):=by kernel_rfl
theorem ua {w:World} {h:Heap} (Y:YP w h):(KF w.params).In h:=by
 intro a o e
 have key:∀ (l:Frag),(∀ p∈l,h.get? p.1=some p.2)→∀ a o,l.lookup a=some o→h.get? a=some o:=by
  intro l
  induction l with
  | nil=>intro _ a o e;cases e
  | cons p l ih=>
   intro H a o e
   rw [List.lookup_cons] at e
   by_cases q:a=p.1
   ·subst q;simp only [beq_self_eq_true,Option.some.injEq] at e;exact e▸H p (.head _)
   ·rw [beq_eq_false_iff_ne.mpr q] at e;exact ih (fun p hp=>H p (.tail _ hp)) a o e
 refine key _ (fun p hp=>?_) a o e
 have e:=List.map_inj_left.mp (HH w.params) p hp
 injection e with e1 e
 injection e with e2 e3
 exact Y.at_ e1 e2 e3
end
section
open PySem PySem.Calls PySem.W PyProof.Rows
noncomputable def MS (o:Obj):Array DictEntry:=match o.data with
 | .dict es _=>es
 | _=>#[]
noncomputable def KW (es:Array DictEntry):Bool:=es.toList.all fun e=>match e.key with | .str _ _=>true | _=>false
theorem uF {es:Array DictEntry} (h:KW es=true):StrKeys es:=fun e he=>by
 have:=List.all_eq_true.mp h e (Array.mem_toList_iff.mpr he)
 cases q:e.key <;> rw [q] at this <;> first | exact ⟨_,_,rfl⟩ | cases this
@[irreducible] noncomputable def kX (P:Params) (x:Str):Option Value:=nsFind (MS (o3 P)) x
@[irreducible] noncomputable def Ku (P:Params) (x:Str):Option Value:=nsFind (MS (boot_o_0 P)) x
theorem Zz (P:Params):(hf P).Ns mainGlobals (kX P):=⟨o3 P,_,_,kW rfl rfl rfl,rfl,uF (by kernel_rfl),fun _=>by kernel_rfl⟩
theorem V1 (P:Params):(hf P).Ns builtinsNs (Ku P):=⟨boot_o_0 P,_,_,kW rfl rfl rfl,rfl,uF (by kernel_rfl),fun _=>by kernel_rfl⟩
noncomputable def jz:Option Value→Option Value→Bool
 | some a,some b=>decide (a=b)
 | none,none=>true
 | _,_=>false
theorem zH {a b:Option Value} (h:jz a b=true):a=b:=by
 cases a <;> cases b <;> simp_all [jz]
@[irreducible] noncomputable def YB:List String:=(qH.map (·.1)).filter fun f=>!f.toList.contains '.'
theorem V5 (P:Params):(YB.all fun f=>jz (kX P (Str.ofString f)) (some (.ref (FA f))))=true:=by kernel_rfl
theorem V7 (P:Params):(vz.all fun c=>jz (kX P (Str.ofString c.1)) (some (.ref c.2)))=true:=by kernel_rfl
@[irreducible] noncomputable def bis:List (String×Value):=[("len",.builtin "len"),("tuple",.type "tuple"),("dict",.type "dict"),("str",.type "str"),("range",.type "range")]
theorem ZO (P:Params):(bis.all fun c=>jz (kX P (Str.ofString c.1)) none&&jz (Ku P (Str.ofString c.1)) (some c.2))=true:=by kernel_rfl
end
section
open PySem PySem.W PyProof.Rows
abbrev Loc:=Nat×Nat×Nat
inductive V where
 | none | bool (b:Bool) | int (i:Int) | str (s:List Nat) | tup (l:List V) | flst (l:List V)
 | obj (C:String) (f:List (String×V)) | ref (l:Loc)
inductive zu where
 | lst (l:List V) | ds (d:List (List Nat×V)) | di (d:List (Int×V)) | inst (C:String) (f:List (String×V))
structure St where
 m:Loc→Option zu
 nx:Nat
 ow:Nat
noncomputable def sv (s:List Nat):Str:=⟨s.toArray⟩
noncomputable def zG (C k:String):Bool:=(v8.lookup C).any fun l=>l.contains k
mutual
inductive RV (ρ:Loc→Addr×Addr) (n:Nat) (h:Heap) (S:Addr→Prop):Value→V→Prop
 | none:RV ρ n h S .none .none
 | bool (b:Bool):RV ρ n h S (.bool b) (.bool b)
 | int (i:Int) (t:Tok):RV ρ n h S (.int i t) (.int i)
 | str (s:List Nat) (t:Tok):RV ρ n h S (.str (sv s) t) (.str s)
 | tup {a:Addr} {o:Obj} {items:Array Value} {k:Nat} {l:List V}:h.get? a=some o→o.cls=.type "tuple"→o.data=.seq items k→¬ S a→RVs ρ n h S items.toList l→RV ρ n h S (.ref a) (.tup l)
 | flst {a:Addr} {o:Obj} {items:Array Value} {k:Nat} {l:List V}:h.get? a=some o→o.cls=.type "list"→o.data=.seq items k→¬ S a→RVs ρ n h S items.toList l→RV ρ n h S (.ref a) (.flst l)
 | obj {x d:Addr} {C:String} {es:List DictEntry} {k:Nat} {fs:List (String×V)}:h.get? x=some (instObj (CA C) d)→¬ S x→h.get? d=some (dictOf es k)→¬ S d→(∀ p∈fs,zG C p.1=true)→RFs ρ n h S es fs→RV ρ n h S (.ref x) (.obj C fs)
 | ref {l:Loc}:l.2.2 < n→RV ρ n h S (.ref (ρ l).1) (.ref l)
inductive RVs (ρ:Loc→Addr×Addr) (n:Nat) (h:Heap) (S:Addr→Prop):List Value→List V→Prop
 | nil:RVs ρ n h S [] []
 | cons {v:Value} {mv:V} {vs:List Value} {mvs:List V}:RV ρ n h S v mv→RVs ρ n h S vs mvs→RVs ρ n h S (v::vs) (mv::mvs)
inductive RFs (ρ:Loc→Addr×Addr) (n:Nat) (h:Heap) (S:Addr→Prop):List DictEntry→List (String×V)→Prop
 | nil:RFs ρ n h S [] []
 | cons {hs:Int} {k:String} {t:Tok} {v:Value} {mv:V} {es:List DictEntry} {fs:List (String×V)}:RV ρ n h S v mv→RFs ρ n h S es fs→RFs ρ n h S (⟨hs,.str (Str.ofString k) t,v⟩::es) ((k,mv)::fs)
end
theorem RV.mono {ρ ρ':Loc→Addr×Addr} {n n':Nat} {h h':Heap} {S S':Addr→Prop} (hn:n≤n') (ag:∀ l:Loc,l.2.2 < n→ρ' l=ρ l)
  (keep:∀ b o,h.get? b=some o→¬ S b→h'.get? b=some o∧¬ S' b) {v:Value} {mv:V} (x:RV ρ n h S v mv):RV ρ' n' h' S' v mv:=by
 refine RV.rec (motive_1:=fun v mv _=>RV ρ' n' h' S' v mv) (motive_2:=fun v mv _=>RVs ρ' n' h' S' v mv) (motive_3:=fun v mv _=>RFs ρ' n' h' S' v mv)
  .none .bool .int .str ?_ ?_ ?_ ?_ .nil (fun _ _ a b=>.cons a b) .nil (fun _ _ a b=>.cons a b) x
 ·intro a o items k l e1 e2 e3 e4 _ ih
  exact .tup (keep _ _ e1 e4).1 e2 e3 (keep _ _ e1 e4).2 ih
 ·intro a o items k l e1 e2 e3 e4 _ ih
  exact .flst (keep _ _ e1 e4).1 e2 e3 (keep _ _ e1 e4).2 ih
 ·intro x d C es k fs e1 e2 e3 e4 e5 _ ih
  exact .obj (keep _ _ e1 e2).1 (keep _ _ e1 e2).2 (keep _ _ e3 e4).1 (keep _ _ e3 e4).2 e5 ih
 ·intro l hl
  rw [← ag l hl]
  exact .ref (Nat.lt_of_lt_of_le hl hn)
theorem RVs.mono {ρ ρ':Loc→Addr×Addr} {n n':Nat} {h h':Heap} {S S':Addr→Prop} (hn:n≤n') (ag:∀ l:Loc,l.2.2 < n→ρ' l=ρ l)
  (keep:∀ b o,h.get? b=some o→¬ S b→h'.get? b=some o∧¬ S' b):∀ {v:List Value} {mv:List V},RVs ρ n h S v mv→RVs ρ' n' h' S' v mv
 | _,_,.nil=>.nil
 | _,_,.cons a b=>.cons (a.mono hn ag keep) (b.mono hn ag keep)
theorem RFs.mono {ρ ρ':Loc→Addr×Addr} {n n':Nat} {h h':Heap} {S S':Addr→Prop} (hn:n≤n') (ag:∀ l:Loc,l.2.2 < n→ρ' l=ρ l)
  (keep:∀ b o,h.get? b=some o→¬ S b→h'.get? b=some o∧¬ S' b):∀ {v:List DictEntry} {mv:List (String×V)},RFs ρ n h S v mv→RFs ρ' n' h' S' v mv
 | _,_,.nil=>.nil
 | _,_,.cons a b=>.cons (a.mono hn ag keep) (b.mono hn ag keep)
inductive RKs {K K':Type} (f:K'→K) (ρ:Loc→Addr×Addr) (n:Nat) (h:Heap) (S:Addr→Prop):List (K×Value)→List (K'×V)→Prop
 | nil:RKs f ρ n h S [] []
 | cons {k:K'} {v:Value} {mv:V} {vs:List (K×Value)} {mvs:List (K'×V)}:RV ρ n h S v mv→RKs f ρ n h S vs mvs→RKs f ρ n h S ((f k,v)::vs) ((k,mv)::mvs)
theorem RKs.mono {K K':Type} {f:K'→K} {ρ ρ':Loc→Addr×Addr} {n n':Nat} {h h':Heap} {S S':Addr→Prop} (hn:n≤n') (ag:∀ l:Loc,l.2.2 < n→ρ' l=ρ l)
  (keep:∀ b o,h.get? b=some o→¬ S b→h'.get? b=some o∧¬ S' b):∀ {v:List (K×Value)} {mv:List (K'×V)},RKs f ρ n h S v mv→RKs f ρ' n' h' S' v mv
 | _,_,.nil=>.nil
 | _,_,.cons a b=>.cons (a.mono hn ag keep) (b.mono hn ag keep)
noncomputable def yi (w:World) (ρ:Loc→Addr×Addr) (n:Nat) (h:Heap) (S:Addr→Prop) (p:Addr×Addr):zu→Prop
 | .lst l=>p.1=p.2∧∃ items k,h.get? p.2=some {cls:=.type "list",data:=.seq items k}∧RVs ρ n h S items.toList l
 | .ds d=>p.1=p.2∧∃ kvs,h.DictOf (PySem.strKind pw w) p.2 kvs∧RKs sv ρ n h S kvs d
 | .di d=>p.1=p.2∧∃ kvs,h.DictOf (intKind pw w) p.2 kvs∧RKs id ρ n h S kvs d
 | .inst C f=>h.get? p.1=some (instObj (CA C) p.2)∧¬ S p.1∧(∀ p∈f,zG C p.1=true)∧∃ es k,h.get? p.2=some (dictOf es k)∧RFs ρ n h S es f
noncomputable def Mut (σ:St) (ρ:Loc→Addr×Addr) (fr:List Addr) (a:Addr):Prop:=(∃ l c,σ.m l=some c∧a=(ρ l).2)∨a∈fr
structure WS (w:World) (σ:St) (ρ:Loc→Addr×Addr) (fr:List Addr) (h:Heap):Prop where
 base:YP w h
 cells:∀ l c,σ.m l=some c→l.2.2 < σ.nx∧yi w ρ σ.nx h (Mut σ ρ fr) (ρ l) c
 inj:∀ l l' c c',σ.m l=some c→σ.m l'=some c'→(ρ l).2=(ρ l').2→l=l'
 sep:∀ l c,σ.m l=some c→(ρ l).2∉fr
 notbase:∀ a,Mut σ ρ fr a→(hf w.params).get? a=none
noncomputable def jr (fr:List Addr) (h:Heap):Prop:=∀ a,a∈fr→∃ o,h.get? a=some o
structure Ext (fr fk:List Addr) (σ:St) (ρ:Loc→Addr×Addr) (h:Heap) (σ':St) (ρ':Loc→Addr×Addr) (h':Heap):Prop where
 nx:σ.nx≤σ'.nx
 ag:∀ l:Loc,l.2.2 < σ.nx→ρ' l=ρ l
 keep:∀ b o,h.get? b=some o→¬ Mut σ ρ fr b→h'.get? b=some o
 mt:∀ a,Mut σ' ρ' fr a→Mut σ ρ fr a∨h.get? a=none
 frk:∀ b∈fk,∀ o,h.get? b=some o→∃ sl,h'.get? b=some {o with slots:=sl}
 al:∀ a o,h.get? a=some o→∃ o',h'.get? a=some o'
theorem Ext.refl {fr fk:List Addr} {σ:St} {ρ:Loc→Addr×Addr} {h:Heap}:Ext fr fk σ ρ h σ ρ h:=
 ⟨Nat.le_refl _,fun _ _=>rfl,fun _ _ e _=>e,fun _ e=>.inl e,fun _ _ o e=>⟨o.slots,e⟩,fun _ o e=>⟨o,e⟩⟩
theorem Ext.sound {fr fk:List Addr} {σ σ':St} {ρ ρ':Loc→Addr×Addr} {h h':Heap} (x:Ext fr fk σ ρ h σ' ρ' h'):
  ∀ b o,h.get? b=some o→¬ Mut σ ρ fr b→h'.get? b=some o∧¬ Mut σ' ρ' fr b:=fun b o e n=>
 ⟨x.keep b o e n,fun q=>(x.mt b q).elim n fun l=>by rw [e] at l;cases l⟩
theorem Ext.trans {fr fk:List Addr} {σ₁ σ₂ σ₃:St} {ρ₁ ρ₂ ρ₃:Loc→Addr×Addr} {h₁ h₂ h₃:Heap} (x:Ext fr fk σ₁ ρ₁ h₁ σ₂ ρ₂ h₂) (y:Ext fr fk σ₂ ρ₂ h₂ σ₃ ρ₃ h₃):
  Ext fr fk σ₁ ρ₁ h₁ σ₃ ρ₃ h₃:=
 ⟨Nat.le_trans x.nx y.nx,fun l hl=>(y.ag l (Nat.lt_of_lt_of_le hl x.nx)).trans (x.ag l hl),fun b o e n=>y.keep b o (x.keep b o e n) (x.sound b o e n).2,
  fun a q=>(y.mt a q).elim (x.mt a) (fun l=>Classical.byCases (p:=Mut σ₁ ρ₁ fr a) .inl fun z=>.inr (by
   cases e:h₁.get? a with
   | none=>rfl
   | some o=>rw [x.keep a o e z] at l;cases l)),
  fun b hb o e=>by obtain ⟨sl,e'⟩:=x.frk b hb o e;obtain ⟨sl',e''⟩:=y.frk b hb _ e';exact ⟨sl',e''⟩,
  fun a o e=>by obtain ⟨o',e'⟩:=x.al a o e;exact y.al a o' e'⟩
theorem Ext.rv {fr fk:List Addr} {σ σ':St} {ρ ρ':Loc→Addr×Addr} {h h':Heap} (x:Ext fr fk σ ρ h σ' ρ' h') {v:Value} {mv:V} (r:RV ρ σ.nx h (Mut σ ρ fr) v mv):RV ρ' σ'.nx h' (Mut σ' ρ' fr) v mv:=r.mono x.nx x.ag x.sound
theorem Ext.rvs {fr fk:List Addr} {σ σ':St} {ρ ρ':Loc→Addr×Addr} {h h':Heap} (x:Ext fr fk σ ρ h σ' ρ' h') {v:List Value} {mv:List V} (r:RVs ρ σ.nx h (Mut σ ρ fr) v mv):RVs ρ' σ'.nx h' (Mut σ' ρ' fr) v mv:=r.mono x.nx x.ag x.sound
structure xu (fr:List Addr) (σ:St) (ρ:Loc→Addr×Addr) (h:Heap) (σ':St) (ρ':Loc→Addr×Addr) (h':Heap):Prop where
 nx:σ.nx≤σ'.nx
 ag:∀ l:Loc,l.2.2 < σ.nx→ρ' l=ρ l
 keep:∀ b o,h.get? b=some o→¬ Mut σ ρ fr b→h'.get? b=some o
 mt:∀ a,Mut σ' ρ' fr a→Mut σ ρ fr a∨h.get? a=none
theorem Ext.core {fr fk:List Addr} {σ σ':St} {ρ ρ':Loc→Addr×Addr} {h h':Heap} (x:Ext fr fk σ ρ h σ' ρ' h'):xu fr σ ρ h σ' ρ' h':=⟨x.nx,x.ag,x.keep,x.mt⟩
theorem xu.sound {fr:List Addr} {σ σ':St} {ρ ρ':Loc→Addr×Addr} {h h':Heap} (x:xu fr σ ρ h σ' ρ' h'):
  ∀ b o,h.get? b=some o→¬ Mut σ ρ fr b→h'.get? b=some o∧¬ Mut σ' ρ' fr b:=fun b o e n=>
 ⟨x.keep b o e n,fun q=>(x.mt b q).elim n fun l=>by rw [e] at l;cases l⟩
theorem xu.trans {fr:List Addr} {σ₁ σ₂ σ₃:St} {ρ₁ ρ₂ ρ₃:Loc→Addr×Addr} {h₁ h₂ h₃:Heap} (x:xu fr σ₁ ρ₁ h₁ σ₂ ρ₂ h₂) (y:xu fr σ₂ ρ₂ h₂ σ₃ ρ₃ h₃):xu fr σ₁ ρ₁ h₁ σ₃ ρ₃ h₃:=
 ⟨Nat.le_trans x.nx y.nx,fun l hl=>(y.ag l (Nat.lt_of_lt_of_le hl x.nx)).trans (x.ag l hl),fun b o e n=>y.keep b o (x.keep b o e n) (x.sound b o e n).2,
  fun a q=>(y.mt a q).elim (x.mt a) (fun l=>Classical.byCases (p:=Mut σ₁ ρ₁ fr a) .inl fun z=>.inr (by
   cases e:h₁.get? a with
   | none=>rfl
   | some o=>rw [x.keep a o e z] at l;cases l))⟩
noncomputable def Oe (h h':Heap):Prop:=∀ a o,h.get? a=some o→∃ o',h'.get? a=some o'
noncomputable def y7 (fs fk:List Addr) (h g:Heap):Prop:=(∀ a o,h.get? a=some o→a∉fs→∃ o',g.get? a=some o')∧∀ b∈fk,b∉fs→∀ o,h.get? b=some o→∃ sl,g.get? b=some {o with slots:=sl}
theorem y7.before {fs fk fr:List Addr} {σ σ':St} {ρ ρ':Loc→Addr×Addr} {a b c:Heap} (y:y7 fs fk b c) (x:Ext fr fk σ ρ a σ' ρ' b):y7 fs fk a c:=
 ⟨fun z o e n=>by obtain ⟨o',e'⟩:=x.al z o e;exact y.1 z o' e' n,fun z hz n o e=>by obtain ⟨sl,e'⟩:=x.frk z hz o e;obtain ⟨sl',e''⟩:=y.2 z hz n _ e';exact ⟨sl',e''⟩⟩
theorem jr.up {fr:List Addr} {h h':Heap} (x:jr fr h) (k:Oe h h'):jr fr h':=fun a ha=>by obtain ⟨o,e⟩:=x a ha;exact k a o e
noncomputable def St.set (σ:St) (l:Loc) (c:zu):St:={σ with m:=fun l'=>if l'=l then some c else σ.m l'}
noncomputable def St.drop (σ:St) (l:Loc):St:={σ with m:=fun l'=>if l'=l then none else σ.m l'}
noncomputable def St.loc (σ:St) (k:Nat):Loc:=(σ.ow,k,σ.nx)
noncomputable def St.new (σ:St) (k:Nat) (c:zu):St:={m:=fun l'=>if l'=σ.loc k then some c else σ.m l',nx:=σ.nx+1,ow:=σ.ow}
noncomputable def St.own (σ:St) (i:Nat):St:={σ with ow:=i}
theorem yi.mono {w:World} {ρ ρ':Loc→Addr×Addr} {n n':Nat} {h h':Heap} {S S':Addr→Prop} {p:Addr×Addr} {c:zu} (hn:n≤n') (ag:∀ l:Loc,l.2.2 < n→ρ' l=ρ l)
  (keep:∀ b o,h.get? b=some o→¬ S b→h'.get? b=some o∧¬ S' b) (kp:∀ o,h.get? p.2=some o→h'.get? p.2=some o) (x:yi w ρ n h S p c):yi w ρ' n' h' S' p c:=by
 cases c with
 | lst l=>obtain ⟨e,items,k,e1,e2⟩:=x;exact ⟨e,items,k,kp _ e1,e2.mono hn ag keep⟩
 | ds d=>obtain ⟨e,kvs,⟨o,es,ep,e1,r⟩,e2⟩:=x;exact ⟨e,kvs,⟨o,es,ep,kp _ e1,r⟩,e2.mono hn ag keep⟩
 | di d=>obtain ⟨e,kvs,⟨o,es,ep,e1,r⟩,e2⟩:=x;exact ⟨e,kvs,⟨o,es,ep,kp _ e1,r⟩,e2.mono hn ag keep⟩
 | inst C f=>obtain ⟨e1,e2,e5,es,k,e3,e4⟩:=x;exact ⟨(keep _ _ e1 e2).1,(keep _ _ e1 e2).2,e5,es,k,kp _ e3,e4.mono hn ag keep⟩
theorem yi.there {w:World} {ρ:Loc→Addr×Addr} {n:Nat} {h:Heap} {S:Addr→Prop} {p:Addr×Addr} {c:zu} (x:yi w ρ n h S p c):∃ o,h.get? p.2=some o:=by
 cases c with
 | lst l=>obtain ⟨e,items,k,e1,e2⟩:=x;exact ⟨_,e1⟩
 | ds d=>obtain ⟨e,kvs,⟨o,es,ep,e1,r⟩,e2⟩:=x;exact ⟨_,e1⟩
 | di d=>obtain ⟨e,kvs,⟨o,es,ep,e1,r⟩,e2⟩:=x;exact ⟨_,e1⟩
 | inst C f=>obtain ⟨e1,e2,e5,es,k,e3,e4⟩:=x;exact ⟨_,e3⟩
theorem WS.mt_lt {w:World} {σ:St} {ρ:Loc→Addr×Addr} {fr:List Addr} {h:Heap} (W:WS w σ ρ fr h) (T:jr fr h) {a:Addr} (x:Mut σ ρ fr a):a < h.objs.size:=by
 rcases x with ⟨l,c,e,rfl⟩ | x
 ·obtain ⟨o,ho⟩:=(W.cells l c e).2.there;exact Heap.lt_size ho
 ·obtain ⟨o,ho⟩:=T a x;exact Heap.lt_size ho
theorem WS.up {w:World} {σ:St} {ρ:Loc→Addr×Addr} {fr:List Addr} {h h':Heap} (W:WS w σ ρ fr h) (k:∀ b o,h.get? b=some o→h'.get? b=some o):WS w σ ρ fr h':=
 ⟨W.base.keeps k,fun l c e=>⟨(W.cells l c e).1,(W.cells l c e).2.mono (Nat.le_refl _) (fun _ _=>rfl) (fun b o e n=>⟨k b o e,n⟩) fun o=>k _ o⟩,W.inj,W.sep,W.notbase⟩
theorem Ext.up {σ:St} {ρ:Loc→Addr×Addr} {fr fk:List Addr} {h h':Heap} (k:∀ b o,h.get? b=some o→h'.get? b=some o):Ext fr fk σ ρ h σ ρ h':=
 ⟨Nat.le_refl _,fun _ _=>rfl,fun b o e _=>k b o e,fun _ e=>.inl e,fun b _ o e=>⟨o.slots,k b o e⟩,fun a o e=>⟨o,k a o e⟩⟩
theorem Mut.set {σ:St} {ρ:Loc→Addr×Addr} {fr:List Addr} {l:Loc} {c c':zu} (hl:σ.m l=some c):Mut (σ.set l c') ρ fr=Mut σ ρ fr:=by
 funext a
 refine propext ⟨fun x=>?_,fun x=>?_⟩
 ·rcases x with ⟨l',c'',e,rfl⟩ | x
  ·by_cases q:l'=l
   ·subst q;exact .inl ⟨_,_,hl,rfl⟩
   ·simp only [St.set,if_neg q] at e;exact .inl ⟨_,_,e,rfl⟩
  ·exact .inr x
 ·rcases x with ⟨l',c'',e,rfl⟩ | x
  ·by_cases q:l'=l
   ·subst q;exact .inl ⟨l',c',by simp [St.set],rfl⟩
   ·exact .inl ⟨l',c'',by simp only [St.set,if_neg q];exact e,rfl⟩
  ·exact .inr x
theorem WS.set {w:World} {σ:St} {ρ:Loc→Addr×Addr} {fr fk:List Addr} {h h':Heap} {l:Loc} {c c':zu} (W:WS w σ ρ fr h) (hl:σ.m l=some c) (hk:∀ b∈fk,b∈fr) (hs:Heap.SameBut (ρ l).2 h h')
  (hc:yi w ρ σ.nx h' (Mut σ ρ fr) (ρ l) c'):WS w (σ.set l c') ρ fr h'∧Ext fr fk σ ρ h (σ.set l c') ρ h':=by
 have M:Mut (σ.set l c') ρ fr=Mut σ ρ fr:=Mut.set hl
 have hm:Mut σ ρ fr (ρ l).2:=.inl ⟨l,c,hl,rfl⟩
 have keep:∀ b o,h.get? b=some o→¬ Mut σ ρ fr b→h'.get? b=some o:=fun b o e n=>(hs.2 b fun q=>n (q▸hm)).trans e
 refine ⟨⟨fun b o e=>(hs.2 b fun q=>?_).trans (W.base b o e),fun l' c'' e=>?_,fun l₁ l₂ c₁ c₂ e₁ e₂ q=>?_,fun l₁ c₁ e₁=>?_,fun a x=>W.notbase a (M▸x)⟩,?_⟩
 ·have:=W.notbase _ hm;rw [q] at e;rw [this] at e;cases e
 ·by_cases q:l'=l
  ·subst q
   simp only [St.set,if_true,Option.some.injEq] at e
   subst e
   exact ⟨(W.cells _ _ hl).1,M▸hc⟩
  ·simp only [St.set,if_neg q] at e
   refine ⟨(W.cells _ _ e).1,(W.cells _ _ e).2.mono (Nat.le_refl _) (fun _ _=>rfl) (fun b o e n=>⟨keep b o e n,M▸n⟩) fun o e'=>(hs.2 _ fun z=>q (W.inj _ _ _ _ e hl z)).trans e'⟩
 ·have f:∀ l₁ c₁,(σ.set l c').m l₁=some c₁→∃ c,σ.m l₁=some c:=fun l₁ c₁ e=>by
   by_cases q:l₁=l
   ·exact ⟨c,q▸hl⟩
   ·simp only [St.set,if_neg q] at e;exact ⟨_,e⟩
  obtain ⟨d₁,f₁⟩:=f _ _ e₁
  obtain ⟨d₂,f₂⟩:=f _ _ e₂
  exact W.inj _ _ _ _ f₁ f₂ q
 ·by_cases q:l₁=l
  ·subst q;exact W.sep _ _ hl
  ·simp only [St.set,if_neg q] at e₁;exact W.sep _ _ e₁
 ·exact ⟨Nat.le_refl _,fun _ _=>rfl,keep,fun a x=>.inl (M▸x),fun b hb o e=>⟨o.slots,(hs.2 b fun q=>W.sep _ _ hl (q▸hk b hb)).trans e⟩,fun a o e=>by
   by_cases q:a=(ρ l).2
   ·subst q;exact hc.there
   ·exact ⟨o,(hs.2 a q).trans e⟩⟩
theorem Mut.new {σ:St} {ρ:Loc→Addr×Addr} {fr:List Addr} {k:Nat} {c:zu} {p:Addr×Addr} (hn:∀ l c,σ.m l=some c→l.2.2 < σ.nx) (a:Addr):
  Mut (σ.new k c) (fun l=>if l=σ.loc k then p else ρ l) fr a↔a=p.2∨Mut σ ρ fr a:=by
 constructor
 ·rintro (⟨l,c',e,rfl⟩ | x)
  ·by_cases q:l=σ.loc k
   ·left;simp [q]
   ·simp only [St.new,if_neg q] at e ⊢;exact .inr (.inl ⟨_,_,e,rfl⟩)
  ·exact .inr (.inr x)
 ·rintro (rfl | ⟨l,c',e,rfl⟩ | x)
  ·exact .inl ⟨σ.loc k,c,by simp [St.new],by simp⟩
  ·have q:l≠σ.loc k:=fun q=>by have:=hn _ _ e;rw [q] at this;exact Nat.lt_irrefl _ this
   exact .inl ⟨l,c',by simp only [St.new,if_neg q];exact e,by simp [q]⟩
  ·exact .inr x
theorem WS.new {w:World} {σ:St} {ρ:Loc→Addr×Addr} {fr fk:List Addr} {h h':Heap} {k:Nat} {c:zu} {p:Addr×Addr} (W:WS w σ ρ fr h) (T:jr fr h) (k':∀ b o,h.get? b=some o→h'.get? b=some o)
  (hp:h.objs.size≤p.2) (hc:yi w (fun l=>if l=σ.loc k then p else ρ l) (σ.nx+1) h' (fun a=>a=p.2∨Mut σ ρ fr a) p c):
  WS w (σ.new k c) (fun l=>if l=σ.loc k then p else ρ l) fr h'∧Ext fr fk σ ρ h (σ.new k c) (fun l=>if l=σ.loc k then p else ρ l) h':=by
 have hn:∀ l c,σ.m l=some c→l.2.2 < σ.nx:=fun l c e=>(W.cells l c e).1
 have M:Mut (σ.new k c) (fun l=>if l=σ.loc k then p else ρ l) fr=fun a=>a=p.2∨Mut σ ρ fr a:=funext fun a=>propext (Mut.new hn a)
 have ag:∀ l:Loc,l.2.2 < σ.nx→(if l=σ.loc k then p else ρ l)=ρ l:=fun l hl=>if_neg fun q=>by rw [q] at hl;exact Nat.lt_irrefl _ hl
 have old:∀ l c',(σ.new k c).m l=some c'→l≠σ.loc k→σ.m l=some c':=fun l c' e q=>by simpa only [St.new,if_neg q] using e
 have ne:∀ a,Mut σ ρ fr a→a≠p.2:=fun a x q=>Nat.lt_irrefl _ (Nat.lt_of_lt_of_le (W.mt_lt T x) (q▸hp))
 have fresh:∀ b o,h.get? b=some o→b≠p.2:=fun b o e q=>Nat.lt_irrefl _ (Nat.lt_of_lt_of_le (Heap.lt_size e) (q▸hp))
 have keep:∀ b o,h.get? b=some o→¬ Mut σ ρ fr b→h'.get? b=some o∧¬ (fun a=>a=p.2∨Mut σ ρ fr a) b:=fun b o e n=>⟨k' b o e,fun q=>q.elim (fresh b o e) n⟩
 refine ⟨⟨W.base.keeps k',fun l c' e=>?_,fun l₁ l₂ c₁ c₂ e₁ e₂ q=>?_,fun l₁ c₁ e₁=>?_,fun a x=>?_⟩,?_⟩
 ·by_cases q:l=σ.loc k
  ·subst q
   have:c'=c:=by simpa [St.new] using e.symm
   subst this
   refine ⟨Nat.lt_succ_self _,?_⟩
   rw [M];simp only [if_true];exact hc
  ·have e':=old _ _ e q
   have C:=W.cells _ _ e'
   refine ⟨Nat.lt_succ_of_lt C.1,?_⟩
   rw [M]
   simp only [if_neg q]
   exact C.2.mono (Nat.le_succ _) (fun l hl=>ag l hl) keep fun o=>k' _ o
 ·by_cases q₁:l₁=σ.loc k <;> by_cases q₂:l₂=σ.loc k
  ·rw [q₁,q₂]
  ·simp only [q₁,if_neg q₂,if_true] at q
   exact absurd q.symm (ne _ (.inl ⟨_,_,old _ _ e₂ q₂,rfl⟩))
  ·simp only [if_neg q₁,q₂,if_true] at q
   exact absurd q (ne _ (.inl ⟨_,_,old _ _ e₁ q₁,rfl⟩))
  ·simp only [if_neg q₁,if_neg q₂] at q
   exact W.inj _ _ _ _ (old _ _ e₁ q₁) (old _ _ e₂ q₂) q
 ·by_cases q:l₁=σ.loc k
  ·simp only [q,if_true];exact fun x=>Nat.lt_irrefl _ (Nat.lt_of_lt_of_le (W.mt_lt T (.inr x)) hp)
  ·simp only [if_neg q];exact W.sep _ _ (old _ _ e₁ q)
 ·rw [M] at x
  rcases x with rfl | x
  ·cases q:(hf w.params).get? p.2 with
   | none=>rfl
   | some o=>exact absurd rfl (fresh _ _ (W.base _ _ q))
  ·exact W.notbase a x
 ·refine ⟨Nat.le_succ _,ag,fun b o e _=>k' b o e,fun a x=>?_,fun b _ o e=>⟨o.slots,k' b o e⟩,fun a o e=>⟨o,k' a o e⟩⟩
  rw [M] at x
  exact x.elim (fun q=>.inr (by
   subst q
   cases q:h.get? p.2 with
   | none=>rfl
   | some o=>exact absurd rfl (fresh _ _ q))) .inl
abbrev op {α:Type} (o:Option α) (P:α→Prop):Prop:=Option.rec (motive:=fun _=>Prop) False P o
theorem zd {α:Type} {o:Option α} {P:α→Prop} (h:op o P):∃ a,o=some a∧P a:=by
 cases o with
 | none=>exact h.elim
 | some a=>exact ⟨a,rfl,h⟩
abbrev cB (b:Bool) (A B:Prop):Prop:=Bool.rec (motive:=fun _=>Prop) B A b
theorem VO {b:Bool} {A B:Prop} (h:cB b A B):(b=true∧A)∨(b=false∧B):=by
 cases b
 ·exact .inr ⟨rfl,h⟩
 ·exact .inl ⟨rfl,h⟩
noncomputable def bd {α β:Type} (o:Option α) (f:α→Option β):Option β:=Option.rec none f o
theorem zc {α β:Type} {o:Option α} {f:α→Option β} {b:β} (h:bd o f=some b):∃ a,o=some a∧f a=some b:=by
 cases o with
 | none=>cases h
 | some a=>exact ⟨a,rfl,h⟩
noncomputable def oO {α:Type} (o p:Option α):Option α:=Option.rec p some o
theorem zK {α:Type} {o p:Option α} {a:α} (h:oO o p=some a):o=some a∨p=some a:=by
 cases o with
 | none=>exact .inr h
 | some _=>exact .inl h
noncomputable def asN (v:V):Option Unit:=V.casesOn v (some ()) (fun _=>none) (fun _=>none) (fun _=>none) (fun _=>none) (fun _=>none) (fun _ _=>none) fun _=>none
noncomputable def asB (v:V):Option Bool:=V.casesOn v none some (fun _=>none) (fun _=>none) (fun _=>none) (fun _=>none) (fun _ _=>none) fun _=>none
noncomputable def asI (v:V):Option Int:=V.casesOn v none (fun _=>none) some (fun _=>none) (fun _=>none) (fun _=>none) (fun _ _=>none) fun _=>none
noncomputable def asS (v:V):Option (List Nat):=V.casesOn v none (fun _=>none) (fun _=>none) some (fun _=>none) (fun _=>none) (fun _ _=>none) fun _=>none
noncomputable def asT (v:V):Option (List V):=V.casesOn v none (fun _=>none) (fun _=>none) (fun _=>none) some (fun _=>none) (fun _ _=>none) fun _=>none
noncomputable def asF (v:V):Option (List V):=V.casesOn v none (fun _=>none) (fun _=>none) (fun _=>none) (fun _=>none) some (fun _ _=>none) fun _=>none
noncomputable def asO (v:V):Option (String×List (String×V)):=V.casesOn v none (fun _=>none) (fun _=>none) (fun _=>none) (fun _=>none) (fun _=>none) (fun C f=>some (C,f)) fun _=>none
noncomputable def asR (v:V):Option Loc:=V.casesOn v none (fun _=>none) (fun _=>none) (fun _=>none) (fun _=>none) (fun _=>none) (fun _ _=>none) some
noncomputable def lsA (σ:St) (l:Loc):Option (List V):=bd (σ.m l) fun c=>zu.casesOn c some (fun _=>none) (fun _=>none) fun _ _=>none
noncomputable def dsA (σ:St) (l:Loc):Option (List (List Nat×V)):=bd (σ.m l) fun c=>zu.casesOn c (fun _=>none) some (fun _=>none) fun _ _=>none
noncomputable def diA (σ:St) (l:Loc):Option (List (Int×V)):=bd (σ.m l) fun c=>zu.casesOn c (fun _=>none) (fun _=>none) some fun _ _=>none
noncomputable def inA (σ:St) (l:Loc):Option (String×List (String×V)):=bd (σ.m l) fun c=>zu.casesOn c (fun _=>none) (fun _=>none) (fun _=>none) fun C f=>some (C,f)
theorem zL {α:Type} {a:α} {P:Prop} (h:none=some a):P:=nomatch h
theorem JL {v:V} {a:Unit} (h:asN v=some a):v=.none:=by revert h;induction v using V.casesOn <;> first | exact zL | exact fun _=>rfl
theorem ZQ {v:V} {a:Bool} (h:asB v=some a):v=.bool a:=by revert h;induction v using V.casesOn <;> first | exact zL | exact fun h=>congrArg V.bool (Option.some.inj h)
theorem GL {v:V} {a:Int} (h:asI v=some a):v=.int a:=by revert h;induction v using V.casesOn <;> first | exact zL | exact fun h=>congrArg V.int (Option.some.inj h)
theorem GJ {v:V} {a:List Nat} (h:asS v=some a):v=.str a:=by revert h;induction v using V.casesOn <;> first | exact zL | exact fun h=>congrArg V.str (Option.some.inj h)
theorem GH {v:V} {a:List V} (h:asT v=some a):v=.tup a:=by revert h;induction v using V.casesOn <;> first | exact zL | exact fun h=>congrArg V.tup (Option.some.inj h)
theorem JM {v:V} {a:List V} (h:asF v=some a):v=.flst a:=by revert h;induction v using V.casesOn <;> first | exact zL | exact fun h=>congrArg V.flst (Option.some.inj h)
theorem JK {v:V} {a:Loc} (h:asR v=some a):v=.ref a:=by revert h;induction v using V.casesOn <;> first | exact zL | exact fun h=>congrArg V.ref (Option.some.inj h)
theorem GK {v:V} {a:String×List (String×V)} (h:asO v=some a):v=.obj a.1 a.2:=by revert h;induction v using V.casesOn <;> first | exact zL | exact fun h=>congrArg (fun a=>V.obj a.1 a.2) (Option.some.inj h)
theorem xw {σ:St} {l:Loc} {a:List V} (h:lsA σ l=some a):σ.m l=some (.lst a):=by
 obtain ⟨c,e,h⟩:=zc h
 rw [e];clear e;revert h
 induction c using zu.casesOn <;> first | exact zL | exact fun h=>congrArg (fun a=>some (zu.lst a)) (Option.some.inj h)
theorem wJ {σ:St} {l:Loc} {a:List (List Nat×V)} (h:dsA σ l=some a):σ.m l=some (.ds a):=by
 obtain ⟨c,e,h⟩:=zc h
 rw [e];clear e;revert h
 induction c using zu.casesOn <;> first | exact zL | exact fun h=>congrArg (fun a=>some (zu.ds a)) (Option.some.inj h)
theorem jX {σ:St} {l:Loc} {a:List (Int×V)} (h:diA σ l=some a):σ.m l=some (.di a):=by
 obtain ⟨c,e,h⟩:=zc h
 rw [e];clear e;revert h
 induction c using zu.casesOn <;> first | exact zL | exact fun h=>congrArg (fun a=>some (zu.di a)) (Option.some.inj h)
theorem wF {σ:St} {l:Loc} {a:String×List (String×V)} (h:inA σ l=some a):σ.m l=some (.inst a.1 a.2):=by
 obtain ⟨c,e,h⟩:=zc h
 rw [e];clear e;revert h
 induction c using zu.casesOn <;> first | exact zL | exact fun h=>congrArg (fun a:String×List (String×V)=>some (zu.inst a.1 a.2)) (Option.some.inj h)
theorem zJ {σ:St} {l:Loc} {a:List V} (h:σ.m l=some (.lst a)):lsA σ l=some a:=by unfold lsA;rw [h];rfl
theorem xJ {σ:St} {l:Loc} {a:List (List Nat×V)} (h:σ.m l=some (.ds a)):dsA σ l=some a:=by unfold dsA;rw [h];rfl
theorem gH {σ:St} {l:Loc} {a:List (Int×V)} (h:σ.m l=some (.di a)):diA σ l=some a:=by unfold diA;rw [h];rfl
theorem kU {σ:St} {l:Loc} {C:String} {f:List (String×V)} (h:σ.m l=some (.inst C f)):inA σ l=some (C,f):=by unfold inA;rw [h];rfl
abbrev cV (v:V) (f:Int→Prop) (g:List Nat→Prop) (h:List V→Prop) (k:Loc→Prop):Prop:=V.casesOn v False (fun _=>False) f g h (fun _=>False) (fun _ _=>False) k
theorem VN {v:V} {f:Int→Prop} {g:List Nat→Prop} {h:List V→Prop} {k:Loc→Prop} (x:cV v f g h k):(∃ a,asI v=some a∧f a)∨(∃ a,asS v=some a∧g a)∨(∃ a,asT v=some a∧h a)∨∃ a,asR v=some a∧k a:=by
 cases v with
 | int a=>exact .inl ⟨a,rfl,x⟩
 | str a=>exact .inr (.inl ⟨a,rfl,x⟩)
 | tup a=>exact .inr (.inr (.inl ⟨a,rfl,x⟩))
 | ref a=>exact .inr (.inr (.inr ⟨a,rfl,x⟩))
 | _=>exact x.elim
noncomputable def vj (σ:St) (v:V):Option (List V):=oO (asT v) (oO (asF v) (bd (asR v) (lsA σ)))
noncomputable def one {α:Type} (l:List α):Option α:=List.casesOn l none fun a r=>List.casesOn r (some a) fun _ _=>none
theorem wj {α:Type} {l:List α} {a:α} (h:one l=some a):l=[a]:=by
 revert h
 rcases l with _ | ⟨b,_ | ⟨_,_⟩⟩ <;> first | exact zL | exact fun h=>congrArg (fun a=>[a]) (Option.some.inj h)
theorem RVs.ind {ρ:Loc→Addr×Addr} {n:Nat} {h:Heap} {S:Addr→Prop} {P:List Value→List V→Prop} (h0:P [] []) (h1:∀ v mv vs mvs,RV ρ n h S v mv→RVs ρ n h S vs mvs→P vs mvs→P (v::vs) (mv::mvs)) {vs:List Value} {mvs:List V} (r:RVs ρ n h S vs mvs):P vs mvs:=
 RVs.rec (motive_1:=fun _ _ _=>True) (motive_2:=fun vs mvs _=>P vs mvs) (motive_3:=fun _ _ _=>True) trivial (fun _=>trivial) (fun _ _=>trivial) (fun _ _=>trivial) (fun _ _ _ _ _ _=>trivial) (fun _ _ _ _ _ _=>trivial) (fun _ _ _ _ _ _ _=>trivial)
  (fun _=>trivial) h0 (fun a b _ ih=>h1 _ _ _ _ a b ih) trivial (fun _ _ _ _=>trivial) r
theorem RVs.inv {ρ:Loc→Addr×Addr} {n:Nat} {h:Heap} {S:Addr→Prop} {vs:List Value} {mvs:List V} (r:RVs ρ n h S vs mvs):List.casesOn (motive:=fun _=>Prop) vs (mvs=[]) fun v vs=>∃ mv ms,mvs=mv::ms∧RV ρ n h S v mv∧RVs ρ n h S vs ms:=
 r.ind (P:=fun vs mvs=>List.casesOn (motive:=fun _=>Prop) vs (mvs=[]) fun v vs=>∃ mv ms,mvs=mv::ms∧RV ρ n h S v mv∧RVs ρ n h S vs ms) rfl fun _ mv _ ms a b _=>⟨mv,ms,rfl,a,b⟩
theorem RVs.inv' {ρ:Loc→Addr×Addr} {n:Nat} {h:Heap} {S:Addr→Prop} {vs:List Value} {mvs:List V} (r:RVs ρ n h S vs mvs):List.casesOn (motive:=fun _=>Prop) mvs (vs=[]) fun mv ms=>∃ v ws,vs=v::ws∧RV ρ n h S v mv∧RVs ρ n h S ws ms:=
 r.ind (P:=fun vs mvs=>List.casesOn (motive:=fun _=>Prop) mvs (vs=[]) fun mv ms=>∃ v ws,vs=v::ws∧RV ρ n h S v mv∧RVs ρ n h S ws ms) rfl fun v _ ws _ a b _=>⟨v,ws,rfl,a,b⟩
theorem RVs.one {ρ:Loc→Addr×Addr} {n:Nat} {h:Heap} {S:Addr→Prop} {vs:List Value} {mvs:List V} (r:RVs ρ n h S vs mvs) {mv:V} (e:Mine.one mvs=some mv):∃ v,vs=[v]∧RV ρ n h S v mv:=by
 rw [wj e] at r
 obtain ⟨v,ws,e1,a,b⟩:=r.inv'
 rw [b.inv'] at e1
 exact ⟨v,e1,a⟩
theorem xR {α:Type} {f k:String} {v g:α} {t:List (String×α)} (h:((k,v)::t).lookup f=some g):(f=k∧v=g)∨t.lookup f=some g:=by
 rw [List.lookup_cons] at h
 by_cases q:f=k
 ·rw [q,beq_self_eq_true] at h;exact .inl ⟨q,Option.some.inj h⟩
 ·rw [beq_eq_false_iff_ne.mpr q] at h;exact .inr h
noncomputable def RVS (ρ:Loc→Addr×Addr) (n:Nat) (h:Heap) (S:Addr→Prop) (v:Value):V→Prop
 | .none=>v=.none
 | .bool b=>v=.bool b
 | .int i=>∃ t,v=.int i t
 | .str s=>∃ t,v=.str (sv s) t
 | .tup l=>∃ a o items k,v=.ref a∧h.get? a=some o∧o.cls=.type "tuple"∧o.data=.seq items k∧¬ S a∧RVs ρ n h S items.toList l
 | .flst l=>∃ a o items k,v=.ref a∧h.get? a=some o∧o.cls=.type "list"∧o.data=.seq items k∧¬ S a∧RVs ρ n h S items.toList l
 | .obj C fs=>∃ x d es k,v=.ref x∧h.get? x=some (instObj (CA C) d)∧¬ S x∧h.get? d=some (dictOf es k)∧¬ S d∧(∀ p∈fs,zG C p.1=true)∧RFs ρ n h S es fs
 | .ref l=>v=.ref (ρ l).1∧l.2.2 < n
theorem RV.s {ρ:Loc→Addr×Addr} {n:Nat} {h:Heap} {S:Addr→Prop} {v:Value} {mv:V} (r:RV ρ n h S v mv):RVS ρ n h S v mv:=by
 cases r with
 | none=>rfl
 | bool b=>rfl
 | int i t=>exact ⟨t,rfl⟩
 | str s t=>exact ⟨t,rfl⟩
 | tup e1 e2 e3 e4 e5=>exact ⟨_,_,_,_,rfl,e1,e2,e3,e4,e5⟩
 | flst e1 e2 e3 e4 e5=>exact ⟨_,_,_,_,rfl,e1,e2,e3,e4,e5⟩
 | obj e1 e2 e3 e4 e5 e6=>exact ⟨_,_,_,_,rfl,e1,e2,e3,e4,e5,e6⟩
 | ref hl=>exact ⟨rfl,hl⟩
section
variable {ρ:Loc→Addr×Addr} {n:Nat} {h:Heap} {S:Addr→Prop} {v:Value} {mv:V}
theorem RV.no {a:Unit} (r:RV ρ n h S v mv) (e:asN mv=some a):v=.none:=(JL e▸r).s
theorem RV.b {b:Bool} (r:RV ρ n h S v mv) (e:asB mv=some b):v=.bool b:=(ZQ e▸r).s
theorem RV.i {i:Int} (r:RV ρ n h S v mv) (e:asI mv=some i):∃ t,v=.int i t:=(GL e▸r).s
theorem RV.st {i:List Nat} (r:RV ρ n h S v mv) (e:asS mv=some i):∃ t,v=.str (sv i) t:=(GJ e▸r).s
theorem RV.t {l:List V} (r:RV ρ n h S v mv) (e:asT mv=some l):∃ a o items k,v=.ref a∧h.get? a=some o∧o.cls=.type "tuple"∧o.data=.seq items k∧¬ S a∧RVs ρ n h S items.toList l:=(GH e▸r).s
theorem RV.f {l:List V} (r:RV ρ n h S v mv) (e:asF mv=some l):∃ a o items k,v=.ref a∧h.get? a=some o∧o.cls=.type "list"∧o.data=.seq items k∧¬ S a∧RVs ρ n h S items.toList l:=(JM e▸r).s
theorem RV.o {p:String×List (String×V)} (r:RV ρ n h S v mv) (e:asO mv=some p):∃ x d es k,v=.ref x∧h.get? x=some (instObj (CA p.1) d)∧¬ S x∧h.get? d=some (dictOf es k)∧¬ S d∧(∀ q∈p.2,zG p.1 q.1=true)∧RFs ρ n h S es p.2:=(GK e▸r).s
theorem RV.r {l:Loc} (r:RV ρ n h S v mv) (e:asR mv=some l):v=.ref (ρ l).1∧l.2.2 < n:=(JK e▸r).s
end
theorem WS.ls {w:World} {σ:St} {ρ:Loc→Addr×Addr} {fr:List Addr} {h:Heap} (W:WS w σ ρ fr h) {l:Loc} {vs:List V} (e:lsA σ l=some vs):(ρ l).1=(ρ l).2∧∃ items k,h.get? (ρ l).2=some {cls:=.type "list",data:=.seq items k}∧RVs ρ σ.nx h (Mut σ ρ fr) items.toList vs:=(W.cells _ _ (xw e)).2
theorem WS.ds {w:World} {σ:St} {ρ:Loc→Addr×Addr} {fr:List Addr} {h:Heap} (W:WS w σ ρ fr h) {l:Loc} {d:List (List Nat×V)} (e:dsA σ l=some d):(ρ l).1=(ρ l).2∧∃ kvs,h.DictOf (PySem.strKind pw w) (ρ l).2 kvs∧RKs sv ρ σ.nx h (Mut σ ρ fr) kvs d:=(W.cells _ _ (wJ e)).2
theorem WS.di {w:World} {σ:St} {ρ:Loc→Addr×Addr} {fr:List Addr} {h:Heap} (W:WS w σ ρ fr h) {l:Loc} {d:List (Int×V)} (e:diA σ l=some d):(ρ l).1=(ρ l).2∧∃ kvs,h.DictOf (intKind pw w) (ρ l).2 kvs∧RKs id ρ σ.nx h (Mut σ ρ fr) kvs d:=(W.cells _ _ (jX e)).2
theorem WS.ins {w:World} {σ:St} {ρ:Loc→Addr×Addr} {fr:List Addr} {h:Heap} (W:WS w σ ρ fr h) {l:Loc} {p:String×List (String×V)} (e:inA σ l=some p):h.get? (ρ l).1=some (instObj (CA p.1) (ρ l).2)∧¬ Mut σ ρ fr (ρ l).1∧(∀ q∈p.2,zG p.1 q.1=true)∧∃ es k,h.get? (ρ l).2=some (dictOf es k)∧RFs ρ σ.nx h (Mut σ ρ fr) es p.2:=(W.cells _ _ (wF e)).2
structure Cur where
 σ:St
 ρ:Loc→Addr×Addr
 h:Heap
noncomputable def Cur.WS (w:World) (fr:List Addr) (c:Cur):Prop:=Mine.WS w c.σ c.ρ fr c.h
noncomputable def Cur.RV (fr:List Addr) (c:Cur) (v:Value) (mv:V):Prop:=Mine.RV c.ρ c.σ.nx c.h (Mut c.σ c.ρ fr) v mv
noncomputable def Cur.RVs (fr:List Addr) (c:Cur) (v:List Value) (mv:List V):Prop:=Mine.RVs c.ρ c.σ.nx c.h (Mut c.σ c.ρ fr) v mv
noncomputable def Cur.Ext (fr fk:List Addr) (c c':Cur):Prop:=Mine.Ext fr fk c.σ c.ρ c.h c'.σ c'.ρ c'.h
theorem Cur.Ext.trans {fr fk:List Addr} {a b c:Cur} (x:a.Ext fr fk b) (y:b.Ext fr fk c):a.Ext fr fk c:=Mine.Ext.trans x y
theorem Cur.Ext.refl {fr fk:List Addr} {a:Cur}:a.Ext fr fk a:=Mine.Ext.refl
theorem Cur.Ext.rv {fr fk:List Addr} {a b:Cur} {v:Value} {mv:V} (x:a.Ext fr fk b) (r:a.RV fr v mv):b.RV fr v mv:=Mine.Ext.rv x r
theorem Cur.Ext.rvs {fr fk:List Addr} {a b:Cur} {v:List Value} {mv:List V} (x:a.Ext fr fk b) (r:a.RVs fr v mv):b.RVs fr v mv:=Mine.Ext.rvs x r
theorem Cur.Ext.weak {fr fk fk':List Addr} {a b:Cur} (x:a.Ext fr fk b) (h:∀ y∈fk',y∈fk):a.Ext fr fk' b:=⟨x.nx,x.ag,x.keep,x.mt,fun y hy=>x.frk y (h y hy),x.al⟩
noncomputable def frs (l:List Env):List Addr:=l.filterMap (·.frame)
noncomputable def Stk (l:List Env) (h:Heap):Prop:=∀ e∈l,e.scope.kind≠.module∧∃ L o,e.frame=some L∧h.get? L=some o∧∀ vs,o.data≠.fields vs
noncomputable def yD (fk:List Addr) (h h':Heap):Prop:=∀ b∈fk,∀ o,h.get? b=some o→∃ sl,h'.get? b=some {o with slots:=sl}
structure Fc where
 w:World
 A:Around
 env:Env
 N:Addr
 fk:List Addr
 st:List Env
noncomputable def Fc.fr (K:Fc):List Addr:=K.N::K.fk
structure J0 (A:Around) (d:Nat):Prop where
 depth:A.depth+d < 990
 units:A.units+12 * d+200 < 9900
structure Fc.Ok (K:Fc) (d:Nat):Prop where
 kind:K.env.scope.kind=.function
 loc:K.env.locals=K.N
 glob:K.env.globals=mainGlobals
 blt:K.env.builtins=builtinsNs
 frames:K.A.frames=some K.st
 hand:K.A.handled=none
 room:J0 K.A d
structure Fc.In (K:Fc) (c:Cur) (m:Str→Option Value) (s:Shared):Prop where
 heap:s.heap=c.h
 ws:c.WS K.w K.fr
 ns:s.heap.Ns K.N m
 stk:Stk K.st s.heap
 sub:∀ b∈frs K.st,b∈K.fr
 apart:K.N∉K.fk
 there:jr K.fr c.h
theorem Stk.upd {K:Fc} {h h':Heap} {m:Str→Option Value} (x:Stk K.st h) (sub:∀ b∈frs K.st,b∈K.fr) (n:h'.Ns K.N m) (k:∀ b∈K.fk,∀ o,h.get? b=some o→∃ sl,h'.get? b=some {o with slots:=sl}):Stk K.st h':=fun e he=>by
 obtain ⟨a,L,o,b,c,d⟩:=x e he
 rcases List.mem_cons.mp (sub L (List.mem_filterMap.mpr ⟨e,he,b⟩)) with rfl | q
 ·obtain ⟨o',es,ep,e1,e2,_⟩:=n
  exact ⟨a,_,o',b,e1,fun vs h=>by rw [e2] at h;cases h⟩
 ·obtain ⟨sl,z⟩:=k L q o c
  exact ⟨a,L,_,b,z,d⟩
inductive Fc.LQ (K:Fc) (c:Cur) (s:Shared) (m:Str→Option Value) (Q:V→St→Prop) (v:Value) (s':Shared):Prop
 | mk (mv:V) (c':Cur):Q mv c'.σ→K.In c' m s'→c.Ext K.fr K.fk c'→c'.RV K.fr v mv→s'.gens=s.gens→s'.os=s.os→Fc.LQ K c s m Q v s'
theorem Fc.LQ.el {K:Fc} {c:Cur} {s:Shared} {m:Str→Option Value} {Q:V→St→Prop} {v:Value} {s':Shared} {P:Prop} (x:Fc.LQ K c s m Q v s') (k:∀ (mv:V) (c':Cur),Q mv c'.σ→K.In c' m s'→c.Ext K.fr K.fk c'→c'.RV K.fr v mv→s'.gens=s.gens→s'.os=s.os→P):P:=x.casesOn k
inductive Fc.LX (K:Fc) (c:Cur) (s:Shared) (m:Str→Option Value) (X:String→St→Prop) (e:Value) (s':Shared):Prop
 | mk (C:String) (a0:Value) (ea:Addr) (c':Cur):e=.ref ea→X C c'.σ→Heap.FlyingW c'.h K.st ea (.ref (CA C)) a0 s'.heap→c'.WS K.w K.fr→xu K.fr c.σ c.ρ c.h c'.σ c'.ρ c'.h→y7 (frs K.st) K.fk c.h c'.h→yD K.fk c.h s'.heap→s'.heap.Ns K.N m→s'.gens=s.gens→s'.os=s.os→Fc.LX K c s m X e s'
theorem Fc.LX.el {K:Fc} {c:Cur} {s:Shared} {m:Str→Option Value} {X:String→St→Prop} {e:Value} {s':Shared} {P:Prop} (x:Fc.LX K c s m X e s') (k:∀ (C:String) (a0:Value) (ea:Addr) (c':Cur),e=.ref ea→X C c'.σ→Heap.FlyingW c'.h K.st ea (.ref (CA C)) a0 s'.heap→c'.WS K.w K.fr→xu K.fr c.σ c.ρ c.h c'.σ c'.ρ c'.h→y7 (frs K.st) K.fk c.h c'.h→yD K.fk c.h s'.heap→s'.heap.Ns K.N m→s'.gens=s.gens→s'.os=s.os→P):P:=x.casesOn k
theorem yD.trans {fk:List Addr} {a b c:Heap} (x:yD fk a b) (y:yD fk b c):yD fk a c:=fun z hz o e=>by
 obtain ⟨sl,e'⟩:=x z hz o e;obtain ⟨sl',e''⟩:=y z hz _ e';exact ⟨sl',e''⟩
noncomputable def Fc.EV (K:Fc) (t:Sem Value) (c:Cur) (m:Str→Option Value) (s:Shared) (Q:V→St→Prop) (X:String→St→Prop):Prop:=
 wpAny (model pw K.w) K.A t (K.LQ c s m Q) (K.LX c s m X) s
section
variable {K:Fc} {c c':Cur} {m m':Str→Option Value} {s s':Shared} {Q Q':V→St→Prop} {X:String→St→Prop}
theorem Fc.LX.from {e:Value} {s'':Shared} (x:K.LX c' s' m X e s'') (E:c.Ext K.fr K.fk c') (g:s'.gens=s.gens) (o:s'.os=s.os):K.LX c s m X e s'':=by
 obtain ⟨C,a0,ea,c2,e1,e2,e3,e4,e5,ea',e6,e7,e8,e9⟩:=x
 exact ⟨C,a0,ea,c2,e1,e2,e3,e4,(Ext.core E).trans e5,y7.before ea' E,yD.trans E.frk e6,e7,e8.trans g,e9.trans o⟩
theorem Fc.LQ.from {v:Value} {s'':Shared} (x:K.LQ c' s' m Q v s'') (E:c.Ext K.fr K.fk c') (g:s'.gens=s.gens) (o:s'.os=s.os):K.LQ c s m Q v s'':=by
 obtain ⟨mv,c2,e1,e2,e3,e4,e5,e6⟩:=x
 exact ⟨mv,c2,e1,e2,E.trans e3,e4,e5.trans g,e6.trans o⟩
theorem Fc.In.stay (I:K.In c m s) {mv:V} {v:Value} (q:Q mv c.σ) (r:c.RV K.fr v mv) {tk:Nat}:K.LQ c s m Q v {s with toks:=tk}:=
 ⟨mv,c,q,⟨I.heap,I.ws,I.ns,I.stk,I.sub,I.apart,I.there⟩,.refl,r,rfl,rfl⟩
end
theorem y6 (x:String):Str.ofString x=sv (x.toList.map Char.toNat):=by rw [Str.ofString_eq_byList];rfl
theorem YO {a b:Char} (h:a.toNat=b.toNat):a=b:=Char.ext (UInt32.toNat_inj.mp h)
theorem uD {a b:List Nat} (h:sv a=sv b):a=b:=by
 have:=congrArg (fun z=>z.cps.toList) h
 simpa [sv] using this
theorem j5 {a b:String} (h:Str.ofString a=Str.ofString b):a=b:=by
 rw [y6,y6] at h
 have:=uD h
 exact String.toList_inj.mp ((List.map_inj_right (fun _ _=>YO)).mp this)
theorem xh (k n:String) (t:Tok):(Value.str (Str.ofString k) t).isStr (Str.ofString n)=decide (k=n):=by
 show (Str.ofString k==Str.ofString n)=_
 by_cases h:k=n
 ·subst h;simp
 ·rw [decide_eq_false h];exact beq_eq_false_iff_ne.mpr fun e=>h (j5 e)
theorem RFs.find {ρ n h S} {x:String}:∀ {es:List DictEntry} {fs:List (String×V)},RFs ρ n h S es fs→match fs.lookup x with
  | some mv=>∃ v,getL (Str.ofString x) es=some (some v)∧RV ρ n h S v mv
  | none=>getL (Str.ofString x) es=some none
 | _,_,.nil=>by simp [getL]
 | _,_,@RFs.cons _ _ _ _ hs k t v mv es fs r rs=>by
  have ih:=RFs.find (x:=x) rs
  by_cases q:x=k
  ·subst q
   simp only [List.lookup_cons,beq_self_eq_true]
   exact ⟨v,by simp [getL,xh],r⟩
  ·rw [List.lookup_cons,beq_eq_false_iff_ne.mpr q]
   have e:getL (Str.ofString x) (⟨hs,.str (Str.ofString k) t,v⟩::es)=getL (Str.ofString x) es:=by
    simp [getL,xh,decide_eq_false (Ne.symm q),DictEntry.refKey]
   simp only [e]
   exact ih
theorem JJ {C k:String} (h:zG C k=true) (P:Params):ZP (KF P) (CA C) (Str.ofString k)=true:=by
 unfold zG at h
 obtain ⟨l,hl,hk⟩:∃ l,v8.lookup C=some l∧l.contains k=true:=by
  cases q:v8.lookup C with
  | none=>rw [q] at h;cases h
  | some l=>rw [q] at h;exact ⟨l,rfl,h⟩
 have A:=List.all_eq_true.mp (VU P)
 have m:(C,l)∈v8:=by
  have:∀ (t:List (String×List String)),t.lookup C=some l→(C,l)∈t:=by
   intro t
   induction t with
   | nil=>intro h;cases h
   | cons p t ih=>
    intro h
    rw [List.lookup_cons] at h
    by_cases q:C=p.1
    ·subst q;simp only [beq_self_eq_true,Option.some.injEq] at h;subst h;exact .head _
    ·rw [beq_eq_false_iff_ne.mpr q] at h;exact .tail _ (ih h)
  exact this _ hl
 exact List.all_eq_true.mp (A _ m) k (List.contains_iff_mem.mp hk)
noncomputable def zm (σ:St) (v:V) (n:String):Option V:=oO (bd (asO v) fun p=>p.2.lookup n) (bd (asR v) fun l=>bd (inA σ l) fun p=>p.2.lookup n)
section
variable {K:Fc} {d:Nat} {c c':Cur} {m m':Str→Option Value} {s s':Shared} {Q Q':V→St→Prop} {X:String→St→Prop}
theorem kh {fs:List (String×V)} {n:String} {u:V} (h:fs.lookup n=some u):(n,u)∈fs:=by
 induction fs with
 | nil=>cases h
 | cons p t ih=>
  rw [List.lookup_cons] at h
  by_cases q:n=p.1
  ·subst q;simp only [beq_self_eq_true,Option.some.injEq] at h;subst h;exact .head _
  ·rw [beq_eq_false_iff_ne.mpr q] at h;exact .tail _ (ih h)
theorem Ke {ρ n h S} {v:Value} {mv:V} (r:RV ρ n h S v mv):handedIn v=true:=by cases r <;> rfl
theorem kq (I:K.In c m s) {x d:Addr} {C n:String} {es:List DictEntry} {k:Nat} {fs:List (String×V)} {u:V} {e:Bool}
  (e1:s.heap.get? x=some (instObj (CA C) d)) (e3:s.heap.get? d=some (dictOf es k)) (ok:∀ p∈fs,zG C p.1=true) (r:RFs c.ρ c.σ.nx c.h (Mut c.σ c.ρ K.fr) es fs)
  (hu:fs.lookup n=some u) (q:Q u c.σ):K.EV (getAttr (.ref x) (Str.ofString n) e) c m s Q X:=by
 have F:=RFs.find (x:=n) r
 rw [hu] at F
 obtain ⟨v,g,rv⟩:=F
 have ao:=JJ (ok _ (kh hu)) K.w.params
 unfold ZP at ao
 simp only [Bool.and_eq_true,beq_iff_eq] at ao
 obtain ⟨⟨⟨⟨⟨a1,a2⟩,a3⟩,a4⟩,a5⟩,a6⟩:=ao
 have Xk:(KF K.w.params).In s.heap:=ua (I.heap▸I.ws.base)
 split at a3
 ·rename_i attr ha
  refine get_value Xk ⟨e1,rfl,rfl,e3⟩ (plainGet_of a1).1 (findObj_own (od:=dictOf es k) a2 ha a3 g) (Ke rv) ?_
  exact I.stay q rv
 ·cases a3
theorem gG (I:K.In c m s) {v:Value} {mv u:V} {n:String} {e:Bool} (r:c.RV K.fr v mv) (hu:zm c.σ mv n=some u) (q:Q u c.σ):K.EV (getAttr v (Str.ofString n) e) c m s Q X:=by
 rcases zK hu with hu | hu
 ·obtain ⟨p,hp,hu⟩:=zc hu
  obtain ⟨x,d,es,k,rfl,e1,e2,e3,e4,e5,e6⟩:=r.o hp
  exact kq I (I.heap▸e1) (I.heap▸e3) e5 e6 hu q
 ·obtain ⟨l,hl,hu⟩:=zc hu
  obtain ⟨p,hp,hu⟩:=zc hu
  obtain ⟨rfl,_⟩:=r.r hl
  obtain ⟨e1,e2,e5,es,k,e3,e4⟩:=I.ws.ins hp
  exact kq I (I.heap▸e1) (I.heap▸e3) e5 e4 hu q
end
end
section
open PySem PySem.Calls PySem.W PyProof.Rows Builtin Builtin.ObjectAttr
noncomputable def yo (n:String) (u:V) (F:List (String×V)):List (String×V):=List.rec [(n,u)] (fun p r ih=>Prod.rec (fun k w=>Bool.rec ((k,w)::ih) ((n,u)::r) (k==n)) p) F
theorem hV {n:String} {u:V} {p:String×V} {r:List (String×V)}:yo n u (p::r)=if p.1=n then (n,u)::r else p::yo n u r:=by
 show Bool.rec (motive:=fun _=>List (String×V)) (p::yo n u r) ((n,u)::r) (p.1==n)=_
 by_cases h:p.1=n
 ·rw [if_pos h,beq_iff_eq.mpr h]
 ·rw [if_neg h,beq_eq_false_iff_ne.mpr h]
theorem RFs.put {ρ n h S} {x:String} {hs:Int} {t:Tok} {v:Value} {u:V} (r:RV ρ n h S v u):∀ {es:List DictEntry} {fs:List (String×V)},RFs ρ n h S es fs→RFs ρ n h S (putL (Str.ofString x) hs (.str (Str.ofString x) t) v es) (yo x u fs)
 | _,_,.nil=>.cons r .nil
 | _,_,@RFs.cons _ _ _ _ hs' k t' v' mv es fs r' rs=>by
  unfold putL
  rw [xh,hV]
  by_cases q:k=x
  ·subst q;simp only [decide_true,if_true];exact .cons r rs
  ·rw [decide_eq_false q,if_neg q];exact .cons r' (RFs.put r rs)
theorem Y9 {n:String} {u:V}:∀ {fs:List (String×V)} {p:String×V},p∈yo n u fs→p∈fs∨p=(n,u)
 | [],p,h=>.inr (List.mem_singleton.mp h)
 | q::r,p,h=>by
  rw [hV] at h
  by_cases e:q.1=n
  ·rw [if_pos e] at h
   rcases List.mem_cons.mp h with h | h
   ·exact .inr h
   ·exact .inl (.tail _ h)
  ·rw [if_neg e] at h
   rcases List.mem_cons.mp h with h | h
   ·exact .inl (h▸.head _)
   ·exact (Y9 h).imp (.tail _) id
theorem RFs.len {ρ n h S}:∀ {es:List DictEntry} {fs:List (String×V)},RFs ρ n h S es fs→es.length=fs.length
 | _,_,.nil=>rfl
 | _,_,.cons _ r=>by simp [RFs.len r]
noncomputable def zO (σ:St) (v:V) (n:String) (u:V):Option St:=bd (asR v) fun l=>bd (inA σ l) fun p=>if ((p.2.lookup n).isSome||zG p.1 n)=true∧p.2.length < 64 then some (σ.set l (.inst p.1 (yo n u p.2))) else none
theorem xI {α:Type} {p:Prop} [Decidable p] {a b:α} (h:(if p then some a else none)=some b):p∧a=b:=by
 by_cases q:p
 ·rw [if_pos q] at h;exact ⟨q,Option.some.inj h⟩
 ·rw [if_neg q] at h;cases h
inductive Fc.LU (K:Fc) (c:Cur) (s:Shared) (m:Str→Option Value) (Q:St→Prop) (s':Shared):Prop
 | mk (c':Cur):Q c'.σ→K.In c' m s'→c.Ext K.fr K.fk c'→s'.gens=s.gens→s'.os=s.os→Fc.LU K c s m Q s'
theorem Fc.LU.el {K:Fc} {c:Cur} {s:Shared} {m:Str→Option Value} {Q:St→Prop} {s':Shared} {P:Prop} (x:Fc.LU K c s m Q s') (k:∀ (c':Cur),Q c'.σ→K.In c' m s'→c.Ext K.fr K.fk c'→s'.gens=s.gens→s'.os=s.os→P):P:=x.casesOn k
noncomputable def Fc.EU (K:Fc) (t:Sem Unit) (c:Cur) (m:Str→Option Value) (s:Shared) (Q:St→Prop) (X:String→St→Prop):Prop:=
 wpAny (model pw K.w) K.A t (fun _=>K.LU c s m Q) (K.LX c s m X) s
theorem Mu {K:Fc} {c:Cur} {m:Str→Option Value} {s:Shared} (I:K.In c m s) {l:Loc} {cl:zu} (h:c.σ.m l=some cl):(c.ρ l).2≠K.N:=fun e=>I.ws.sep _ _ h (e▸.head _)
theorem Fc.In.turn {K:Fc} {c:Cur} {m:Str→Option Value} {s:Shared} (I:K.In c m s) {l:Loc} {cl cl':zu} (h:c.σ.m l=some cl) {h':Heap} (hs:Heap.SameBut (c.ρ l).2 c.h h')
  (hc:yi K.w c.ρ c.σ.nx h' (Mut c.σ c.ρ K.fr) (c.ρ l) cl') (tk:Nat) {Q:St→Prop} (q:Q (c.σ.set l cl')):K.LU c s m Q {s with heap:=h',toks:=tk}:=by
 obtain ⟨W,E⟩:=WS.set (fk:=K.fk) I.ws h (fun b hb=>.tail _ hb) hs hc
 have N:h'.Ns K.N m:=(I.heap▸I.ns:c.h.Ns K.N m).sameBut hs (Ne.symm (Mu I h))
 exact ⟨⟨_,c.ρ,h'⟩,q,⟨rfl,W,N,I.stk.upd I.sub N fun b hb o e=>E.frk b hb o (I.heap▸e),I.sub,I.apart,I.there.up E.al⟩,E,rfl,rfl⟩
theorem JT {w:World} {A:Around} {E:Value→Shared→Prop} {s:Shared} {Kf:Frag} {x C d:Addr} {name:Str} {tk:Tok} {v:Value} {b:Bool} {es:List DictEntry} {k:Nat} {Q:Fin→Shared→Prop}
  (X:Kf.In s.heap) (hx:s.heap.get? x=some (instObj C d)) (hd:s.heap.get? d=some (dictOf es k)) (hh:hasDictIn Kf C=true) (hl:(getL name es).isSome=true) (hz:es.length≤1000)
  (h:Q (.done (.ret .none)) {s with heap:=s.heap.update d (Obj.putName name (PyData.keyHash w.params name) (.str name s.toks) v),toks:=s.toks+1}):
  wpAny (model pw w) A (storeInOwnDict (.ref x) (.ref C) (.str name tk) name v b) Q E s:=by
 obtain ⟨cd,hc,hd'⟩:=any_some hh
 have D':=Heap.get?_update_self (Obj.putName name (PyData.keyHash w.params name) (.str name s.toks) v) hd (by rw [putName_dict];rfl)
 refine wpAny_bind (wpAny_pure (wpAny_bind (wpAny_bind (wpAny_loadPart hx (wpAny_bind ((looks_clsIn X hc).here ?_))))))
 rw [hd']
 refine wpAny_pure (a:=some d) (wpAny_bind (wpAny_pure (wpAny_bind ?_)))
 unfold nsSet
 refine wpAny_bind (wpAny_bind (wpAny_askSetting (wpAny_pure (wpAny_bind (wpAny_mkText (wpAny_bind (wpAny_loadPart hd ?_)))))))
 have cc:(!es.toArray.any (·.key.isStr name)&&es.toArray.any (·.refKey))=false:=by
  rw [← Array.any_toList,← Array.any_toList]
  unfold getL at hl
  split at hl
  ·rename_i en he
   have:(es.any fun x=>x.key.isStr name)=true:=List.any_eq_true.mpr ⟨en,List.mem_of_find?_eq_some he,by simpa using List.find?_some he⟩
   simp [this]
  ·split at hl
   ·cases hl
   ·rename_i z;simp only [Bool.not_eq_true] at z;simp [z]
 dsimp only
 rw [aRefKeyMayBeTheName_at,cc]
 refine wpAny_updatePart hd ?_
 refine wpAny_bind (wpAny_lookBehind D' ?_ (wpAny_pure h))
 rw [putName_dict]
 refine pastItsLine_dict ?_
 rw [List.size_toArray,sizeLine_eq]
 have:(putL name (PyData.keyHash w.params name) (.str name s.toks) v es).length≤es.length+1:=by
  generalize PyData.keyHash w.params name=hs
  generalize Value.str name s.toks=kk
  clear hz hl cc D' hd h
  induction es with
  | nil=>exact Nat.le_refl _
  | cons e r ih=>unfold putL;split <;> simp only [List.length_cons] <;> omega
 omega
section
variable {K:Fc} {d:Nat} {c c':Cur} {m m':Str→Option Value} {s s':Shared} {Q:St→Prop} {X:String→St→Prop}
theorem gD (I:K.In c m s) {v x:Value} {mv u:V} {n:String} {σ':St} (r:c.RV K.fr v mv) (ru:c.RV K.fr x u) (hu:zO c.σ mv n u=some σ') (q:Q σ'):K.EU (setAttr v (Str.ofString n) x) c m s Q X:=by
 obtain ⟨l,hl,hu⟩:=zc hu
 obtain ⟨⟨C,f⟩,hc,hu⟩:=zc hu
 obtain ⟨hcond,rfl⟩:=xI hu
 obtain ⟨rfl,_⟩:=r.r hl
 obtain ⟨e1,e2,e5,es,k,e3,e4⟩:=I.ws.ins hc
 have fo:zG C n=true:=by
  rcases Bool.or_eq_true_iff.mp hcond.1 with h | h
  ·cases g:f.lookup n with
   | none=>rw [g] at h;cases h
   | some z=>exact e5 _ (kh g)
  ·exact h
 have ao:=JJ fo K.w.params
 unfold ZP at ao
 simp only [Bool.and_eq_true,beq_iff_eq] at ao
 obtain ⟨⟨⟨⟨⟨a1,a2⟩,a3⟩,a4⟩,a5⟩,a6⟩:=ao
 have Xk:(KF K.w.params).In s.heap:=ua (I.heap▸I.ws.base)
 have gs:(getL (Str.ofString n) es).isSome=true:=by
  have F:=RFs.find (x:=n) e4
  split at F
  ·obtain ⟨v,g,_⟩:=F;rw [g];rfl
  ·rw [F];rfl
 refine set_plain (od:=some (dictOf es k)) Xk ⟨I.heap▸e1,rfl,rfl,I.heap▸e3⟩ a4 ?_
 refine osa_open (od:=some (dictOf es k)) Xk ⟨I.heap▸e1,rfl,rfl,I.heap▸e3⟩ a5 a6 fun b=>?_
 refine JT Xk (I.heap▸e1) (I.heap▸e3) a2 gs (by rw [e4.len];omega) ?_
 have hs:Heap.SameBut (c.ρ l).2 c.h (c.h.update (c.ρ l).2 (Obj.putName (Str.ofString n) (PyData.keyHash K.w.params (Str.ofString n)) (.str (Str.ofString n) (s.toks+1)) x)):=Heap.SameBut.update ..
 have D':=Heap.get?_update_self (Obj.putName (Str.ofString n) (PyData.keyHash K.w.params (Str.ofString n)) (.str (Str.ofString n) (s.toks+1)) x) e3 (by rw [putName_dict];rfl)
 rw [putName_dict] at D'
 have keep:∀ b o,c.h.get? b=some o→¬ Mut c.σ c.ρ K.fr b→(c.h.update (c.ρ l).2 (Obj.putName (Str.ofString n) (PyData.keyHash K.w.params (Str.ofString n)) (.str (Str.ofString n) (s.toks+1)) x)).get? b=some o∧¬ Mut c.σ c.ρ K.fr b:=
  fun b o e nn=>⟨(hs.2 b fun z=>nn (z▸.inl ⟨l,_,wF hc,rfl⟩)).trans e,nn⟩
 have T:=I.turn (wF hc) (cl':=.inst C (yo n u f)) hs ?_ (s.toks+2) q
 ·rw [← I.heap] at T
  exact T
 ·refine ⟨(keep _ _ e1 e2).1,e2,fun p hp=>?_,_,_,D',?_⟩
  ·rcases Y9 hp with hp | rfl
   ·exact e5 _ hp
   ·exact fo
  ·exact (RFs.put ru e4).mono (Nat.le_refl _) (fun _ _=>rfl) keep
end
end
section
open PySem PySem.Calls PySem.W PyProof.Rows
section
variable {K:Fc} {d:Nat} {c c':Cur} {m m':Str→Option Value} {s s':Shared} {Q:V→St→Prop} {X:String→St→Prop}
theorem Fc.In.grow (I:K.In c m s) {h':Heap} (k:∀ b o,c.h.get? b=some o→h'.get? b=some o) (tk:Nat):
  K.In ⟨c.σ,c.ρ,h'⟩ m {s with heap:=h',toks:=tk}∧c.Ext K.fr K.fk ⟨c.σ,c.ρ,h'⟩:=by
 have E:c.Ext K.fr K.fk ⟨c.σ,c.ρ,h'⟩:=Ext.up k
 have N:h'.Ns K.N m:=(I.heap▸I.ns:c.h.Ns K.N m).keeps k
 exact ⟨⟨rfl,I.ws.up k,N,I.stk.upd I.sub N fun b hb o e=>E.frk b hb o (I.heap▸e),I.sub,I.apart,I.there.up E.al⟩,E⟩
theorem Fc.In.frozen (I:K.In c m s) (o:Obj) {mv:V} (q:Q mv c.σ) (tk:Nat)
  (r:∀ h',(∀ b o,c.h.get? b=some o→h'.get? b=some o)→h'.get? c.h.objs.size=some o→¬ Mut c.σ c.ρ K.fr c.h.objs.size→RV c.ρ c.σ.nx h' (Mut c.σ c.ρ K.fr) (.ref c.h.objs.size) mv) (hf:o.isFreed=false:=by rfl):
  K.LQ c s m Q (.ref s.heap.objs.size) {s with heap:=s.heap.push o,toks:=tk}:=by
 obtain ⟨I',E⟩:=I.grow (h':=c.h.push o) (fun b o' e=>Heap.get?_push_of_some _ e) tk
 refine ⟨mv,⟨c.σ,c.ρ,c.h.push o⟩,q,?_,E,?_,rfl,rfl⟩
 ·rw [I.heap];exact I'
 ·rw [I.heap]
  exact r _ (fun b o' e=>Heap.get?_push_of_some _ e) (Heap.get?_push_size _ hf) fun z=>Nat.lt_irrefl _ (I.ws.mt_lt I.there z)
theorem RVs.grow {fr:List Addr} {σ:St} {ρ:Loc→Addr×Addr} {h h':Heap} {vs:List Value} {mvs:List V} (r:RVs ρ σ.nx h (Mut σ ρ fr) vs mvs) (k:∀ b o,h.get? b=some o→h'.get? b=some o):RVs ρ σ.nx h' (Mut σ ρ fr) vs mvs:=
 r.mono (Nat.le_refl _) (fun _ _=>rfl) fun b o e n=>⟨k b o e,n⟩
theorem RVs.len {ρ n h S}:∀ {vs:List Value} {mvs:List V},RVs ρ n h S vs mvs→vs.length=mvs.length
 | _,_,.nil=>rfl
 | _,_,.cons _ r=>by simp [RVs.len r]
theorem Fc.In.newLst (I:K.In c m s) {vs:Array Value} {mvs:List V} (k:Nat) (r:c.RVs K.fr vs.toList mvs) (q:Q (.ref (c.σ.loc k)) (c.σ.new k (.lst mvs))) (tk:Nat):
  K.LQ c s m Q (.ref s.heap.objs.size) {s with heap:=s.heap.push {cls:=.type "list",data:=.seq vs},toks:=tk}:=by
 have kk:∀ b o,c.h.get? b=some o→(c.h.push {cls:=.type "list",data:=.seq vs}).get? b=some o:=fun b o e=>Heap.get?_push_of_some _ e
 have fresh:∀ b o,c.h.get? b=some o→b≠c.h.objs.size:=fun b o e q=>Nat.lt_irrefl _ (q▸Heap.lt_size e)
 obtain ⟨W,E⟩:=WS.new (fk:=K.fk) (k:=k) (c:=.lst mvs) (p:=(c.h.objs.size,c.h.objs.size)) I.ws I.there kk (Nat.le_refl _)
  ⟨rfl,vs,0,Heap.get?_push_size _ rfl,by
   refine RVs.mono (Nat.le_succ _) (fun l hl=>if_neg fun z=>?_) (fun b o e n=>⟨kk b o e,fun z=>z.elim (fresh b o e) n⟩) r
   rw [z] at hl;exact Nat.lt_irrefl _ hl⟩
 refine ⟨_,⟨_,_,c.h.push {cls:=.type "list",data:=.seq vs}⟩,q,⟨by rw [I.heap],W,I.ns.push _,?_,I.sub,I.apart,I.there.up E.al⟩,E,?_,rfl,rfl⟩
 ·rw [I.heap];exact I.stk.upd I.sub (I.heap▸I.ns.push _) fun b hb o e=>E.frk b hb o (I.heap▸e)
 ·have:(Value.ref s.heap.objs.size)=.ref ((fun l=>if l=c.σ.loc k then (c.h.objs.size,c.h.objs.size) else c.ρ l) (c.σ.loc k)).1:=by simp [I.heap]
  show RV _ _ _ _ (Value.ref s.heap.objs.size) _
  rw [this]
  exact .ref (Nat.lt_succ_self _)
theorem XK (I:K.In c m s) {vs:List Value} {mvs:List V} (k:Nat) (r:c.RVs K.fr vs mvs) (hz:mvs.length≤1000000) (q:Q (.ref (c.σ.loc k)) (c.σ.new k (.lst mvs))):K.EV (newList vs) c m s Q X:=
 wpAny_newObj_type (I.newLst k (vs:=vs.toArray) r q s.toks) (by show vs.toArray.size≤sizeLine;rw [List.size_toArray,r.len,sizeLine_eq];omega)
end
inductive Bop where
 | add | sub | mul | mod
inductive Cop where
 | eq | ne | lt | le | gt | ge | isin | notin | is_
inductive E where
 | k (v:V)
 | neg (i:Int)
 | x (n:String)
 | g (n:String)
 | at (e:E) (n:String)
 | ix (e i:E)
 | sl (k:Nat) (e:E) (l u:E)
 | bin (k:Nat) (o:Bop) (a b:E)
 | cmp (o:Cop) (a b:E)
 | cmp2 (o p:Cop) (a b c:E)
 | and (a b:E)
 | or (a b:E)
 | not (a:E)
 | ite (t a b:E)
 | tup (es:List E)
 | lst (k:Nat) (es:List E)
 | dct (k:Nat) (iK:Bool) (es:List E)
 | call (f:String) (es:List E)
 | new (k:Nat) (C:String) (es:List E)
 | bi (k:Nat) (f:String) (es:List E)
 | me (k:Nat) (o:E) (n:String) (es:List E)
 | comp (k:Nat) (elt:E) (tg:List String) (it:E)
noncomputable def Bop.op:Bop→Operator | .add=>.Add | .sub=>.Sub | .mul=>.Mult | .mod=>.Mod
noncomputable def Cop.op:Cop→CmpOp | .eq=>.Eq | .ne=>.NotEq | .lt=>.Lt | .le=>.LtE | .gt=>.Gt | .ge=>.GtE | .isin=>.In | .notin=>.NotIn | .is_=>.Is
theorem zk {P:Prop} (h:false=true):P:=nomatch h
noncomputable def w7 (f:Const→Nat→Pos→Bool) (x:PySem.Expr):Bool:=by induction x using PySem.Expr.casesOn with | Constant c k p=>exact f c k p | _=>exact false
theorem w7.el {f:Const→Nat→Pos→Bool} {P:PySem.Expr→Prop} (k:∀ (c:Const) (k0:Nat) (p:Pos),f c k0 p=true→P (.Constant c k0 p)) {x:PySem.Expr}:w7 f x=true→P x:=by induction x using PySem.Expr.casesOn with | Constant=>exact k _ _ _ | _=>exact zk
noncomputable def xUn (f:UnaryOp→Expr→Pos→Bool) (x:PySem.Expr):Bool:=by induction x using PySem.Expr.casesOn with | UnaryOp o x p=>exact f o x p | _=>exact false
theorem xUn.el {f:UnaryOp→Expr→Pos→Bool} {P:PySem.Expr→Prop} (k:∀ (o:UnaryOp) (x:Expr) (p:Pos),f o x p=true→P (.UnaryOp o x p)) {x:PySem.Expr}:xUn f x=true→P x:=by induction x using PySem.Expr.casesOn with | UnaryOp=>exact k _ _ _ | _=>exact zk
noncomputable def yK (f:Str→Pos→Bool) (x:PySem.Expr):Bool:=by induction x using PySem.Expr.casesOn with | Name s p=>exact f s p | _=>exact false
theorem yK.el {f:Str→Pos→Bool} {P:PySem.Expr→Prop} (k:∀ (s:Str) (p:Pos),f s p=true→P (.Name s p)) {x:PySem.Expr}:yK f x=true→P x:=by induction x using PySem.Expr.casesOn with | Name=>exact k _ _ | _=>exact zk
noncomputable def uw (f:Expr→Str→Pos→Bool) (x:PySem.Expr):Bool:=by induction x using PySem.Expr.casesOn with | Attribute o s p=>exact f o s p | _=>exact false
theorem uw.el {f:Expr→Str→Pos→Bool} {P:PySem.Expr→Prop} (k:∀ (o:Expr) (s:Str) (p:Pos),f o s p=true→P (.Attribute o s p)) {x:PySem.Expr}:uw f x=true→P x:=by induction x using PySem.Expr.casesOn with | Attribute=>exact k _ _ _ | _=>exact zk
noncomputable def qX (f:Expr→Expr→Pos→Bool) (x:PySem.Expr):Bool:=by induction x using PySem.Expr.casesOn with | Subscript o j p=>exact f o j p | _=>exact false
theorem qX.el {f:Expr→Expr→Pos→Bool} {P:PySem.Expr→Prop} (k:∀ (o:Expr) (j:Expr) (p:Pos),f o j p=true→P (.Subscript o j p)) {x:PySem.Expr}:qX f x=true→P x:=by induction x using PySem.Expr.casesOn with | Subscript=>exact k _ _ _ | _=>exact zk
noncomputable def U6 (f:Option Expr→Option Expr→Option Expr→Pos→Bool) (x:PySem.Expr):Bool:=by induction x using PySem.Expr.casesOn with | Slice a b c p=>exact f a b c p | _=>exact false
theorem U6.el {f:Option Expr→Option Expr→Option Expr→Pos→Bool} {P:PySem.Expr→Prop} (k:∀ (a:Option Expr) (b:Option Expr) (c:Option Expr) (p:Pos),f a b c p=true→P (.Slice a b c p)) {x:PySem.Expr}:U6 f x=true→P x:=by induction x using PySem.Expr.casesOn with | Slice=>exact k _ _ _ _ | _=>exact zk
noncomputable def Ua (f:Expr→Operator→Expr→Pos→Bool) (x:PySem.Expr):Bool:=by induction x using PySem.Expr.casesOn with | BinOp l o r p=>exact f l o r p | _=>exact false
theorem Ua.el {f:Expr→Operator→Expr→Pos→Bool} {P:PySem.Expr→Prop} (k:∀ (l:Expr) (o:Operator) (r:Expr) (p:Pos),f l o r p=true→P (.BinOp l o r p)) {x:PySem.Expr}:Ua f x=true→P x:=by induction x using PySem.Expr.casesOn with | BinOp=>exact k _ _ _ _ | _=>exact zk
noncomputable def X9 (f:Expr→List CmpOp→List Expr→Pos→Bool) (x:PySem.Expr):Bool:=by induction x using PySem.Expr.casesOn with | Compare l o r p=>exact f l o r p | _=>exact false
theorem X9.el {f:Expr→List CmpOp→List Expr→Pos→Bool} {P:PySem.Expr→Prop} (k:∀ (l:Expr) (o:List CmpOp) (r:List Expr) (p:Pos),f l o r p=true→P (.Compare l o r p)) {x:PySem.Expr}:X9 f x=true→P x:=by induction x using PySem.Expr.casesOn with | Compare=>exact k _ _ _ _ | _=>exact zk
noncomputable def ZS (f:BoolOp→List Expr→Pos→Bool) (x:PySem.Expr):Bool:=by induction x using PySem.Expr.casesOn with | BoolOp o l p=>exact f o l p | _=>exact false
theorem ZS.el {f:BoolOp→List Expr→Pos→Bool} {P:PySem.Expr→Prop} (k:∀ (o:BoolOp) (l:List Expr) (p:Pos),f o l p=true→P (.BoolOp o l p)) {x:PySem.Expr}:ZS f x=true→P x:=by induction x using PySem.Expr.casesOn with | BoolOp=>exact k _ _ _ | _=>exact zk
noncomputable def KI (f:Expr→Expr→Expr→Pos→Bool) (x:PySem.Expr):Bool:=by induction x using PySem.Expr.casesOn with | IfExp t a b p=>exact f t a b p | _=>exact false
theorem KI.el {f:Expr→Expr→Expr→Pos→Bool} {P:PySem.Expr→Prop} (k:∀ (t:Expr) (a:Expr) (b:Expr) (p:Pos),f t a b p=true→P (.IfExp t a b p)) {x:PySem.Expr}:KI f x=true→P x:=by induction x using PySem.Expr.casesOn with | IfExp=>exact k _ _ _ _ | _=>exact zk
noncomputable def X8 (f:List Expr→Nat→Pos→Bool) (x:PySem.Expr):Bool:=by induction x using PySem.Expr.casesOn with | Tuple l k p=>exact f l k p | _=>exact false
theorem X8.el {f:List Expr→Nat→Pos→Bool} {P:PySem.Expr→Prop} (k:∀ (l:List Expr) (k0:Nat) (p:Pos),f l k0 p=true→P (.Tuple l k0 p)) {x:PySem.Expr}:X8 f x=true→P x:=by induction x using PySem.Expr.casesOn with | Tuple=>exact k _ _ _ | _=>exact zk
noncomputable def U7 (f:List Expr→Pos→Bool) (x:PySem.Expr):Bool:=by induction x using PySem.Expr.casesOn with | List l p=>exact f l p | _=>exact false
theorem U7.el {f:List Expr→Pos→Bool} {P:PySem.Expr→Prop} (k:∀ (l:List Expr) (p:Pos),f l p=true→P (.List l p)) {x:PySem.Expr}:U7 f x=true→P x:=by induction x using PySem.Expr.casesOn with | List=>exact k _ _ | _=>exact zk
noncomputable def U9 (f:List (Option Expr)→List Expr→Pos→Bool) (x:PySem.Expr):Bool:=by induction x using PySem.Expr.casesOn with | Dict k v p=>exact f k v p | _=>exact false
theorem U9.el {f:List (Option Expr)→List Expr→Pos→Bool} {P:PySem.Expr→Prop} (k:∀ (k0:List (Option Expr)) (v:List Expr) (p:Pos),f k0 v p=true→P (.Dict k0 v p)) {x:PySem.Expr}:U9 f x=true→P x:=by induction x using PySem.Expr.casesOn with | Dict=>exact k _ _ _ | _=>exact zk
noncomputable def JR (f0:Expr→List Expr→List Keyword→Pos→Bool) (x:PySem.Expr):Bool:=by induction x using PySem.Expr.casesOn with | Call f a k p=>exact f0 f a k p | _=>exact false
theorem JR.el {f0:Expr→List Expr→List Keyword→Pos→Bool} {P:PySem.Expr→Prop} (k:∀ (f:Expr) (a:List Expr) (k0:List Keyword) (p:Pos),f0 f a k0 p=true→P (.Call f a k0 p)) {x:PySem.Expr}:JR f0 x=true→P x:=by induction x using PySem.Expr.casesOn with | Call=>exact k _ _ _ _ | _=>exact zk
noncomputable def U8 (f:Expr→List Comprehension→Scope→Pos→Bool) (x:PySem.Expr):Bool:=by induction x using PySem.Expr.casesOn with | ListComp e g c p=>exact f e g c p | _=>exact false
theorem U8.el {f:Expr→List Comprehension→Scope→Pos→Bool} {P:PySem.Expr→Prop} (k:∀ (e:Expr) (g:List Comprehension) (c:Scope) (p:Pos),f e g c p=true→P (.ListComp e g c p)) {x:PySem.Expr}:U8 f x=true→P x:=by induction x using PySem.Expr.casesOn with | ListComp=>exact k _ _ _ _ | _=>exact zk
noncomputable def yE {α:Type} (f:α→Bool) (l:List α):Bool:=List.casesOn l false fun a r=>List.casesOn r (f a) fun _ _=>false
theorem yE.el {α:Type} {f:α→Bool} {P:List α→Prop} (k:∀ a,f a=true→P [a]) {l:List α}:yE f l=true→P l:=by
 rcases l with _ | ⟨a,_ | ⟨_,_⟩⟩ <;> first | exact k a | exact zk
noncomputable def zQ {α:Type} (f:α→List α→Bool) (l:List α):Bool:=List.casesOn l false f
theorem zQ.el {α:Type} {f:α→List α→Bool} {P:List α→Prop} (k:∀ a r,f a r=true→P (a::r)) {l:List α}:zQ f l=true→P l:=by
 cases l <;> first | exact k _ _ | exact zk
noncomputable def ZU {α:Type} (f:α→α→Bool):List α→Bool:=zQ fun a=>yE (f a)
theorem ZU.el {α:Type} {f:α→α→Bool} {P:List α→Prop} (k:∀ a b,f a b=true→P [a,b]) {l:List α}:ZU f l=true→P l:=zQ.el fun a _ h=>yE.el (P:=fun r=>P (a::r)) (k a) h
noncomputable def jA {α:Type} (f:α→Bool) (o:Option α):Bool:=Option.casesOn o false f
theorem jA.el {α:Type} {f:α→Bool} {P:Option α→Prop} (k:∀ a,f a=true→P (some a)) {o:Option α}:jA f o=true→P o:=by
 cases o <;> first | exact k _ | exact zk
noncomputable def okC (v:V) (c:Const):Bool:=by induction v using V.casesOn with
 | none=>exact (by induction c using Const.casesOn with | none=>exact true | _=>exact false)
 | bool b=>exact (by induction c using Const.casesOn with | bool d=>exact b==d | _=>exact false)
 | int i=>exact (by induction c using Const.casesOn with | int d=>exact i==d | _=>exact false)
 | str l=>exact (by induction c using Const.casesOn with | str d=>exact d==sv l | _=>exact false)
 | _=>exact false
theorem okC.el {P:V→Const→Prop} (hn:P .none .none) (hb:∀ b,P (.bool b) (.bool b)) (hi:∀ i,P (.int i) (.int i)) (hs:∀ l,P (.str l) (.str (sv l))) {v:V} {c:Const}:okC v c=true→P v c:=by
 induction v using V.casesOn with
 | none=>exact (by induction c using Const.casesOn with | none=>exact fun _=>hn | _=>exact zk)
 | bool b=>exact (by induction c using Const.casesOn with | bool d=>exact fun h=>beq_iff_eq.mp h▸hb b | _=>exact zk)
 | int i=>exact (by induction c using Const.casesOn with | int d=>exact fun h=>beq_iff_eq.mp h▸hi i | _=>exact zk)
 | str l=>exact (by induction c using Const.casesOn with | str d=>exact fun h=>(beq_iff_eq.mp h).symm▸hs l | _=>exact zk)
 | _=>exact zk
noncomputable def zB (sc:List (Str×NameKind)) (k:NameKind) (n:String) (s:Str):Bool:=s==Str.ofString n&&s != ("__debug__":Str)&&s != ("super":Str)&&sc.lookup s==some k
noncomputable def Xp (f:Expr→Bool) (isNone:Bool) (o:Option Expr):Bool:=Option.casesOn o isNone fun e=>!isNone&&f e
noncomputable def E.isNone (e:E):Bool:=by induction e using E.casesOn with | k v=>exact (asN v).isSome | _=>exact false
noncomputable def Zo (sc:List (Str×NameKind)):List String→List Expr→Bool
 | []=>List.isEmpty
 | n::ns=>zQ fun x xs=>yK (fun s _=>zB sc .local n s) x&&Zo sc ns xs
noncomputable def okT (sc:List (Str×NameKind)) (tg:List String):Expr→Bool:=List.casesOn tg (fun _=>false) fun n r=>List.casesOn r (yK fun s _=>zB sc .local n s) fun _ _=>X8 fun l _ _=>Zo sc tg l
noncomputable def Wv (sc:Scope):Bool:=sc.kind==.function&&sc.names.all fun x=>x.2 != .free&&x.2 != .cell&&(x.2 != .local||sc.names.lookup x.1==some .local)
noncomputable def jf (sc:List (Str×NameKind)) (n:String) (g:List Expr→Bool):Expr→Bool:=JR fun f xs k _=>k.isEmpty&&yK (fun s _=>zB sc .globalImplicit n s) f&&g xs
mutual
noncomputable def okE (sc:List (Str×NameKind)):E→Expr→Bool
 | .k v=>w7 fun c _ _=>okC v c
 | .neg i=>xUn fun o x _=>o==.USub&&w7 (fun c _ _=>okC (.int i) c) x
 | .x n=>yK fun s _=>zB sc .local n s
 | .g n=>yK fun s _=>zB sc .globalImplicit n s
 | .at e n=>uw fun o s _=>s==Str.ofString n&&okE sc e o
 | .ix e i=>qX fun o j _=>okE sc e o&&okE sc i j
 | .sl _ e l u=>qX fun o j _=>okE sc e o&&U6 (fun a b c _=>c.isNone&&Xp (okE sc l) l.isNone a&&Xp (okE sc u) u.isNone b) j
 | .bin _ o a b=>Ua fun l p r _=>o.op==p&&okE sc a l&&okE sc b r
 | .cmp o a b=>X9 fun l p r _=>okE sc a l&&yE (fun p=>o.op==p) p&&yE (okE sc b) r
 | .cmp2 o o' a b c=>X9 fun l p r _=>okE sc a l&&ZU (fun p p'=>o.op==p&&o'.op==p') p&&ZU (fun x y=>okE sc b x&&okE sc c y) r
 | .and a b=>ZS fun o l p=>o==.And&&zQ (fun x t=>okE sc a x&&zQ (fun y r=>List.casesOn r (okE sc b y) fun _ _=>okE sc b (.BoolOp .And t p)) t) l
 | .or a b=>ZS fun o l p=>o==.Or&&zQ (fun x t=>okE sc a x&&zQ (fun y r=>List.casesOn r (okE sc b y) fun _ _=>okE sc b (.BoolOp .Or t p)) t) l
 | .not a=>xUn fun o x _=>o==.Not&&okE sc a x
 | .ite t a b=>KI fun x y z _=>okE sc t x&&okE sc a y&&okE sc b z
 | .tup es=>X8 fun xs _ _=>wy sc es xs
 | .lst _ es=>U7 fun xs _=>wy sc es xs
 | .dct _ _ es=>U9 fun js xs _=>Nat.ble es.length 30&&qk sc es js xs
 | .call f es=>jf sc f fun xs=>YB.contains f&&wy sc es xs
 | .new _ f es=>jf sc f fun xs=>(vz.lookup f).isSome&&wy sc es xs
 | .bi _ f es=>jf sc f fun xs=>(bis.lookup f).isSome&&wy sc es xs
 | .me _ o n es=>JR fun f xs k pos=>k.isEmpty&&Nat.blt xs.length 20&&wy sc es xs&&uw (fun y s ap=>s==Str.ofString n&&ap.endLine==pos.line&&okE sc o y) f
 | .comp _ e tg it=>U8 fun elt g scope _=>Wv scope&&yE (fun g=>g.ifs.isEmpty&&g.is_async==0&&okT scope.names tg g.target&&okE sc it g.iter) g&&okE scope.names e elt
noncomputable def wy (sc:List (Str×NameKind)):List E→List Expr→Bool
 | []=>List.isEmpty
 | e::es=>zQ fun x xs=>okE sc e x&&wy sc es xs
noncomputable def qk (sc:List (Str×NameKind)):List E→List (Option Expr)→List Expr→Bool
 | [],js,xs=>js.isEmpty&&xs.isEmpty
 | e::es,js,xs=>Ou sc (okE sc e) es js xs
noncomputable def Ou (sc:List (Str×NameKind)) (f:Expr→Bool):List E→List (Option Expr)→List Expr→Bool
 | [],_,_=>false
 | g::es,js,xs=>zQ (fun j js=>zQ (fun x xs=>jA f j&&okE sc g x&&qk sc es js xs) xs) js
end
inductive Out where
 | ret (v:V)
 | exc (C:String)
abbrev Rel:=String→List V→St→(Out→St→Prop)→Prop
mutual
noncomputable def V.py:V→PyData
 | .none=>.none
 | .bool b=>.bool b
 | .int i=>.int i
 | .str s=>.str (sv s)
 | .tup l=>.tuple (wg l)
 | .flst l=>.list (wg l)
 | .obj _ _=>.none
 | .ref _=>.none
noncomputable def wg:List V→List PyData
 | []=>[]
 | v::r=>v.py::wg r
end
mutual
noncomputable def V.plain:Nat→V→Bool
 | _,.none=>true
 | _,.bool _=>true
 | _,.int _=>true
 | _,.str s=>s.all (· < 128)
 | n+1,.tup l=>zq n l
 | n+1,.flst l=>zq n l
 | _,_=>false
noncomputable def zq:Nat→List V→Bool
 | _,[]=>true
 | n,v::r=>V.plain n v&&zq n r
end
noncomputable def St.see (σ:St) (v:V):V:=Option.rec v V.flst (bd (asR v) (lsA σ))
noncomputable def zZ (σ:St) (v:V):Option Bool:=oO (asB v) (bd (asR v) fun l=>bd (lsA σ l) fun vs=>if vs.length≤1000000 then some (!vs.isEmpty) else none)
noncomputable def eqV (σ:St) (a b:V):Option Bool:=
 oO (bd (asS a) fun x=>bd (asS b) fun y=>some (decide (x=y))) (oO (bd (asI a) fun x=>bd (asI b) fun y=>some (decide (x=y)))
  (if ((σ.see a).plain 20&&(σ.see b).plain 20)=true then some (PyData.eqv (σ.see a).py (σ.see b).py) else none))
noncomputable def uE:List V→Option (List (List Nat))
 | []=>some []
 | v::r=>bd (asS v) fun a=>bd (uE r) fun r=>some (a::r)
noncomputable def kT:List V→Option (List Int)
 | []=>some []
 | v::r=>bd (asI v) fun a=>bd (kT r) fun r=>some (a::r)
noncomputable def inV (σ:St) (a b:V):Option Bool:=
 oO (bd (asS b) fun y=>bd (asS a) fun xs=>bd (one xs) fun x=>some (decide (x∈y)))
 (oO (bd (asT b) fun l=>oO (bd (asS a) fun x=>bd (uE l) fun ys=>some (decide (x∈ys))) (bd (asI a) fun x=>bd (kT l) fun ys=>some (decide (x∈ys))))
  (bd (asR b) fun l=>oO (bd (asS a) fun x=>bd (dsA σ l) fun d=>some (d.lookup x).isSome) (bd (asI a) fun x=>bd (diA σ l) fun d=>some (d.lookup x).isSome)))
noncomputable def MW (σ:St) (a b:V):Option Bool:=bd (asR a) fun l=>bd (asR b) fun l'=>bd (diA σ l) fun d=>bd (diA σ l') fun d'=>bd (one d) fun x=>bd (one d') fun y=>bd (asB x.2) fun a=>bd (asB y.2) fun b=>some (!(decide (x.1=y.1)&&(a==b)))
noncomputable def ii (a b:V) (f:Int→Int→Bool):Option Bool:=bd (asI a) fun x=>bd (asI b) fun y=>some (f x y)
noncomputable def j9 (σ:St) (o:Cop) (a b:V):Option Bool:=Cop.casesOn o (eqV σ a b) (oO (MW σ a b) (bd (eqV σ a b) fun t=>some (!t))) (ii a b fun x y=>decide (x < y))
 (oO (ii a b fun x y=>decide (x≤y)) (bd (asS a) fun x=>bd (asS b) fun y=>some (!decide (y < x)))) (ii a b fun x y=>decide (y < x)) (ii a b fun x y=>decide (y≤x)) (inV σ a b) (bd (inV σ a b) fun t=>some (!t))
 (bd (asN b) fun _=>some (asN a).isSome)
noncomputable def ym (i:Int) (n:Nat):Option Nat:=if 0≤i∧i < n∧i < 1000000 then some i.toNat else none
noncomputable def zD (σ:St) (v i:V):Option V:=
 oO (bd (asI i) fun i=>oO (bd (vj σ v) fun l=>bd (ym i l.length) fun j=>l[j]?) (oO (bd (asS v) fun s=>bd (ym i s.length) fun j=>bd s[j]? fun c=>some (.str [c])) (bd (asR v) fun l=>bd (diA σ l) fun d=>d.lookup i)))
  (bd (asS i) fun k=>bd (asR v) fun l=>bd (dsA σ l) fun d=>d.lookup k)
noncomputable def kt (v:V) (d:Int) (n:Nat):Option Nat:=oO (bd (asN v) fun _=>some d.toNat) (bd (asI v) fun i=>some (max 0 (min (if i < 0 then i+n else i) n)).toNat)
noncomputable def pySl {α:Type} (l:List α) (a b:Nat):List α:=(l.drop a).take (b - a)
@[irreducible] noncomputable def y0 (k:Nat) (v a b:V) (σ:St) (Q:V→St→Prop):Prop:=cV v (fun _=>False)
 (fun s=>op (kt a 0 s.length) fun x=>op (kt b s.length s.length) fun y=>s.length≤1000000∧Q (.str (pySl s x y)) σ)
 (fun s=>op (asN a) fun _=>op (asI b) fun i=>i=-1∧1≤s.length∧s.length≤1000000∧Q (.tup s.dropLast) σ)
 (fun l=>op (lsA σ l) fun s=>op (kt a 0 s.length) fun x=>op (kt b s.length s.length) fun y=>s.length≤1000000∧Q (.ref (σ.loc k)) (σ.new k (.lst (pySl s x y))))
noncomputable def GB (k:Nat) (o:Bop) (a b:V) (σ:St) (Q:V→St→Prop):Prop:=Bop.casesOn o
 (cV a (fun x=>Option.rec (motive:=fun _=>Prop) False (fun y=>Q (.int (x+y)) σ) (asI b)) (fun x=>Option.rec (motive:=fun _=>Prop) False (fun y=>x.length+y.length≤1000000∧Q (.str (x++y)) σ) (asS b)) (fun x=>Option.rec (motive:=fun _=>Prop) False (fun y=>x.length+y.length≤1000000∧Q (.tup (x++y)) σ) (asT b)) fun _=>False)
 (Option.rec (motive:=fun _=>Prop) False (fun x=>Option.rec (motive:=fun _=>Prop) False (fun y=>Q (.int (x - y)) σ) (asI b)) (asI a)) False (Option.rec (motive:=fun _=>Prop) False (fun x=>Option.rec (motive:=fun _=>Prop) False (fun y=>0 < y∧Q (.int (x % y)) σ) (asI b)) (asI a))
@[irreducible] noncomputable def y4:List (String×Int×Nat):=[("T_END",0,402),("T_NAME",1,404),("T_WORD",2,406),("T_NUM",3,408),("T_STR",4,410),("T_SIGN",5,412),("T_TPL_WHOLE",6,414),("T_TPL_HEAD",7,416),("MAX_DEEP",40,459),("MAX_CHAIN",60,461),("MAX_HEIGHT",160,463),("PART_TYPE",1,469),("PART_EXPR",2,471),("PART_STMT",3,473),("PART_BLOCK",4,475),("PART_FUNC",5,477),("PART_CLASS",6,479),("PART_PATTERN",10,481),("K_NAME",8,898),("K_SPREAD",15,900),("K_CALL",18,902),("K_FUNC",27,904),("K_LIST",71,906),("K_TKEY",80,908),("K_TREF",81,910),("K_TUNION",83,912),("K_TINTER",84,914),("K_TARRAY",85,916),("K_TINDEX",90,918)]
noncomputable def Jq:List V:=[.str [61,62],.str [61,61],.str [61,61,61]]
noncomputable def GW:List V:=[.int 3,.int 4,.int 5,.int 6]
noncomputable def GV:List V:=[.str [97,110,121],.str [117,110,107,110,111,119,110],.str [110,101,118,101,114],.str [117,110,100,101,102,105,110,101,100],.str [115,116,114,105,110,103],.str [110,117,109,98,101,114],.str [98,111,111,108,101,97,110],.str [111,98,106,101,99,116]]
noncomputable def GU:List V:=[.str [107,101,121,111,102],.str [114,101,97,100,111,110,108,121],.str [105,110,102,101,114]]
noncomputable def Jp:List V:=[.int 0,.int 0,.int 1,.int 0,.int 0,.int 1,.int 0,.int 0,.int 0,.int 0,.int 0,.int 0,.int 0,.int 2,.int 0,.int 5,.int 0,.int 0,.int 0,.int 0,.int 0,.int 10,.int 0,.int 1,.int 2,.int 0,.int 0,.int 7,.int 0,.int 0,.int 1,.int 0,.int 3,.int 0,.int 1,.int 0,.int 0,.int 1,.int 5,.int 1,.int 0,.int 4,.int 2,.int 1,.int 0,.int 1,.int 10,.int 3,.int 0,.int 8,.int 0,.int 1,.int 7,.int 0,.int 1,.int 11,.int 0,.int 0,.int 3,.int 1,.int 1,.int 2,.int 0,.int 1]
@[irreducible] noncomputable def vI:List (String×Addr×List V):=[("JOINED",188,Jq),("OWN_PARTS",189,GW),("KIND_WORDS",547,GV),("OPERATOR_WORDS",548,GU),("_law_BASE",774,Jp)]
noncomputable def zE (n:String):Option V:=oO (bd (y4.lookup n) fun i=>some (.int i.1)) (bd (vI.lookup n) fun t=>some (.tup t.2))
theorem V3 (P:Params):(y4.all fun c=>jz (kX P (Str.ofString c.1)) (some (.int c.2.1 c.2.2)))=true:=by kernel_rfl
theorem V2 (P:Params):(vI.all fun c=>jz (kX P (Str.ofString c.1)) (some (.ref c.2.1)))=true:=by kernel_rfl
noncomputable def Uc (v:Value):Option Addr:=by induction v using Value.casesOn with | ref a=>exact some a | _=>exact none
theorem uz {v:Value} {a:Addr} (h:Uc v=some a):v=.ref a:=by revert h;induction v using Value.casesOn with | ref=>exact fun h=>congrArg Value.ref (Option.some.inj h) | _=>exact zL
noncomputable def Ub (v:Value):Option Str:=by induction v using Value.casesOn with | str s _=>exact some s | _=>exact none
theorem uy {v:Value} {s:Str} (h:Ub v=some s):∃ t,v=.str s t:=by revert h;induction v using Value.casesOn with | str _ t=>exact fun h=>⟨t,congrArg (fun s=>Value.str s t) (Option.some.inj h)⟩ | _=>exact zL
noncomputable def Hr (d:Data):Option (Array Value):=by induction d using Data.casesOn with | seq items _=>exact some items | _=>exact none
theorem YN {d:Data} {l:Array Value} (h:Hr d=some l):∃ k,d=.seq l k:=by revert h;induction d using Data.casesOn with | seq _ k=>exact fun h=>⟨k,congrArg (fun l=>Data.seq l k) (Option.some.inj h)⟩ | _=>exact zL
noncomputable def O0 (d:Data):Option (Array Value):=by induction d using Data.casesOn with | fields vs=>exact some vs | _=>exact none
theorem Vv {d:Data} {l:Array Value} (h:O0 d=some l):d=.fields l:=by revert h;induction d using Data.casesOn with | fields=>exact fun h=>congrArg Data.fields (Option.some.inj h) | _=>exact zL
noncomputable def MZ (d:Data):Option FuncData:=by induction d using Data.casesOn with | func f=>exact some f | _=>exact none
theorem Vu {d:Data} {f:FuncData} (h:MZ d=some f):d=.func f:=by revert h;induction d using Data.casesOn with | func=>exact fun h=>congrArg Data.func (Option.some.inj h) | _=>exact zL
noncomputable def frz (P:Params) (T:Addr):Option Obj:=bd ((tf P).get T) fun o=>if Nat.blt T 928=true∧(alive o).isSome=true then some o else none
theorem YY {o:Obj}:(alive o).isSome=true→alive o=some o:=by
 unfold alive
 split
 ·exact nofun
 ·exact fun _=>rfl
theorem Vd {P:Params} {T:Addr} {o:Obj} (h:frz P T=some o):(hf P).get? T=some o:=by
 obtain ⟨o',e,h⟩:=zc h
 obtain ⟨⟨h1,h2⟩,eo⟩:=xI h
 rw [eo] at e h2
 exact kW h1 e (YY h2)
theorem ZC {w:World} {T:Addr} {o:Obj} (h:frz w.params T=some o) {s:Heap} (Y:YP w s):s.get? T=some o:=Y _ _ (Vd h)
noncomputable def HM (v:Value):Option Int:=by induction v using Value.casesOn with | int i _=>exact some i | _=>exact none
theorem KO {v:Value} {i:Int} (h:HM v=some i):∃ t,v=.int i t:=by revert h;induction v using Value.casesOn with | int _ t=>exact fun h=>⟨t,congrArg (fun i=>Value.int i t) (Option.some.inj h)⟩ | _=>exact zL
noncomputable def Js (v:Value) (m:V):Bool:=by induction m using V.casesOn with | int j=>exact decide (HM v=some j) | str l=>exact decide (Ub v=some (sv l)) | _=>exact false
noncomputable def Vh (vs:List Value) (ms:List V):Bool:=List.rec (motive:=fun _=>List Value→Bool) List.isEmpty (fun m _ ih=>zQ fun v vs=>Js v m&&ih vs) ms vs
theorem XI {ρ n h S} {v:Value} {m:V}:Js v m=true→RV ρ n h S v m:=by
 induction m using V.casesOn with
 | int j=>exact fun e=>by obtain ⟨t,e⟩:=KO (of_decide_eq_true e);rw [e];exact .int _ _
 | str l=>exact fun e=>by obtain ⟨t,e⟩:=uy (of_decide_eq_true e);rw [e];exact .str _ _
 | _=>exact zk
theorem XH {ρ n h S} {ms:List V}:∀ {vs:List Value},Vh vs ms=true→RVs ρ n h S vs ms:=by
 induction ms with
 | nil=>exact fun h=>by rw [List.isEmpty_iff.mp h];exact .nil
 | cons m ms ih=>exact fun h=>zQ.el (P:=fun vs=>RVs _ _ _ _ vs (m::ms)) (fun v vs h=>.cons (XI (Bool.and_eq_true_iff.mp h).1) (ih (Bool.and_eq_true_iff.mp h).2)) h
theorem zz {α:Type} {fs:List (String×α)} {n:String} {u:α}:fs.lookup n=some u→(n,u)∈fs:=by
 induction fs with
 | nil=>exact zL
 | cons p t ih=>exact fun h=>(xR h).elim (fun e=>by rw [e.1,← e.2];exact .head _) fun h=>.tail _ (ih h)
theorem Xd (P:Params):(vI.all fun c=>jA (fun o=>decide (o.cls=.type "tuple")&&jA (fun vs=>Vh vs.toList c.2.2) (Hr o.data)) (frz P c.2.1))=true:=by kernel_rfl
theorem Ye {α:Type} {f:α→Bool} {o:Option α} (h:jA f o=true):∃ a,o=some a∧f a=true:=jA.el (P:=fun o=>∃ a,o=some a∧f a=true) (fun a h=>⟨a,rfl,h⟩) h
theorem Jn {w:World} {h:Heap} {ρ n S} (Y:YP w h) (nb:∀ a,S a→(hf w.params).get? a=none) {x:String} {mv:V} (e:zE x=some mv):∃ v,kX w.params (Str.ofString x)=some v∧RV ρ n h S v mv:=by
 rcases zK e with e | e
 ·obtain ⟨i,hi,e⟩:=zc e
  exact ⟨_,zH (List.all_eq_true.mp (V3 w.params) _ (zz hi)),Option.some.inj e▸.int _ _⟩
 ·obtain ⟨t,ht,e⟩:=zc e
  refine ⟨_,zH (List.all_eq_true.mp (V2 w.params) _ (zz ht)),?_⟩
  obtain ⟨o,ho,q⟩:=Ye (List.all_eq_true.mp (Xd w.params) _ (zz ht))
  obtain ⟨q1,q⟩:=Bool.and_eq_true_iff.mp q
  obtain ⟨vs,hv,q2⟩:=Ye q
  obtain ⟨k,hk⟩:=YN hv
  rw [← Option.some.inj e]
  have g:=Vd ho
  exact .tup (Y _ _ g) (of_decide_eq_true q1) hk (fun z=>zL ((nb _ z).symm.trans g)) (XH q2)
noncomputable def ZD (C:String):Bool:=C=="Token"||C=="Diag"||C=="Node"||C=="Mark"
noncomputable def fz2 (σ:St) (v:V):St:=Option.rec σ (fun l=>σ.drop l) (bd (asR v) fun l=>bd (lsA σ l) fun _=>some l)
noncomputable def fzF (σ:St):List (String×V)→List (String×V)
 | []=>[]
 | p::r=>(p.1,σ.see p.2)::fzF (fz2 σ p.2) r
noncomputable def fzS (σ:St):List (String×V)→St
 | []=>σ
 | p::r=>fzS (fz2 σ p.2) r
noncomputable def Yq (l:Loc) (C:String) (σ:St) (Q:V→St→Prop):Prop:=
 Option.rec (motive:=fun _=>Prop) False (fun p=>p.1=C∧Bool.rec (motive:=fun _=>Prop) (Q (.ref l) σ) (Bool.rec (motive:=fun _=>Prop) (Q (.obj C p.2) (σ.drop l)) (Q (.obj C (fzF (σ.drop l) p.2)) (fzS (σ.drop l) p.2)) (C=="Node")) (ZD C)) (inA σ l)
noncomputable def nR (l:Loc) (C:String) (Q:V→St→Prop) (X:String→St→Prop) (o:Out) (σ:St):Prop:=Out.casesOn o (fun v=>Option.rec (motive:=fun _=>Prop) False (fun _=>Yq l C σ Q) (asN v)) fun D=>X D σ
@[irreducible] noncomputable def ju (R:Rel) (k:Nat) (C:String) (vs:List V) (σ:St) (Q:V→St→Prop) (X:String→St→Prop):Prop:=
 (["TypePart","NameKindRule","KindArgsTail"].contains C=true∧vs=[]∧Q (.obj C []) σ)∨
 (["Token","Diag","Diags","Parser","Mark","Node"].contains C=true∧R (C++".__init__") (.ref (σ.loc k)::vs) (σ.new k (.inst C [])) (nR (σ.loc k) C Q X))
abbrev oR (Q:V→St→Prop) (X:String→St→Prop) (o:Out) (σ:St):Prop:=Out.casesOn o (fun v=>Q v σ) fun D=>X D σ
@[irreducible] noncomputable def ze (R:Rel) (f:String) (vs:List V) (σ:St) (Q:V→St→Prop) (X:String→St→Prop):Prop:=
 R f vs σ (oR Q X)
noncomputable def G1 (σ:St) (v:V):Option Nat:=oO (bd (asS v) fun s=>some s.length) (bd (vj σ v) fun l=>some l.length)
noncomputable def Hq (i:Int):List Nat:=(toString i).toList.map Char.toNat
noncomputable def biT:List (String×(Nat→List V→St→(V→St→Prop)→Prop)):=[("len",fun _ vs σ Q=>Option.rec (motive:=fun _=>Prop) False (fun v=>Option.rec (motive:=fun _=>Prop) False (fun (n:Nat)=>n≤1000000∧Q (.int n) σ) (G1 σ v)) (one vs)),
 ("tuple",fun _ vs σ Q=>Option.rec (motive:=fun _=>Prop) False (fun v=>Option.rec (motive:=fun _=>Prop) False (fun l=>Option.rec (motive:=fun _=>Prop) False (fun vs=>vs.length≤1000000∧Q (.tup vs) σ) (lsA σ l)) (asR v)) (one vs)),
 ("dict",fun k vs σ Q=>Option.rec (motive:=fun _=>Prop) False (fun v=>Option.rec (motive:=fun _=>Prop) False (fun l=>Option.rec (motive:=fun _=>Prop) False (fun d=>d.length≤100∧Q (.ref (σ.loc k)) (σ.new k (.ds d))) (dsA σ l)) (asR v)) (one vs)),
 ("str",fun _ vs σ Q=>Option.rec (motive:=fun _=>Prop) False (fun v=>Option.rec (motive:=fun _=>Prop) False (fun i=>0≤i∧i < 10000∧Q (.str (Hq i)) σ) (asI v)) (one vs))]
noncomputable def biW (k:Nat) (f:String) (vs:List V) (σ:St) (Q:V→St→Prop):Prop:=Option.rec (motive:=fun _=>Prop) False (fun g=>g k vs σ Q) (biT.lookup f)
noncomputable def wh {α:Type} (f:V→Option α):List V→Option (List (α×V))
 | []=>some []
 | [_]=>none
 | k::v::r=>bd (f k) fun k=>bd (wh f r) fun r=>some ((k,v)::r)
noncomputable def wA {α:Type} [DecidableEq α]:List α→Bool
 | []=>true
 | a::r=>!r.contains a&&wA r
@[irreducible] noncomputable def xi (b:Bool) (vs:List V) (l:Loc) (σ:St) (Q:V→St→Prop):Prop:=
 cB b (op (wh asI vs) fun d=>σ.m l=some (.di [])∧wA (d.map (·.1))=true∧Q (.ref l) (σ.set l (.di d))) (op (wh asS vs) fun d=>σ.m l=some (.ds [])∧wA (d.map (·.1))=true∧Q (.ref l) (σ.set l (.ds d)))
noncomputable def yP (b:Bool):zu:=if b then .di [] else .ds []
inductive Cal where
 | fn (f:String) | lst (l:Loc) | str (s:List Nat)
noncomputable def zR (σ:St) (v:V) (n:String):Option Cal:=
 oO (bd (oO (asO v) (bd (asR v) (inA σ))) fun p=>if (yI.contains (p.1,n)&&(p.2.lookup n).isNone)=true then some (.fn (p.1++"."++n)) else none)
 (oO (bd (asR v) fun l=>bd (lsA σ l) fun _=>if n="append"∨n="pop"∨n="extend" then some (.lst l) else none) (bd (asS v) fun s=>if n="split" then some (.str s) else none))
@[irreducible] noncomputable def meW (R:Rel) (k:Nat) (v:V) (n:String) (cal:Cal) (vs:List V) (σ:St) (Q:V→St→Prop) (X:String→St→Prop):Prop:=Cal.casesOn cal
 (fun f=>ze R f (v::vs) σ Q X)
 (fun l=>op (lsA σ l) fun xs=>(n="append"∧op (one vs) fun u=>xs.length < 1000000∧Q .none (σ.set l (.lst (xs++[u]))))∨
  (n="pop"∧vs=[]∧op xs.getLast? fun u=>xs.length < 1000000∧Q u (σ.set l (.lst xs.dropLast)))∨
  (n="extend"∧op (one vs) fun u=>op (asR u) fun l'=>op (lsA σ l') fun ys=>xs.length+ys.length < 1000000∧l'≠l∧Q .none (σ.set l (.lst (xs++ys)))))
 (fun s=>vs=[]∧s.length≤1000∧Q (.ref (σ.loc k)) (σ.new k (.lst ((Txt.words (sv s)).map fun w=>.str w.cps.toList))))
noncomputable def zX (σ:St) (v:V):Option (List V):=vj σ v
noncomputable def Jb:List String→List V→List (String×V)→Option (List (String×V))
 | [],vs,F=>List.casesOn vs (some F) fun _ _=>none
 | n::ns,vs,F=>List.casesOn vs none fun v vs=>Jb ns vs (yo n v F)
noncomputable def yn (tg:List String) (v:V) (F:List (String×V)):Option (List (String×V)):=List.casesOn tg none fun n r=>List.casesOn r (some (yo n v F)) fun _ _=>bd (asT v) fun l=>Jb tg l F
noncomputable def jl (f:List (String×V)→(V→St→Prop)→St→Prop) (tg:List String) (l:Loc) (keep:St→Prop):List V→List V→(St→Prop)→St→Prop
 | [],_,Q,σ=>Q σ
 | v::r,acc,Q,σ=>Option.rec (motive:=fun _=>Prop) False (fun F=>f F (fun u σ'=>σ'.m l=some (.lst acc)∧keep σ'∧acc.length < 1000000∧jl f tg l keep r (acc++[u]) Q (σ'.set l (.lst (acc++[u])))) σ) (yn tg v [])
abbrev EM:=Rel→List (String×V)→(V→St→Prop)→(String→St→Prop)→St→Prop
abbrev LM:=Rel→List (String×V)→(List V→St→Prop)→(String→St→Prop)→St→Prop
noncomputable def wpE (R:Rel) (F:List (String×V)) (e:E) (Q:V→St→Prop) (X:String→St→Prop) (σ:St):Prop:=E.rec (motive_1:=fun _=>EM) (motive_2:=fun _=>LM)
 (fun v _ _ Q _ σ=>Q v σ)
 (fun i _ _ Q _ σ=>Q (.int (-i)) σ)
 (fun n _ F Q _ σ=>Option.rec (motive:=fun _=>Prop) False (fun v=>Q v σ) (F.lookup n))
 (fun n _ _ Q _ σ=>Option.rec (motive:=fun _=>Prop) False (fun v=>Q v σ) (zE n))
 (fun _ n e R F Q X σ=>e R F (fun v σ=>Option.rec (motive:=fun _=>Prop) False (fun u=>Q u σ) (zm σ v n)) X σ)
 (fun _ _ e i R F Q X σ=>e R F (fun v σ=>i R F (fun j σ=>Option.rec (motive:=fun _=>Prop) False (fun u=>Q u σ) (zD σ v j)) X σ) X σ)
 (fun k _ _ _ e l u R F Q X σ=>e R F (fun v σ=>l R F (fun a σ=>u R F (fun b σ=>y0 k v a b σ Q) X σ) X σ) X σ)
 (fun k o _ _ a b R F Q X σ=>a R F (fun x σ=>b R F (fun y σ=>GB k o x y σ Q) X σ) X σ)
 (fun o _ _ a b R F Q X σ=>a R F (fun x σ=>b R F (fun y σ=>Option.rec (motive:=fun _=>Prop) False (fun r=>Q (.bool r) σ) (j9 σ o x y)) X σ) X σ)
 (fun o p _ _ _ a b c R F Q X σ=>a R F (fun x σ=>b R F (fun y σ=>Option.rec (motive:=fun _=>Prop) False (fun t=>Bool.rec (motive:=fun _=>Prop) (Q (.bool false) σ) (c R F (fun z σ=>Option.rec (motive:=fun _=>Prop) False (fun r=>Q (.bool r) σ) (j9 σ p y z)) X σ) t) (j9 σ o x y)) X σ) X σ)
 (fun _ _ a b R F Q X σ=>a R F (fun v σ=>Option.rec (motive:=fun _=>Prop) False (fun t=>Bool.rec (motive:=fun _=>Prop) (Q v σ) (b R F Q X σ) t) (zZ σ v)) X σ)
 (fun _ _ a b R F Q X σ=>a R F (fun v σ=>Option.rec (motive:=fun _=>Prop) False (fun t=>Bool.rec (motive:=fun _=>Prop) (b R F Q X σ) (Q v σ) t) (zZ σ v)) X σ)
 (fun _ a R F Q X σ=>a R F (fun v σ=>Option.rec (motive:=fun _=>Prop) False (fun t=>Q (.bool (!t)) σ) (zZ σ v)) X σ)
 (fun _ _ _ t a b R F Q X σ=>t R F (fun v σ=>Option.rec (motive:=fun _=>Prop) False (fun t=>Bool.rec (motive:=fun _=>Prop) (b R F Q X σ) (a R F Q X σ) t) (zZ σ v)) X σ)
 (fun _ es R F Q X σ=>es R F (fun vs σ=>vs.length≤1000000∧Q (.tup vs) σ) X σ)
 (fun k _ es R F Q X σ=>es R F (fun vs σ=>vs.length≤1000000∧Q (.ref (σ.loc k)) (σ.new k (.lst vs))) X σ)
 (fun k b _ es R F Q X σ=>es R F (fun vs σ'=>xi b vs (σ.loc k) σ' Q) X (σ.new k (yP b)))
 (fun f _ es R F Q X σ=>es R F (fun vs σ=>ze R f vs σ Q X) X σ)
 (fun k C _ es R F Q X σ=>es R F (fun vs σ=>ju R k C vs σ Q X) X σ)
 (fun k f _ es R F Q X σ=>es R F (fun vs σ=>biW k f vs σ Q) X σ)
 (fun k _ n _ o es R F Q X σ=>o R F (fun v σ=>Option.rec (motive:=fun _=>Prop) False (fun cal=>es R F (fun vs σ=>meW R k v n cal vs σ Q X) X σ) (zR σ v n)) X σ)
 (fun k _ tg _ e it R F Q X σ=>it R F (fun v σ=>Option.rec (motive:=fun _=>Prop) False (fun vs=>jl (fun F' Q' σ'=>e R F' Q' (fun _ _=>False) σ') tg (σ.loc k) (fun σ'=>zX σ' v=some vs) vs [] (fun σ'=>Q (.ref (σ.loc k)) σ') (σ.new k (.lst []))) (zX σ v)) X σ)
 (fun _ _ Q _ σ=>Q [] σ)
 (fun _ _ e es R F Q X σ=>e R F (fun v σ=>es R F (fun vs σ=>Q (v::vs) σ) X σ) X σ) e R F Q X σ
noncomputable def qY (R:Rel) (F:List (String×V)) (es:List E) (Q:List V→St→Prop) (X:String→St→Prop) (σ:St):Prop:=E.rec_1 (motive_1:=fun _=>EM) (motive_2:=fun _=>LM)
 (fun v _ _ Q _ σ=>Q v σ)
 (fun i _ _ Q _ σ=>Q (.int (-i)) σ)
 (fun n _ F Q _ σ=>Option.rec (motive:=fun _=>Prop) False (fun v=>Q v σ) (F.lookup n))
 (fun n _ _ Q _ σ=>Option.rec (motive:=fun _=>Prop) False (fun v=>Q v σ) (zE n))
 (fun _ n e R F Q X σ=>e R F (fun v σ=>Option.rec (motive:=fun _=>Prop) False (fun u=>Q u σ) (zm σ v n)) X σ)
 (fun _ _ e i R F Q X σ=>e R F (fun v σ=>i R F (fun j σ=>Option.rec (motive:=fun _=>Prop) False (fun u=>Q u σ) (zD σ v j)) X σ) X σ)
 (fun k _ _ _ e l u R F Q X σ=>e R F (fun v σ=>l R F (fun a σ=>u R F (fun b σ=>y0 k v a b σ Q) X σ) X σ) X σ)
 (fun k o _ _ a b R F Q X σ=>a R F (fun x σ=>b R F (fun y σ=>GB k o x y σ Q) X σ) X σ)
 (fun o _ _ a b R F Q X σ=>a R F (fun x σ=>b R F (fun y σ=>Option.rec (motive:=fun _=>Prop) False (fun r=>Q (.bool r) σ) (j9 σ o x y)) X σ) X σ)
 (fun o p _ _ _ a b c R F Q X σ=>a R F (fun x σ=>b R F (fun y σ=>Option.rec (motive:=fun _=>Prop) False (fun t=>Bool.rec (motive:=fun _=>Prop) (Q (.bool false) σ) (c R F (fun z σ=>Option.rec (motive:=fun _=>Prop) False (fun r=>Q (.bool r) σ) (j9 σ p y z)) X σ) t) (j9 σ o x y)) X σ) X σ)
 (fun _ _ a b R F Q X σ=>a R F (fun v σ=>Option.rec (motive:=fun _=>Prop) False (fun t=>Bool.rec (motive:=fun _=>Prop) (Q v σ) (b R F Q X σ) t) (zZ σ v)) X σ)
 (fun _ _ a b R F Q X σ=>a R F (fun v σ=>Option.rec (motive:=fun _=>Prop) False (fun t=>Bool.rec (motive:=fun _=>Prop) (b R F Q X σ) (Q v σ) t) (zZ σ v)) X σ)
 (fun _ a R F Q X σ=>a R F (fun v σ=>Option.rec (motive:=fun _=>Prop) False (fun t=>Q (.bool (!t)) σ) (zZ σ v)) X σ)
 (fun _ _ _ t a b R F Q X σ=>t R F (fun v σ=>Option.rec (motive:=fun _=>Prop) False (fun t=>Bool.rec (motive:=fun _=>Prop) (b R F Q X σ) (a R F Q X σ) t) (zZ σ v)) X σ)
 (fun _ es R F Q X σ=>es R F (fun vs σ=>vs.length≤1000000∧Q (.tup vs) σ) X σ)
 (fun k _ es R F Q X σ=>es R F (fun vs σ=>vs.length≤1000000∧Q (.ref (σ.loc k)) (σ.new k (.lst vs))) X σ)
 (fun k b _ es R F Q X σ=>es R F (fun vs σ'=>xi b vs (σ.loc k) σ' Q) X (σ.new k (yP b)))
 (fun f _ es R F Q X σ=>es R F (fun vs σ=>ze R f vs σ Q X) X σ)
 (fun k C _ es R F Q X σ=>es R F (fun vs σ=>ju R k C vs σ Q X) X σ)
 (fun k f _ es R F Q X σ=>es R F (fun vs σ=>biW k f vs σ Q) X σ)
 (fun k _ n _ o es R F Q X σ=>o R F (fun v σ=>Option.rec (motive:=fun _=>Prop) False (fun cal=>es R F (fun vs σ=>meW R k v n cal vs σ Q X) X σ) (zR σ v n)) X σ)
 (fun k _ tg _ e it R F Q X σ=>it R F (fun v σ=>Option.rec (motive:=fun _=>Prop) False (fun vs=>jl (fun F' Q' σ'=>e R F' Q' (fun _ _=>False) σ') tg (σ.loc k) (fun σ'=>zX σ' v=some vs) vs [] (fun σ'=>Q (.ref (σ.loc k)) σ') (σ.new k (.lst []))) (zX σ v)) X σ)
 (fun _ _ Q _ σ=>Q [] σ)
 (fun _ _ e es R F Q X σ=>e R F (fun v σ=>es R F (fun vs σ=>Q (v::vs) σ) X σ) X σ) es R F Q X σ
noncomputable def wpB (R:Rel) (F:List (String×V)) (e:E) (Q:Bool→St→Prop) (X:String→St→Prop) (σ:St):Prop:=wpE R F e (fun v σ=>Option.rec (motive:=fun _=>Prop) False (fun t=>Q t σ) (zZ σ v)) X σ
noncomputable def RC (d:Nat) (f:String) (args:List V) (σ:St) (Φ:Out→St→Prop):Prop:=
 ∀ (w:World) (A:Around) (st:List Env) (fr:List Addr) (c:Cur) (s:Shared) (avs:List Value) (R:Result→Shared→Prop),
  J0 A d→A.frames=some st→A.handled=none→Stk st s.heap→(∀ b∈frs st,b∈fr)→jr fr c.h→s.heap=c.h→c.σ=σ→c.WS w fr→c.RVs fr avs args→
  (∀ (mv:V) (v:Value) (c':Cur) (s':Shared),Φ (.ret mv) c'.σ→s'.heap=c'.h→c'.WS w fr→c.Ext fr fr c'→c'.RV fr v mv→s'.gens=s.gens→s'.os=s.os→R (.ok (.ret v)) s')→
  (∀ (C:String) (ea:Addr) (a0:Value) (c':Cur) (s':Shared),Φ (.exc C) c'.σ→Heap.FlyingW c'.h st ea (.ref (CA C)) a0 s'.heap→c'.WS w fr→xu fr c.σ c.ρ c.h c'.σ c'.ρ c'.h→y7 (frs st) fr c.h c'.h→yD fr c.h s'.heap→s'.gens=s.gens→s'.os=s.os→R (.error (.ref ea)) s')→
  codeAny (model pw w) A (.call (.ref (FA f)) ⟨avs,[]⟩) R s
theorem RC.mono {d:Nat} {f:String} {args:List V} {σ:St} {Φ Ψ:Out→St→Prop} (h:RC d f args σ Φ) (k:∀ o σ',Φ o σ'→Ψ o σ'):RC d f args σ Ψ:=
 fun w A st fr c s avs R a1 a2 a3 a4 a5 a6 a7 a8 a9 a10 r x=>h w A st fr c s avs R a1 a2 a3 a4 a5 a6 a7 a8 a9 a10 (fun mv v c' s' q=>r mv v c' s' (k _ _ q)) fun C ea a0 c' s' q=>x C ea a0 c' s' (k _ _ q)
theorem J0.less {A:Around} {d d':Nat} (r:J0 A d) (h:d'≤d):J0 A d':=⟨by have:=r.depth;omega,by have:=r.units;omega⟩
noncomputable def FrR (K:Fc) (c:Cur) (m:Str→Option Value) (F:List (String×V)):Prop:=∀ n mv,F.lookup n=some mv→∃ v,m (Str.ofString n)=some v∧c.RV K.fr v mv
theorem FrR.ext {K:Fc} {c c':Cur} {m:Str→Option Value} {F:List (String×V)} (x:FrR K c m F) (E:c.Ext K.fr K.fk c'):FrR K c' m F:=fun n mv h=>by
 obtain ⟨v,a,b⟩:=x n mv h;exact ⟨v,a,E.rv b⟩
noncomputable def SE (K:Fc) (R:Rel) (e:E) (x:Expr):Prop:=∀ F c m s Q X,K.In c m s→FrR K c m F→wpE R F e Q X c.σ→K.EV (eval x K.env) c m s Q X
theorem EV.next {K:Fc} {t:Sem Value} {c:Cur} {m:Str→Option Value} {s:Shared} {Q₁ Q:V→St→Prop} {X:String→St→Prop} {P:Value→Sem Value} (h:K.EV t c m s Q₁ X)
  (k:∀ v mv c' s',Q₁ mv c'.σ→K.In c' m s'→c.Ext K.fr K.fk c'→c'.RV K.fr v mv→K.EV (P v) c' m s' Q X):
  wpAny (model pw K.w) K.A t (fun v s'=>wpAny (model pw K.w) K.A (P v) (K.LQ c s m Q) (K.LX c s m X) s') (K.LX c s m X) s:=
 wpAny_mono h (fun v s' z'=>z'.el fun mv c' e1 e2 e3 e4 e5 e6=>wpAny_mono (k v mv c' s' e1 e2 e3 e4) (fun _ _ x=>x.from e3 e5 e6) fun _ _ x=>x.from e3 e5 e6) fun _ _ x=>x
section
variable {K:Fc} {d:Nat} {R:Rel} {sc:List (Str×NameKind)}
theorem zb {a b:Bool} (h:(a&&b)=true):a=true∧b=true:=Bool.and_eq_true_iff.mp h
theorem zF {k:NameKind} {n:String} {s:Str} (h:zB sc k n s=true):s=Str.ofString n∧(s==("__debug__":Str))=false∧sc.lookup s=some k:=
 have a:=zb h
 have b:=zb (zb a.1).1
 ⟨beq_iff_eq.mp b.1,beq_eq_false_iff_ne.mpr (bne_iff_ne.mp b.2),beq_iff_eq.mp a.2⟩
theorem j8 {k:NameKind} {n:String} {s:Str} (h:zB sc k n s=true):(s != ("super":Str))=true:=(zb (zb h).1).2
theorem zy (hs:sc=K.env.scope.names) {s:Str} {k:NameKind} (h:sc.lookup s=some k):K.env.kindOf s=some k:=by
 subst hs;exact h
theorem Om {v:V} {x:Expr} (h:okE sc (.k v) x=true):SE K R (.k v) x:=by
 refine w7.el (fun c' k p h=>?_) h
 refine okC.el (P:=fun v c'=>SE K R (.k v) (.Constant c' k p)) ?_ (fun b=>?_) (fun i=>?_) (fun l=>?_) h <;> intro F c m s Q X I FR hw
 ·exact wpAny_pure (I.stay (tk:=s.toks) hw .none)
 ·exact wpAny_pure (I.stay (tk:=s.toks) hw (.bool _))
 ·exact fun _ _ _=>(I.stay hw (.int _ _))
 ·exact fun _ _ _=>(I.stay hw (.str _ _))
theorem Qm {i:Int} {x:Expr} (h:okE sc (.neg i) x=true):SE K R (.neg i) x:=by
 refine xUn.el (fun o y p h=>?_) h
 obtain ⟨h1,h2⟩:=zb h
 cases beq_iff_eq.mp h1
 refine w7.el (P:=fun y=>SE K R (.neg i) (.UnaryOp .USub y p)) (fun c' k p' h=>?_) h2
 refine okC.el (P:=fun v c'=>∀ i,v=.int i→SE K R (.neg i) (.UnaryOp .USub (.Constant c' k p') p)) nofun nofun (fun j i e=>?_) nofun h i rfl
 cases e
 exact fun F c m s Q X I FR hw=>UnaryOp_ (wpAny_Constant_int (PyProof.Rows.neg_int (I.stay hw (.int _ _))))
theorem Ol (O:K.Ok d) (hs:sc=K.env.scope.names) {n:String} {x:Expr} (h:okE sc (.x n) x=true):SE K R (.x n) x:=by
 refine yK.el (fun s p h=>?_) h
 obtain ⟨e,h2,h3⟩:=zF h
 cases e
 intro F c m s Q X I FR hw
 obtain ⟨mv,hl,q⟩:=zd hw
 obtain ⟨v,a,b⟩:=FR n mv hl
 exact wpAny_Name (wpAny_loadName_local O.kind (zy hs h3) (O.loc▸I.ns) a (I.stay (tk:=s.toks) q b)) h2
theorem In.gns (O:K.Ok d) {c:Cur} {m:Str→Option Value} {s:Shared} (I:K.In c m s):s.heap.Ns K.env.globals (kX K.w.params):=by
 rw [O.glob,I.heap];exact (Zz K.w.params).keeps I.ws.base
theorem In.bns (O:K.Ok d) {c:Cur} {m:Str→Option Value} {s:Shared} (I:K.In c m s):s.heap.Ns K.env.builtins (Ku K.w.params):=by
 rw [O.blt,I.heap];exact (V1 K.w.params).keeps I.ws.base
theorem Oo (O:K.Ok d) (hs:sc=K.env.scope.names) {n:String} {x:Expr} (h:okE sc (.g n) x=true):SE K R (.g n) x:=by
 refine yK.el (fun s p h=>?_) h
 obtain ⟨e,h2,h3⟩:=zF h
 cases e
 intro F c m s Q X I FR hw
 obtain ⟨mv,hl,q⟩:=zd hw
 obtain ⟨v,a,b⟩:=Jn (h:=c.h) (ρ:=c.ρ) (n:=c.σ.nx) (S:=Mut c.σ c.ρ K.fr) I.ws.base I.ws.notbase hl
 exact Name_function_global O.kind (zy hs h3) (loadGlobal_global (In.gns O I) a (I.stay (tk:=s.toks) q b)) h2
theorem Wu {e:E} {s:Str} {q p:Pos} {a:List Expr} {k:List Keyword} (h:okE sc e (.Call (.Name s q) a k p)=true):(s != ("super":Str))=true:=by
 induction e using E.casesOn with
 | call=>exact j8 (zb (zb h).1).2
 | new=>exact j8 (zb (zb h).1).2
 | bi=>exact j8 (zb (zb h).1).2
 | me=>exact zk (zb h).2
 | _=>exact zk h
theorem JG {e:E} {x:Expr} {n:Str} {env:Env} {t:Sem Value} (h:okE sc e x=true):attributeBase x n env t=t:=by
 induction x using PySem.Expr.casesOn with
 | Call f a k p=>
  induction f using PySem.Expr.casesOn with
  | Name s q=>
   cases a with
   | nil=>
    cases k with
    | nil=>
     show (if (s != ("super":Str)||_||_||_)=true then t else _)=t
     rw [Wu h];rfl
    | cons=>rfl
   | cons=>rfl
  | _=>rfl
 | _=>rfl
theorem N4 (O:K.Ok d) {e:E} {n:String} {x:Expr} (h:okE sc (.at e n) x=true) (ih:∀ y,okE sc e y=true→SE K R e y):SE K R (.at e n) x:=by
 refine uw.el (fun o a p h=>?_) h
 obtain ⟨h1,h2⟩:=zb h
 cases beq_iff_eq.mp h1
 intro F c m s Q X I FR hw
 refine Attribute_any_ (EV.next (ih _ h2 F c m s _ X I FR hw) fun v mv c' s' q I' E r=>?_) ?_
 ·obtain ⟨u,hu,q⟩:=zd q
  exact gG I' r hu q
 ·show (do let o' ← attributeBase o _ K.env (eval o K.env);_)=_
  rw [JG h2]
theorem EV.two {a b:E} {x y:Expr} (ha:SE K R a x) (hb:SE K R b y) {F:List (String×V)} {c:Cur} {m:Str→Option Value} {s:Shared} {Q:V→St→Prop} {X:String→St→Prop} {W:V→V→St→Prop} (I:K.In c m s) (FR:FrR K c m F)
  (hw:wpE R F a (fun v σ=>wpE R F b (fun u σ=>W v u σ) X σ) X c.σ) {P:Value→Value→Sem Value} (leaf:∀ {c s v u mv mu},K.In c m s→c.RV K.fr v mv→c.RV K.fr u mu→W mv mu c.σ→K.EV (P v u) c m s Q X):
  wpAny (model pw K.w) K.A (eval x K.env) (fun v s₁=>wpAny (model pw K.w) K.A (eval y K.env) (fun u s₂=>wpAny (model pw K.w) K.A (P v u) (K.LQ c s m Q) (K.LX c s m X) s₂) (K.LX c s m X) s₁) (K.LX c s m X) s:=by
 refine wpAny_mono (ha F c m s _ X I FR hw) (fun v s' z'=>z'.el fun mv c' e1 e2 e3 e4 e5 e6=>?_) fun _ _ x=>x
 exact wpAny_mono (EV.next (hb F c' m s' _ X e2 (FR.ext e3) e1) fun u mu c2 s2 q I2 E2 r2=>leaf I2 (E2.rv e4) r2 q) (fun _ _ x=>wpAny_mono x (fun _ _ y=>y.from e3 e5 e6) fun _ _ y=>y.from e3 e5 e6) fun _ _ x=>x.from e3 e5 e6
theorem Qr (O:K.Ok d) {k:Nat} {o:Bop} {a b:E} {x:Expr} (h:okE sc (.bin k o a b) x=true) (iha:∀ y,okE sc a y=true→SE K R a y) (ihb:∀ y,okE sc b y=true→SE K R b y)
  (leaf:∀ {c m s Q X v w mv mw},K.In c m s→c.RV K.fr v mv→c.RV K.fr w mw→GB k o mv mw c.σ Q→K.EV (binaryOp o.op v w) c m s Q X):SE K R (.bin k o a b) x:=by
 refine Ua.el (fun l o' r p h=>?_) h
 obtain ⟨h,h3⟩:=zb h
 obtain ⟨h1,h2⟩:=zb h
 cases beq_iff_eq.mp h1
 exact fun F c m s Q X I FR hw=>wpAny_BinOp (EV.two (iha _ h2) (ihb _ h3) I FR hw leaf)
end
theorem KV {l:List Nat} (h:l.all (· < 128)=true):PyData.strOk (sv l)=true:=by
 unfold PyData.strOk sv
 simp only [List.all_eq_true,decide_eq_true_eq] at h
 simp only [Array.all_eq_true,decide_eq_true_eq]
 intro i hi
 have:=h l[i] (List.getElem_mem _)
 simp only [List.getElem_toArray]
 omega
noncomputable def RdV (h:Heap) (v:Value) (mv:V):Prop:=∀ n,mv.plain n=true→∃ as,Reads h v mv.py as∧mv.py.canLay0=true∧mv.py.depth≤n
noncomputable def X7 (h:Heap) (vs:List Value) (mvs:List V):Prop:=∀ n,zq n mvs=true→∃ as,ReadsAll h vs (wg mvs) as∧PyData.canLayAll0 (wg mvs)=true∧PyData.depthAll (wg mvs)≤n
theorem X7.cons {h:Heap} {v:Value} {mv:V} {vs:List Value} {mvs:List V} (a:RdV h v mv) (b:X7 h vs mvs):X7 h (v::vs) (mv::mvs):=fun n p=>by
 have p':=Bool.and_eq_true_iff.mp (show (V.plain n mv&&zq n mvs)=true by cases n <;> exact p)
 obtain ⟨as,a,b1,c⟩:=a n p'.1
 obtain ⟨bs,a',b',c'⟩:=b n p'.2
 refine ⟨_,.cons a a',?_,Nat.max_le.mpr ⟨c,c'⟩⟩
 show (_&&_)=true
 rw [b1,b'];rfl
theorem Y5 {ρ nx h S} {v:Value} {mv:V} (r:RV ρ nx h S v mv):RdV h v mv:=
 RV.rec (motive_1:=fun v mv _=>RdV h v mv) (motive_2:=fun vs mvs _=>X7 h vs mvs) (motive_3:=fun _ _ _=>True)
  (fun _ _=>⟨_,.none,rfl,Nat.zero_le _⟩) (fun _ _ _=>⟨_,.bool _,rfl,Nat.zero_le _⟩) (fun _ _ _ _=>⟨_,.int _ _,rfl,Nat.zero_le _⟩)
  (fun l _ n p=>⟨_,.str _ _,KV (by cases n <;> exact p),Nat.zero_le _⟩)
  (fun e1 e2 e3 _ _ ih n=>Nat.casesOn n zk fun n p=>have ⟨as,a,b,c⟩:=ih n p;⟨as,.tuple e1 e2 e3 a,b,Nat.succ_le_succ c⟩)
  (fun e1 e2 e3 _ _ ih n=>Nat.casesOn n zk fun n p=>have ⟨as,a,b,c⟩:=ih n p;⟨_::as,.list e1 e2 e3 a,b,Nat.succ_le_succ c⟩)
  (fun _ _ _ _ _ _ _ n=>Nat.casesOn n zk fun _=>zk) (fun _ n=>Nat.casesOn n zk fun _=>zk) (fun _ _=>⟨_,.nil,rfl,Nat.zero_le _⟩)
  (fun _ _ a b=>X7.cons a b) trivial (fun _ _ _ _=>trivial) r
theorem JZ {ρ nx h S} {vs:List Value} {mvs:List V} (r:RVs ρ nx h S vs mvs):X7 h vs mvs:=r.ind (P:=X7 h) (fun _ _=>⟨_,.nil,rfl,Nat.zero_le _⟩) fun _ _ _ _ a _ b=>X7.cons (Y5 a) b
section
variable {K:Fc} {d:Nat} {c:Cur} {m:Str→Option Value} {s:Shared} {Q:V→St→Prop} {X:String→St→Prop} {v u:Value} {mv mu:V}
theorem jS (I:K.In c m s) (r:c.RV K.fr v mv) (p:(c.σ.see mv).plain 20=true):∃ as,Reads s.heap v (c.σ.see mv).py as∧SeqAt.shaped (c.σ.see mv).py=true:=by
 have fin:∀ {d:PyData},d.canLay0=true→d.depth≤20→SeqAt.shaped d=true:=fun a b=>by
  unfold SeqAt.shaped;rw [a,Bool.true_and];exact decide_eq_true (Nat.le_trans b (by decide))
 rw [I.heap]
 have gen:c.σ.see mv=mv→∃ as,Reads c.h v (c.σ.see mv).py as∧SeqAt.shaped (c.σ.see mv).py=true:=fun e=>by
  rw [e] at p ⊢
  obtain ⟨as,a,b,cc⟩:=Y5 r 20 p
  exact ⟨as,a,fin b cc⟩
 cases mv with
 | ref l=>
  obtain ⟨e0,hl⟩:=RV.s r
  cases e0
  have es:c.σ.see (.ref l)=(Option.rec (.ref l) V.flst (lsA c.σ l):V):=rfl
  rw [es] at p ⊢
  cases hc:lsA c.σ l with
  | none=>rw [hc] at p;exact zk p
  | some vs=>
   rw [hc] at p
   obtain ⟨e,items,k,e1,e2⟩:=I.ws.ls hc
   obtain ⟨as,a,b,cc⟩:=JZ e2 19 p
   rw [e]
   exact ⟨_::as,.list e1 rfl rfl a,fin (d:=.list _) b (Nat.succ_le_succ cc)⟩
 | _=>exact gen rfl
theorem uA (O:K.Ok d):K.A.units+64 < cLine:=by have:=O.room.units;show _ < 9900;omega
theorem VP (x y:List Nat):((sv x).cps.toList==(sv y).cps.toList)=decide (x=y):=by
 simp only [sv]
 by_cases h:x=y
 ·subst h;simp
 ·rw [decide_eq_false h];simpa using h
theorem JB {σ:St} {a b:V} {r:Bool} (h:eqV σ a b=some r):(∃ x y,asS a=some x∧asS b=some y∧r=decide (x=y))∨(∃ x y,asI a=some x∧asI b=some y∧r=decide (x=y))∨
  ((σ.see a).plain 20=true∧(σ.see b).plain 20=true∧r=PyData.eqv (σ.see a).py (σ.see b).py):=by
 rcases zK h with h | h
 ·obtain ⟨x,hx,h⟩:=zc h
  obtain ⟨y,hy,h⟩:=zc h
  exact .inl ⟨x,y,hx,hy,(Option.some.inj h).symm⟩
 ·rcases zK h with h | h
  ·obtain ⟨x,hx,h⟩:=zc h
   obtain ⟨y,hy,h⟩:=zc h
   exact .inr (.inl ⟨x,y,hx,hy,(Option.some.inj h).symm⟩)
  ·obtain ⟨p,h⟩:=xI h
   have p:=Bool.and_eq_true_iff.mp p
   exact .inr (.inr ⟨p.1,p.2,h.symm⟩)
theorem MQ (O:K.Ok d) (I:K.In c m s) (r:c.RV K.fr v mv) (r':c.RV K.fr u mu) {b:Bool} (h:eqV c.σ mv mu=some b) (q:Q (.bool b) c.σ):K.EV (compareOp .Eq v u) c m s Q X:=by
 have fin:K.LQ c s m Q (.bool b) s:=I.stay (tk:=s.toks) q (.bool _)
 rcases JB h with ⟨x,y,hx,hy,rfl⟩ | ⟨x,y,hx,hy,rfl⟩ | ⟨p1,p2,rfl⟩
 ·obtain ⟨_,e⟩:=r.st hx
  obtain ⟨_,e'⟩:=r'.st hy
  rw [e,e']
  exact P.eq_str (by rw [VP];exact fin)
 ·obtain ⟨_,e⟩:=r.i hx
  obtain ⟨_,e'⟩:=r'.i hy
  rw [e,e']
  exact P.eq_int fin
 ·obtain ⟨as,a1,a2⟩:=jS I r p1
  obtain ⟨bs,b1,b2⟩:=jS I r' p2
  exact SeqAt.compareEq_shaped a1 b1 a2 b2 (uA O) fin
theorem MP (O:K.Ok d) (I:K.In c m s) (r:c.RV K.fr v mv) (r':c.RV K.fr u mu) {b:Bool} (h:eqV c.σ mv mu=some b) (q:Q (.bool (!b)) c.σ):K.EV (compareOp .NotEq v u) c m s Q X:=by
 have fin:K.LQ c s m Q (.bool (!b)) s:=I.stay (tk:=s.toks) q (.bool _)
 rcases JB h with ⟨x,y,hx,hy,rfl⟩ | ⟨x,y,hx,hy,rfl⟩ | ⟨p1,p2,rfl⟩
 ·obtain ⟨_,e⟩:=r.st hx
  obtain ⟨_,e'⟩:=r'.st hy
  rw [e,e']
  exact P.ne_str (by rw [bne,VP];exact fin)
 ·obtain ⟨_,e⟩:=r.i hx
  obtain ⟨_,e'⟩:=r'.i hy
  rw [e,e']
  exact P.ne_int fin
 ·obtain ⟨as,a1,a2⟩:=jS I r p1
  obtain ⟨bs,b1,b2⟩:=jS I r' p2
  exact SeqAt.compareNe_shaped a1 b1 a2 b2 (uA O) fin
end
end
section
open PySem PySem.Calls PySem.W PyProof.Rows Builtin Builtin.Dict
section
variable {prog:Program} {w:World} {A:Around} {E:Value→Shared→Prop} {s:Shared}
theorem ve {id:String} {a b:Addr} {oa ob:Obj} {ka kb:Int} {ta tb:Tok} {va vb:Value} {na nb:Nat} {r:Bool} {Q:Bool→Shared→Prop}
  (ha:(a==sysModules)=false) (hb:(b==sysModules)=false) (h1:s.heap.get? a=some oa) (h2:oa.data=.dict #[⟨hashInt ka,.int ka ta,va⟩] na) (h3:s.heap.get? b=some ob) (h4:ob.data=.dict #[⟨hashInt kb,.int kb tb,vb⟩] nb)
  (he:SeqAt.EqAt A s va vb r) (h:Q (decide (ka=kb)&&r) s):wpAny (model prog w) A (Builtin.Dict.samePairs id a b) Q E s:=by
 unfold Builtin.Dict.samePairs showsAll
 simp only [ha,hb,Bool.false_eq_true,if_false,pure_bind]
 refine wpAny_bind (wpAny_dictEntries h1 h2 ?_)
 refine wpAny_bind (wpAny_dictEntries h3 h4 ?_)
 simp only [List.size_toArray,List.length_cons,List.length_nil,bne_self_eq_false,Bool.false_eq_true,if_false]
 refine wpAny_bind (wpAny_dictEpoch h1 h2 ?_)
 have hr:∀ {β:Type} (b:β) (f:Nat→β→Sem (ForInStep β)),forIn ([:0+1]:Std.Legacy.Range) b f=forIn [0] b f:=fun b f=>by
  rw [Std.Legacy.Range.forIn_eq_forIn_range'];rfl
 rw [hr,List.forIn_cons]
 refine wpAny_bind (wpAny_bind (wpAny_bind (wpAny_dictEntries h1 h2 ?_)))
 have kb':KeysOf (intKind prog w) #[⟨hashInt kb,.int kb tb,vb⟩]:=fun e he=>by
  simp at he;subst he;exact ⟨kb,by simp [intKind,Value.isInt],rfl⟩
 have fi:(#[(⟨hashInt kb,.int kb tb,vb⟩:DictEntry)].findIdx? fun e=>(intKind prog w).is ka e.key)=if ka=kb then some 0 else none:=by
  have:(intKind prog w).is ka (.int kb tb)=decide (ka=kb):=KeyKind.is_eq_decide (knd:=intKind prog w) (by simp [intKind,Value.isInt]) ka
  simp [this]
 have fd:∀ {Q:Option Nat→Shared→Prop},Q (if ka=kb then some 0 else none) s→wpAny (model prog w) A (dictFind b (.int ka ta) (hashInt ka)) Q E s:=fun hq=>
  wpAny_dictFind_of (knd:=intKind prog w) (k:=ka) (by simp [intKind,Value.isInt]) h3 h4 kb' (by rw [fi];exact hq)
 refine wpAny_bind (wpAny_holding (wpAny_bind (fd ?_)))
 by_cases q:ka=kb
 ·rw [if_pos q]
  refine wpAny_bind (wpAny_dictEntries h3 h4 (wpAny_holding (he _ _ _ _ ?_)))
  (first | (rcases RV.s r with ⟨_,rfl⟩) | (rcases RV.s r with ⟨rfl,_⟩) | (rcases RV.s r with rfl) | cases r)
  ·exact wpAny_pure (wpAny_pure (wpAny_pure (by simpa [q] using h)))
  ·refine wpAny_bind (wpAny_dictEpoch h1 h2 ?_)
   simp only [bne_self_eq_false,Bool.false_eq_true,if_false]
   refine wpAny_pure ?_
   dsimp only
   rw [List.forIn_nil]
   exact wpAny_pure (wpAny_pure (by simpa [q] using h))
 ·rw [if_neg q]
  refine wpAny_pure (wpAny_pure (wpAny_pure (wpAny_pure (by simpa [q] using h))))
theorem Vq (a b:Addr) (oa ob:Obj) (ka kb:Int) (ta tb:Tok) (va vb:Value) (na nb:Nat) (r:Bool):Meets (Builtin.«dict.__ne__» ⟨[.ref a,.ref b],[]⟩) (fun A R s=>
  (a==sysModules)=false∧(b==sysModules)=false∧s.heap.get? a=some oa∧oa.data=.dict #[⟨hashInt ka,.int ka ta,va⟩] na∧s.heap.get? b=some ob∧ob.data=.dict #[⟨hashInt kb,.int kb tb,vb⟩] nb∧
  ob.cls=.type "dict"∧SeqAt.EqAt A.in1 s va vb r∧R (.ok (.ret (.bool ((decide (ka=kb)&&r)==false)))) s):=
 .of_wp fun prog w A R s h=>by
  obtain ⟨ha,hb,h1,h2,h3,h4,h5,he,h⟩:=h
  show wpAny _ _ (do
   let (self,other) ← dictSlotArgs "__ne__" ⟨[.ref a,.ref b],[]⟩
   if !(← isInstance other (.type "dict")) then rule s!"dict.{"__ne__"}.not-a-dict";return ← ret .notImplemented
   ret (.bool ((← Builtin.Dict.samePairs s!"dict.{"__ne__"}" (← addrOf self) (← addrOf other))==false))) _ _ _
  unfold dictSlotArgs notOrdered slotArgs
  refine wpAny_bind (wpAny_bind ?_)
  refine wpAny_pure (wpAny_bind ?_)
  refine wpAny_pure (wpAny_pure ?_)
  refine wpAny_bind (wpAny_isInstance (T:="dict") ⟨ob,h3,h5⟩ F.sub_dict_dict ?_)
  refine wpAny_bind (wpAny_pure (wpAny_bind (wpAny_pure (wpAny_bind (ve ha hb h1 h2 h3 h4 he ?_)))))
  exact wpAny_pure ⟨_,rfl,h⟩
theorem WH {a b:Addr} {oa ob:Obj} {ka kb:Int} {ta tb:Tok} {va vb:Value} {na nb:Nat} {r:Bool} {Q:Value→Shared→Prop}
  (ha:(a==sysModules)=false) (hb:(b==sysModules)=false) (h1:s.heap.get? a=some oa) (h2:oa.data=.dict #[⟨hashInt ka,.int ka ta,va⟩] na) (h3:s.heap.get? b=some ob) (h4:ob.data=.dict #[⟨hashInt kb,.int kb tb,vb⟩] nb)
  (h5:oa.cls=.type "dict") (h6:ob.cls=.type "dict") (he:SeqAt.EqAt A.in1 s va vb r) (hu:A.units < cLine) (h:Q (.bool (!(decide (ka=kb)&&r))) s):wpAny (model prog w) A (compareOp .NotEq (.ref a) (.ref b)) Q E s:=
 richCompare_meets_room (op:=.NotEq) ⟨_,h1,h5⟩ ⟨_,h3,h6⟩ F.slot_dict_ne F.entry_dict_ne (F.args_dict_ne_2 _ _) (Vq a b oa ob ka kb ta tb va vb na nb r)
  ⟨ha,hb,h1,h2,h3,h4,h6,he,nofun,by cases hz:(decide (ka=kb)&&r) <;> rw [hz] at h <;> exact h⟩ hu
end
end
section
open PySem PySem.Calls PySem.W PyProof.Rows
theorem Xx {P:Params}:(hf P).get? sysModules≠none:=fun e=>by
 have:=kW (P:=P) (a:=sysModules) rfl rfl rfl
 rw [e] at this
 cases this
theorem Jh {α:Type} [BEq α] [LawfulBEq α] {x a:α} {l:List α}:decide (x∈a::l)=((a==x)||decide (x∈l)):=by
 by_cases q:a=x
 ·subst q;rw [beq_self_eq_true];exact decide_eq_true (.head _)
 ·rw [beq_eq_false_iff_ne.mpr q];exact decide_eq_decide.mpr ⟨fun h=>(List.mem_cons.mp h).resolve_left fun e=>q e.symm,.tail _⟩
noncomputable def isS (x:List Nat) (v:Value):Bool:=by induction v using Value.casesOn with | str z _=>exact z.cps.toList==x | _=>exact false
noncomputable def isN (x:Int) (v:Value):Bool:=by induction v using Value.casesOn with | int z _=>exact z==x | _=>exact false
theorem VW {ρ n h S} (x:List Nat) {vs:List Value} {l:List V} (r:RVs ρ n h S vs l):∀ ys,uE l=some ys→vs.any (isS x)=decide (x∈ys)∧∀ v∈vs,∃ z t,v=.str z t:=by
 refine r.ind (P:=fun vs l=>∀ ys,uE l=some ys→vs.any (isS x)=decide (x∈ys)∧∀ v∈vs,∃ z t,v=.str z t) (fun ys e=>by cases e;exact ⟨rfl,fun v hv=>absurd hv List.not_mem_nil⟩) fun v mv vs l r _ ih ys e=>?_
 obtain ⟨a,ha,e⟩:=zc e
 obtain ⟨ys',hy,e⟩:=zc e
 obtain ⟨t,ev⟩:=r.st ha
 cases e;cases ev
 obtain ⟨i1,i2⟩:=ih _ hy
 exact ⟨by rw [Jh,← i1];rfl,fun v hv=>(List.mem_cons.mp hv).elim (fun e=>⟨_,_,e⟩) (i2 v)⟩
theorem VX {ρ n h S} (x:Int) {vs:List Value} {l:List V} (r:RVs ρ n h S vs l):∀ ys,kT l=some ys→vs.any (isN x)=decide (x∈ys)∧∀ v∈vs,∃ z t,v=.int z t:=by
 refine r.ind (P:=fun vs l=>∀ ys,kT l=some ys→vs.any (isN x)=decide (x∈ys)∧∀ v∈vs,∃ z t,v=.int z t) (fun ys e=>by cases e;exact ⟨rfl,fun v hv=>absurd hv List.not_mem_nil⟩) fun v mv vs l r _ ih ys e=>?_
 obtain ⟨a,ha,e⟩:=zc e
 obtain ⟨ys',hy,e⟩:=zc e
 obtain ⟨t,ev⟩:=r.i ha
 cases e;cases ev
 obtain ⟨i1,i2⟩:=ih _ hy
 exact ⟨by rw [Jh,← i1];rfl,fun v hv=>(List.mem_cons.mp hv).elim (fun e=>⟨_,_,e⟩) (i2 v)⟩
theorem gr {K K':Type} [DecidableEq K] [BEq K'] [LawfulBEq K'] {f:K'→K} (fi:∀ a b,f a=f b→a=b) {ρ n h S} (x:K') {kvs:List (K×Value)} {d:List (K'×V)} (r:RKs f ρ n h S kvs d):
  (d.lookup x=none∧valueAt kvs (f x)=none)∨∃ mv v,d.lookup x=some mv∧valueAt kvs (f x)=some v∧RV ρ n h S v mv:=by
 induction r with
 | nil=>exact .inl ⟨rfl,rfl⟩
 | @cons k v mv vs mvs r rs ih=>
  rw [List.lookup_cons]
  by_cases q:x=k
  ·rw [q,beq_self_eq_true]
   exact .inr ⟨mv,v,rfl,by simp [valueAt],r⟩
  ·rw [beq_eq_false_iff_ne.mpr q]
   have q':¬ f k=f x:=fun z=>q (fi _ _ z).symm
   have e:valueAt ((f k,v)::vs) (f x)=valueAt vs (f x):=by simp [valueAt,q']
   rw [e]
   exact ih
theorem wD {K K':Type} [DecidableEq K] [BEq K'] [LawfulBEq K'] {f:K'→K} (fi:∀ a b,f a=f b→a=b) {ρ n h S} {x:K'} {kvs:List (K×Value)} {d:List (K'×V)} (r:RKs f ρ n h S kvs d) {mv:V} (e:d.lookup x=some mv):∃ v,valueAt kvs (f x)=some v∧RV ρ n h S v mv:=by
 rcases gr fi x r with ⟨e',_⟩ | ⟨mv',v,e',q⟩
 ·rw [e] at e';cases e'
 ·rw [e] at e';cases e';exact ⟨v,q⟩
theorem ki {K K':Type} [DecidableEq K] [BEq K'] [LawfulBEq K'] {f:K'→K} (fi:∀ a b,f a=f b→a=b) {ρ n h S} (x:K') {kvs:List (K×Value)} {d:List (K'×V)} (r:RKs f ρ n h S kvs d):(valueAt kvs (f x)).isSome=(d.lookup x).isSome:=by
 rcases gr fi x r with ⟨e,e'⟩ | ⟨mv',v,e,e',_⟩ <;> rw [e,e'] <;> rfl
section
variable {K:Fc} {d:Nat} {c:Cur} {m:Str→Option Value} {s:Shared} {Q:V→St→Prop} {X:String→St→Prop} {v u:Value} {mv mu:V}
theorem j6 (I:K.In c m s) {l:Loc} {cl:zu} (hl:c.σ.m l=some cl):((c.ρ l).2==sysModules)=false:=by
 have:(c.ρ l).2≠sysModules:=fun e=>by
  have:=I.ws.notbase _ (.inl ⟨l,_,hl,rfl⟩)
  rw [e] at this
  exact Xx this
 exact beq_eq_false_iff_ne.mpr this
theorem G7 {σ:St} {a b:V} {r:Bool} (h:inV σ a b=some r):(∃ y x,asS b=some y∧asS a=some [x]∧r=decide (x∈y))∨(∃ l,asT b=some l∧((∃ x ys,asS a=some x∧uE l=some ys∧r=decide (x∈ys))∨∃ x ys,asI a=some x∧kT l=some ys∧r=decide (x∈ys)))∨
  ∃ l,asR b=some l∧((∃ x d,asS a=some x∧dsA σ l=some d∧r=(d.lookup x).isSome)∨∃ x d,asI a=some x∧diA σ l=some d∧r=(d.lookup x).isSome):=by
 rcases zK h with h | h
 ·obtain ⟨y,hy,h⟩:=zc h
  obtain ⟨xs,hx,h⟩:=zc h
  obtain ⟨x,h1,h⟩:=zc h
  exact .inl ⟨y,x,hy,wj h1▸hx,(Option.some.inj h).symm⟩
 ·rcases zK h with h | h
  ·obtain ⟨l,hl,h⟩:=zc h
   refine .inr (.inl ⟨l,hl,(zK h).imp (fun h=>?_) fun h=>?_⟩)
   ·obtain ⟨x,hx,h⟩:=zc h
    obtain ⟨y,hy,h⟩:=zc h
    exact ⟨x,y,hx,hy,(Option.some.inj h).symm⟩
   ·obtain ⟨x,hx,h⟩:=zc h
    obtain ⟨y,hy,h⟩:=zc h
    exact ⟨x,y,hx,hy,(Option.some.inj h).symm⟩
  ·obtain ⟨l,hl,h⟩:=zc h
   refine .inr (.inr ⟨l,hl,(zK h).imp (fun h=>?_) fun h=>?_⟩)
   ·obtain ⟨x,hx,h⟩:=zc h
    obtain ⟨y,hy,h⟩:=zc h
    exact ⟨x,y,hx,hy,(Option.some.inj h).symm⟩
   ·obtain ⟨x,hx,h⟩:=zc h
    obtain ⟨y,hy,h⟩:=zc h
    exact ⟨x,y,hx,hy,(Option.some.inj h).symm⟩
theorem V0 (I:K.In c m s) {a:Addr} {o:Obj} {items:Array Value} {k:Nat} {z:Value} {f:Value→Bool} {b:Bool} (neg:Bool) (e1:c.h.get? a=some o) (e2:o.cls=.type "tuple") (e3:o.data=.seq items k) (eq:∀ y,y∈items→SeqAt.EqAt K.A.in1 s y z (f y))
  (e:items.toList.any f=b) (fin:K.LQ c s m Q (.bool (cond neg (!b) b)) s):K.EV (compareOp (cond neg .NotIn .In) z (.ref a)) c m s Q X:=by
 rw [← e,Array.any_toList] at fin
 cases neg
 ·exact SeqAt.in_tupleAt _ ⟨_,I.heap▸e1,e2,_,e3⟩ eq fin
 ·exact SeqAt.notIn_tupleAt _ ⟨_,I.heap▸e1,e2,_,e3⟩ eq fin
theorem qJ (O:K.Ok d) (I:K.In c m s) (r:c.RV K.fr v mv) (r':c.RV K.fr u mu) {b:Bool} (neg:Bool) (h:inV c.σ mv mu=some b) (q:Q (.bool (cond neg (!b) b)) c.σ):K.EV (compareOp (cond neg .NotIn .In) v u) c m s Q X:=by
 have fin:∀ tk,K.LQ c s m Q (.bool (cond neg (!b) b)) {s with toks:=tk}:=fun tk=>I.stay (tk:=tk) q (.bool _)
 clear q
 rcases G7 h with ⟨y,x,hy,hx,e⟩ | ⟨l,hl,⟨x,ys,hx,hy,e⟩ | ⟨x,ys,hx,hy,e⟩⟩ | ⟨l,hl,⟨x,dd,hx,hd,e⟩ | ⟨x,dd,hx,hd,e⟩⟩
 ·obtain ⟨t,e1⟩:=r.st hx
  obtain ⟨t',e2⟩:=r'.st hy
  have fin:=fin s.toks
  rw [e,show (decide (x∈y))=(!(Builtin.Str.occurrences (sv y) ⟨#[x]⟩ 0 (sv y).length 1).isEmpty) from (StrLaws.found_one (sv y) x).symm] at fin
  rw [e1,e2]
  cases neg
  ·exact P.in_str fin
  ·exact P.notIn_str fin
 ·obtain ⟨t,e0⟩:=r.st hx
  obtain ⟨a,o,items,k,e',e1,e2,e3,e4,e5⟩:=r'.t hl
  obtain ⟨i1,i2⟩:=VW x e5 _ hy
  rw [e0,e']
  refine V0 I neg e1 e2 e3 (fun y hy=>?_) (i1.trans e.symm) (fin s.toks)
  obtain ⟨z,t',e⟩:=i2 y (Array.mem_toList_iff.mpr hy)
  cases e
  exact (SeqRoads2.EqGives.str z (sv x) t' t).at _ _
 ·obtain ⟨t,e0⟩:=r.i hx
  obtain ⟨a,o,items,k,e',e1,e2,e3,e4,e5⟩:=r'.t hl
  obtain ⟨i1,i2⟩:=VX x e5 _ hy
  rw [e0,e']
  refine V0 I neg e1 e2 e3 (fun y hy=>?_) (i1.trans e.symm) (fin s.toks)
  obtain ⟨z,t',e⟩:=i2 y (Array.mem_toList_iff.mpr hy)
  cases e
  exact (MeetsSeq.EqGives.int z x t' t).at _ _
 ·obtain ⟨t,e0⟩:=r.st hx
  obtain ⟨e',_⟩:=r'.r hl
  obtain ⟨e1,kvs,e2,e3⟩:=I.ws.ds hd
  have fin:=fin (s.toks+1)
  rw [e,← ki (fun _ _=>uD) x e3] at fin
  have hm:=(I.heap▸e2:s.heap.DictOf (PySem.strKind pw K.w) (c.ρ l).2 kvs).mapOf
  rw [e0,e',e1]
  cases neg
  ·exact wpAny_in_of (strKind_is pw K.w _ _) (j6 I (wJ hd)) hm fin
  ·exact wpAny_notIn_of (strKind_is pw K.w _ _) (j6 I (wJ hd)) hm fin
 ·obtain ⟨t,e0⟩:=r.i hx
  obtain ⟨e',_⟩:=r'.r hl
  obtain ⟨e1,kvs,e2,e3⟩:=I.ws.di hd
  have fin:=fin (s.toks+1)
  rw [e,← ki (f:=id) (fun _ _ e=>e) x e3] at fin
  have hm:=(I.heap▸e2:s.heap.DictOf (intKind pw K.w) (c.ρ l).2 kvs).mapOf
  rw [e0,e',e1]
  cases neg
  ·exact wpAny_in_of (intKind_is pw K.w _ _) (j6 I (jX hd)) hm fin
  ·exact wpAny_notIn_of (intKind_is pw K.w _ _) (j6 I (jX hd)) hm fin
theorem W8 {ρ:Loc→Addr×Addr} {n:Nat} {h:Heap} {S:Addr→Prop} {w:World} {a:Addr} {kvs:List (Int×Value)} {i:Int} {b:Bool} (hd:h.DictOf (intKind pw w) a kvs) (r:RKs id ρ n h S kvs [(i,.bool b)]):
  ∃ o ep t,h.get? a=some o∧o.cls=.type "dict"∧o.data=.dict #[⟨hashInt i,.int i t,.bool b⟩] ep:=by
 obtain ⟨o,es,ep,e1,e2,e3,e4,e5,_⟩:=hd
 cases r with
 | cons r rs=>
  cases rs
  (first | (rcases RV.s r with ⟨_,rfl⟩) | (rcases RV.s r with ⟨rfl,_⟩) | (rcases RV.s r with rfl) | cases r)
  obtain ⟨es⟩:=es
  cases e5 with
  | @cons e kv es' _ k1 k2 k3=>
   cases k3
   obtain ⟨k,k5,k6⟩:=e4 e (by simp_all)
   obtain ⟨t,k4⟩:=Value.isInt_shape (by simpa [intKind] using k1)
   have:k=i:=by
    have:=(intKind pw w).inj _ _ _ k5 k1
    exact this
   subst this
   refine ⟨o,ep,t,e1,e2.1,?_⟩
   rw [e3]
   obtain ⟨hs,ky,vl⟩:=e
   simp only at k1 k2 k4 k6
   subst k4 k2 k6
   simp_all [intKind]
theorem Gl (O:K.Ok d) (I:K.In c m s) (r:c.RV K.fr v mv) (r':c.RV K.fr u mu) {b:Bool} (h:MW c.σ mv mu=some b) (q:Q (.bool b) c.σ):K.EV (compareOp .NotEq v u) c m s Q X:=by
 obtain ⟨l,hl,h⟩:=zc h
 obtain ⟨l',hl',h⟩:=zc h
 obtain ⟨d1,h1,h⟩:=zc h
 obtain ⟨d2,h2,h⟩:=zc h
 obtain ⟨p,g1,h⟩:=zc h
 obtain ⟨p',g2,h⟩:=zc h
 obtain ⟨a,k1,h⟩:=zc h
 obtain ⟨b',k2,h⟩:=zc h
 have h1':=h1;have h2':=h2
 rw [wj g1,show p=(p.1,.bool a) from Prod.ext rfl (ZQ k1)] at h1
 rw [wj g2,show p'=(p'.1,.bool b') from Prod.ext rfl (ZQ k2)] at h2
 rw [← Option.some.inj h] at q
 clear h k1 k2 g1 g2
 obtain ⟨e1,kvs,e2,e3⟩:=I.ws.di h1
 obtain ⟨f1,kvs',f2,f3⟩:=I.ws.di h2
 obtain ⟨o,ep,t,g1,g2,g3⟩:=W8 e2 e3
 obtain ⟨o',ep',t',k1,k2,k3⟩:=W8 f2 f3
 rw [(r.r hl).1,(r'.r hl').1,e1,f1]
 exact WH (j6 I (jX h1')) (j6 I (jX h2')) (I.heap▸g1) g3 (I.heap▸k1) k3 g2 k2 (SeqAt.EqAt.bool_bool a b') (Nat.lt_of_le_of_lt (Nat.le_add_right _ _) (uA O)) (I.stay (tk:=s.toks) q (.bool _))
theorem Zy {f:Int→Int→Bool} {b:Bool} (h:ii mv mu f=some b) (r:c.RV K.fr v mv) (r':c.RV K.fr u mu) {G:Value→Value→Prop} (k:∀ x t y t',f x y=b→G (.int x t) (.int y t')):G v u:=by
 obtain ⟨x,hx,h⟩:=zc h
 obtain ⟨y,hy,h⟩:=zc h
 obtain ⟨t,e⟩:=r.i hx
 obtain ⟨t',e'⟩:=r'.i hy
 rw [e,e']
 exact k x t y t' (Option.some.inj h)
theorem Qc {f:List Nat→List Nat→Bool} {b:Bool} (h:(bd (asS mv) fun x=>bd (asS mu) fun y=>some (f x y))=some b) (r:c.RV K.fr v mv) (r':c.RV K.fr u mu) {G:Value→Value→Prop} (k:∀ x t y t',f x y=b→G (.str (sv x) t) (.str (sv y) t')):G v u:=by
 obtain ⟨x,hx,h⟩:=zc h
 obtain ⟨y,hy,h⟩:=zc h
 obtain ⟨t,e⟩:=r.st hx
 obtain ⟨t',e'⟩:=r'.st hy
 rw [e,e']
 exact k x t y t' (Option.some.inj h)
theorem vy (O:K.Ok d) (I:K.In c m s) (r:c.RV K.fr v mv) (r':c.RV K.fr u mu) {o:Cop} {b:Bool} (h:j9 c.σ o mv mu=some b) (q:Q (.bool b) c.σ):K.EV (compareOp o.op v u) c m s Q X:=by
 have fin:K.LQ c s m Q (.bool b) s:=I.stay (tk:=s.toks) q (.bool _)
 induction o using Cop.casesOn with
 | eq=>exact MQ O I r r' h q
 | ne=>
  rcases zK h with h | h
  ·exact Gl O I r r' h q
  ·obtain ⟨b',hb,e⟩:=zc h
   exact MP O I r r' hb (Option.some.inj e▸q)
 | isin=>exact qJ O I r r' false h q
 | notin=>
  obtain ⟨b',hb,e⟩:=zc h
  exact qJ O I r r' true hb (Option.some.inj e▸q)
 | is_=>
  obtain ⟨_,hb,e⟩:=zc h
  rw [r'.no hb]
  have:(v==.none)=(asN mv).isSome:=by cases r <;> rfl
  exact PySem.is_none (this.trans (Option.some.inj e)▸fin)
 | lt=>exact Zy (G:=fun v u=>K.EV (compareOp .Lt v u) c m s Q X) h r r' fun x t y t' e=>P.lt_int (e▸fin)
 | gt=>exact Zy (G:=fun v u=>K.EV (compareOp .Gt v u) c m s Q X) h r r' fun x t y t' e=>P.gt_int (e▸fin)
 | ge=>exact Zy (G:=fun v u=>K.EV (compareOp .GtE v u) c m s Q X) h r r' fun x t y t' e=>P.ge_int (e▸fin)
 | le=>
  rcases zK h with h | h
  ·exact Zy (G:=fun v u=>K.EV (compareOp .LtE v u) c m s Q X) h r r' fun x t y t' e=>P.le_int (e▸fin)
  ·exact Qc (G:=fun v u=>K.EV (compareOp .LtE v u) c m s Q X) h r r' fun x t y t' e=>P.le_str (e▸fin)
end
theorem RVs.append {ρ n h S} {vs ws:List Value} {a b:List V} (r:RVs ρ n h S vs a) (r':RVs ρ n h S ws b):RVs ρ n h S (vs++ws) (a++b):=
 r.ind (P:=fun vs a=>RVs ρ n h S (vs++ws) (a++b)) r' fun _ _ _ _ x _ y=>.cons x y
theorem RVs.get {ρ n h S} {vs:List Value} {a:List V} (r:RVs ρ n h S vs a) {i:Nat} {u:V} (e:a[i]?=some u):∃ v,vs[i]?=some v∧RV ρ n h S v u:=
 r.ind (P:=fun vs a=>∀ i,a[i]?=some u→∃ v,vs[i]?=some v∧RV ρ n h S v u) (fun _ e=>zL e) (fun v mv _ _ x _ y i=>Nat.casesOn i (fun e=>⟨v,rfl,Option.some.inj e▸x⟩) fun i=>y i) i e
theorem RVs.drop {ρ n h S} (i:Nat) {vs:List Value} {a:List V} (r:RVs ρ n h S vs a):RVs ρ n h S (vs.drop i) (a.drop i):=
 r.ind (P:=fun vs a=>∀ i,RVs ρ n h S (vs.drop i) (a.drop i)) (fun i=>by rw [List.drop_nil,List.drop_nil];exact .nil) (fun _ _ _ _ x xs y i=>Nat.casesOn i (.cons x xs) fun i=>y i) i
theorem RVs.take {ρ n h S} (i:Nat) {vs:List Value} {a:List V} (r:RVs ρ n h S vs a):RVs ρ n h S (vs.take i) (a.take i):=
 r.ind (P:=fun vs a=>∀ i,RVs ρ n h S (vs.take i) (a.take i)) (fun i=>by rw [List.take_nil,List.take_nil];exact .nil) (fun _ _ _ _ x xs y i=>Nat.casesOn i .nil fun i=>.cons x (y i)) i
theorem YF {a b:Int} (h:0 < b):a.fmod b=a % b:=Int.fmod_eq_emod_of_nonneg _ (Int.le_of_lt h)
section
variable {K:Fc} {d:Nat} {R:Rel} {sc:List (Str×NameKind)} {c:Cur} {m:Str→Option Value} {s:Shared} {Q:V→St→Prop} {X:String→St→Prop} {v u:Value} {mv mu:V}
theorem yO {z:List Nat}:(sv z).length=z.length:=List.size_toArray
theorem VZ (I:K.In c m s) {x y:List Nat} {t t':Tok} (hz:x.length+y.length≤1000000) (q:Q (.str (x++y)) c.σ):K.EV (binaryOp .Add (.str (sv x) t) (.str (sv y) t')) c m s Q X:=by
 refine P.add_str ?_
 cases x with
 | nil=>rw [if_pos (by rw [yO];rfl)];exact I.stay (tk:=s.toks) q (.str _ _)
 | cons a x=>
  rw [if_neg (by rw [yO];exact Bool.false_ne_true)]
  cases y with
  | nil=>rw [if_pos (by rw [yO];rfl)];rw [List.append_nil] at q;exact I.stay (tk:=s.toks) q (.str _ _)
  | cons b y=>
   rw [if_neg (by rw [yO];exact Bool.false_ne_true)]
   have e:sv (a::x)++sv (b::y)=sv (a::x++b::y):=congrArg Str.mk (List.append_toArray _ _)
   rw [e]
   exact ⟨by rw [yO,List.length_append,sizeLine_eq];exact Nat.le_trans hz (Nat.le_of_ble_eq_true rfl),I.stay q (.str _ _)⟩
theorem WG {ρ n h S} {items:Array Value} {x:List V} (e5:RVs ρ n h S items.toList x) (hv:items.isEmpty=true):x=[]:=by
 rw [Array.isEmpty_iff] at hv
 rw [hv] at e5
 exact List.eq_nil_of_length_eq_zero e5.len.symm
theorem VY (I:K.In c m s) {a b:Addr} {items items2:Array Value} {k k2:Nat} {x y:List V} {o o2:Obj} (e1:c.h.get? a=some o) (e2:o.cls=.type "tuple") (e3:o.data=.seq items k) (e4:¬ Mut c.σ c.ρ K.fr a) (e5:RVs c.ρ c.σ.nx c.h (Mut c.σ c.ρ K.fr) items.toList x)
  (f1:c.h.get? b=some o2) (f2:o2.cls=.type "tuple") (f3:o2.data=.seq items2 k2) (f4:¬ Mut c.σ c.ρ K.fr b) (f5:RVs c.ρ c.σ.nx c.h (Mut c.σ c.ρ K.fr) items2.toList y) (hz:x.length+y.length≤1000000) (q:Q (.tup (x++y)) c.σ):
  K.EV (binaryOp .Add (.ref a) (.ref b)) c m s Q X:=by
 obtain ⟨cls,dd,data,sl⟩:=o
 obtain ⟨cls2,dd2,data2,sl2⟩:=o2
 cases e2;cases e3;cases f2;cases f3
 have ho:=I.heap▸e1
 have ho2:=I.heap▸f1
 have T:s.TypeIs (.ref a) "tuple":=⟨_,ho,rfl⟩
 have T2:s.TypeIs (.ref b) "tuple":=⟨_,ho2,rfl⟩
 have go:=fun {E} (w:Meets (Builtin.«tuple.__add__» ⟨[.ref a,.ref b],[]⟩) E) z=>concat_meets (Q:=K.LQ c s m Q) (E:=K.LX c s m X) (A:=K.A) (prog:=pw) (w:=K.w) T T2 noFill_tuple_add seq_tuple_add PySem.F.slot_tuple_add PySem.F.entry_tuple_add (PySem.F.args_tuple_add_2 _ _) w z
 by_cases hv:items.isEmpty=true
 ·rw [WG e5 hv] at q
  exact go (tuple_addW0 a b items items2 _ _ dd dd2 sl sl2 hv) ⟨ho,ho2,I.stay (tk:=s.toks) q (.tup f1 rfl rfl f4 f5)⟩
 ·by_cases hw:items2.isEmpty=true
  ·rw [WG f5 hw,List.append_nil] at q
   exact go (tuple_addW1 a b items items2 _ _ dd dd2 sl sl2 hv hw) ⟨ho,ho2,I.stay (tk:=s.toks) q (.tup e1 rfl rfl e4 e5)⟩
  ·refine go (tuple_addW2 a b items items2 _ _ dd dd2 sl sl2 hv hw ?_) ⟨ho,ho2,I.frozen _ q s.toks fun h' k e n=>.tup e rfl rfl n (by rw [Array.toList_append];exact (RVs.grow e5 k).append (RVs.grow f5 k))⟩
   rw [← Array.length_toList,← Array.length_toList,e5.len,f5.len,sizeLine_eq]
   exact Nat.le_trans hz (Nat.le_of_ble_eq_true rfl)
theorem He (I:K.In c m s) (r:c.RV K.fr v mv) (r':c.RV K.fr u mu) {k:Nat} {o:Bop} (h:GB k o mv mu c.σ Q):K.EV (binaryOp o.op v u) c m s Q X:=by
 induction o using Bop.casesOn with
 | add=>
  rcases VN h with ⟨x,hx,h⟩ | ⟨x,hx,h⟩ | ⟨x,hx,h⟩ | ⟨x,hx,h⟩
  ·obtain ⟨y,hy,q⟩:=zd h
   obtain ⟨t,e⟩:=r.i hx
   obtain ⟨t',e'⟩:=r'.i hy
   rw [e,e']
   exact P.add_int (I.stay q (.int _ _))
  ·obtain ⟨y,hy,hz,q⟩:=zd h
   obtain ⟨t,e⟩:=r.st hx
   obtain ⟨t',e'⟩:=r'.st hy
   rw [e,e']
   exact VZ I hz q
  ·obtain ⟨y,hy,hz,q⟩:=zd h
   obtain ⟨a,o,items,k,e,e1,e2,e3,e4,e5⟩:=r.t hx
   obtain ⟨b,o2,items2,k2,e',f1,f2,f3,f4,f5⟩:=r'.t hy
   rw [e,e']
   exact VY I e1 e2 e3 e4 e5 f1 f2 f3 f4 f5 hz q
  ·exact h.elim
 | sub=>
  obtain ⟨x,hx,h⟩:=zd h
  obtain ⟨y,hy,q⟩:=zd h
  obtain ⟨t,e⟩:=r.i hx
  obtain ⟨t',e'⟩:=r'.i hy
  rw [e,e']
  exact P.sub_int (I.stay q (.int _ _))
 | mul=>exact h.elim
 | mod=>
  obtain ⟨x,hx,h⟩:=zd h
  obtain ⟨y,hy,hp,q⟩:=zd h
  obtain ⟨t,e⟩:=r.i hx
  obtain ⟨t',e'⟩:=r'.i hy
  rw [e,e']
  refine mod_int' (Int.ne_of_gt hp) ?_
  rw [YF hp]
  exact I.stay q (.int _ _)
theorem Q5 {e:E} {x:Expr} (h:okE sc e x=true) (o i:Value):subscripted x false o i=operate [o,i] (getItem o i):=by
 induction x using PySem.Expr.casesOn with
 | Slice=>exact zk (by induction e using Mine.E.casesOn <;> exact h)
 | _=>rfl
theorem gy {i:Int} {n j:Nat} (h:ym i n=some j):0≤i∧i < n∧i < 1000000∧i.toNat=j:=
 have p:=xI h
 ⟨p.1.1,p.1.2.1,p.1.2.2,p.2⟩
theorem Xj {i:Int} {n:Nat} (h0:0≤i) (h1:i < n):seqIndex? i n=some i.toNat:=by
 unfold seqIndex?
 have e:(if i < 0 then i+(n:Int) else i)=i:=if_neg (Int.not_lt.mpr h0)
 simp only [e,h0,h1,decide_true,Bool.and_self,if_true]
theorem Kc {σ:St} {v i z:V} (h:zD σ v i=some z):(∃ i',asI i=some i'∧((∃ l j,vj σ v=some l∧ym i' l.length=some j∧l[j]?=some z)∨(∃ s j w,asS v=some s∧ym i' s.length=some j∧s[j]?=some w∧.str [w]=z)∨∃ l d,asR v=some l∧diA σ l=some d∧d.lookup i'=some z))∨
  ∃ k l d,asS i=some k∧asR v=some l∧dsA σ l=some d∧d.lookup k=some z:=by
 rcases zK h with h | h
 ·obtain ⟨i',hi,h⟩:=zc h
  refine .inl ⟨i',hi,(zK h).imp (fun h=>?_) fun h=>(zK h).imp (fun h=>?_) fun h=>?_⟩
  ·obtain ⟨l,hl,h⟩:=zc h
   obtain ⟨j,hj,h⟩:=zc h
   exact ⟨l,j,hl,hj,h⟩
  ·obtain ⟨l,hl,h⟩:=zc h
   obtain ⟨j,hj,h⟩:=zc h
   obtain ⟨w,hw,h⟩:=zc h
   exact ⟨l,j,w,hl,hj,hw,Option.some.inj h⟩
  ·obtain ⟨l,hl,h⟩:=zc h
   obtain ⟨d,hd,h⟩:=zc h
   exact ⟨l,d,hl,hd,h⟩
 ·obtain ⟨k,hk,h⟩:=zc h
  obtain ⟨l,hl,h⟩:=zc h
  obtain ⟨d,hd,h⟩:=zc h
  exact .inr ⟨k,l,d,hk,hl,hd,h⟩
theorem Fc.In.seq (I:K.In c m s) (r:c.RV K.fr v mv) {l:List V} (h:vj c.σ mv=some l):∃ a items,v=.ref a∧(IsTup s.heap a items∨s.heap.IsList a items)∧RVs c.ρ c.σ.nx c.h (Mut c.σ c.ρ K.fr) items.toList l:=by
 rw [I.heap]
 rcases zK h with h | h
 ·obtain ⟨a,o,items,k,e,e1,e2,e3,_,e5⟩:=r.t h
  exact ⟨a,items,e,.inl ⟨o,e1,e2,k,e3⟩,e5⟩
 ·rcases zK h with h | h
  ·obtain ⟨a,o,items,k,e,e1,e2,e3,_,e5⟩:=r.f h
   exact ⟨a,items,e,.inr ⟨o,e1,e2,k,e3⟩,e5⟩
  ·obtain ⟨l',hl,h⟩:=zc h
   obtain ⟨e,items,k,e1,e2⟩:=I.ws.ls h
   exact ⟨_,items,(r.r hl).1.trans (congrArg _ e),.inr ⟨_,e1,rfl,k,rfl⟩,e2⟩
theorem V4 (I:K.In c m s) (r:c.RV K.fr v mv) (r':c.RV K.fr u mu) {z:V} (h:zD c.σ mv mu=some z) (q:Q z c.σ):K.EV (getItem v u) c m s Q X∧∃ T id,s.TypeIs v T∧typeLookup (.type T) "__getitem__"=pure (some (.builtin id)):=by
 rcases Kc h with ⟨i,hi,⟨l,j,hl,hj,hz⟩ | ⟨l,j,w,hl,hj,hz,e⟩ | ⟨l,d,hl,hd,hz⟩⟩ | ⟨k,l,d,hk,hl,hd,hz⟩
 ·obtain ⟨h0,h1,h2,ej⟩:=gy hj
  obtain ⟨a,items,e,hT,e5⟩:=I.seq r hl
  obtain ⟨t,e'⟩:=r'.i hi
  obtain ⟨x,hx,rx⟩:=e5.get hz
  rw [e,e']
  rw [← ej,Array.getElem?_toList] at hx
  rw [← e5.len,Array.length_toList] at h1
  rcases hT with ht | ht
  ·exact ⟨PyProof.Rows.getItem_tuple ht (Int.le_trans (by decide) h0) (by omega) (Xj h0 h1) hx (I.stay (tk:=s.toks) q rx),_,_,ht.typeIs,slot_tuple_getitem.lookup⟩
  ·exact ⟨wpAny_getItem_list ht h0 (by omega) hx (I.stay (tk:=s.toks) q rx),_,_,ht.typeIs,slot_list_getitem.lookup⟩
 ·obtain ⟨h0,h1,h2,ej⟩:=gy hj
  obtain ⟨t,e0⟩:=r.st hl
  obtain ⟨t',e'⟩:=r'.i hi
  rw [e0,e']
  rw [← e] at q
  refine ⟨P.getItem_str (c:=w) ?_ ?_ (I.stay q (.str _ _)),_,_,typeIs_str s _ _,F.slot_str_getitem.lookup⟩
  ·simp only [Bool.or_eq_false_iff,decide_eq_false_iff_not];omega
  ·rw [Xj h0 (by rw [yO];exact h1),ej]
   exact (List.getElem?_toArray ..).trans hz
 ·obtain ⟨t',e'⟩:=r'.i hi
  obtain ⟨e,kvs,e1,e2⟩:=I.ws.di hd
  obtain ⟨x,hx,rx⟩:=wD (f:=id) (fun _ _ e=>e) e2 hz
  rw [(r.r hl).1,e',e]
  have hd:=(I.heap▸e1:s.heap.DictOf (intKind pw K.w) (c.ρ l).2 kvs)
  exact ⟨wpAny_getItem_of (intKind_is pw K.w _ _) hd.mapOf hx (I.stay q rx),_,_,hd.typeIs,slot_dict_getitem.lookup⟩
 ·obtain ⟨t',e'⟩:=r'.st hk
  obtain ⟨e,kvs,e1,e2⟩:=I.ws.ds hd
  obtain ⟨x,hx,rx⟩:=wD (fun _ _=>uD) e2 hz
  rw [(r.r hl).1,e',e]
  have hd:=(I.heap▸e1:s.heap.DictOf (PySem.strKind pw K.w) (c.ρ l).2 kvs)
  exact ⟨wpAny_getItem_of (strKind_is pw K.w _ _) hd.mapOf hx (I.stay q rx),_,_,hd.typeIs,slot_dict_getitem.lookup⟩
theorem Gk (I:K.In c m s) (r:c.RV K.fr v mv) (r':c.RV K.fr u mu) {z:V} (h:zD c.σ mv mu=some z) (q:Q z c.σ) (value slice:Expr) (hs:subscripted slice false v u=operate [v,u] (getItem v u)):
  K.EV (subscriptTail value slice v u) c m s Q X:=by
 obtain ⟨g,T,id,hT,hl⟩:=V4 I r r' h q
 exact tail_any hT hl g hs
theorem N2 {e i:E} {x:Expr} (h:okE sc (.ix e i) x=true) (ihe:∀ y,okE sc e y=true→SE K R e y) (ihi:∀ y,okE sc i y=true→SE K R i y):SE K R (.ix e i) x:=by
 refine qX.el (fun o j p h=>?_) h
 obtain ⟨h1,h2⟩:=zb h
 exact fun F c m s Q X I FR hw=>Subscript_ (EV.two (ihe _ h1) (ihi _ h2) I FR hw fun I r r' q=>
  let ⟨_,hz,q⟩:=zd q
  Gk I r r' hz q _ _ (Q5 h2 _ _))
end
noncomputable def kJ (n:Nat) (dflt:Int) (v:Value) (o:Option (Int×Tok)) (a:Nat):Prop:=v=partValue o∧(a:Int)=(match o with | none=>dflt | some (i,_)=>max 0 (min (if i < 0 then i+n else i) n))∧a≤n
theorem Gu {n i:Int} (h:0≤n):0≤max 0 (min i n)∧max 0 (min i n)≤n:=⟨Int.le_max_left ..,Int.max_le.mpr ⟨h,Int.min_le_right ..⟩⟩
theorem Je {ρ nx h S} {v:Value} {mv:V} {dflt:Int} {n a:Nat} (r:RV ρ nx h S v mv) (h:kt mv dflt n=some a) (hd:0≤dflt∧dflt≤n):∃ o,kJ n dflt v o a:=by
 rcases zK h with h | h
 ·obtain ⟨_,hv,h⟩:=zc h
  have e:=Int.toNat_of_nonneg hd.1
  rw [Option.some.inj h] at e
  exact ⟨none,r.no hv,e,Int.ofNat_le.mp (e▸hd.2)⟩
 ·obtain ⟨i,hi,h⟩:=zc h
  obtain ⟨t,ev⟩:=r.i hi
  obtain ⟨l1,l2⟩:=Gu (i:=if i < 0 then i+n else i) (Int.natCast_nonneg n)
  have e:=Int.toNat_of_nonneg l1
  rw [Option.some.inj h] at e
  exact ⟨some (_,t),ev,e,Int.ofNat_le.mp (e▸l2)⟩
theorem kJ.isPart {n:Nat} {dflt:Int} {v:Value} {o:Option (Int×Tok)} {a:Nat} (h:kJ n dflt v o a):IsPart v (o.map (·.1)):=by
 obtain ⟨rfl,_⟩:=h
 cases o with
 | none=>exact .none
 | some p=>exact .int _ _
theorem ZW {n a b:Nat} {v w:Value} {l u:Option (Int×Tok)} (ha:kJ n 0 v l a) (hb:kJ n n w u b):Builtin.Str.strSliceIndices (l.map (·.1)) (u.map (·.1)) 1 n=(List.range (b - a)).map (a+·):=by
 obtain ⟨_,ea,_⟩:=ha
 obtain ⟨_,eb,_⟩:=hb
 unfold Builtin.Str.strSliceIndices
 simp only [show (1:Int) > 0 by decide,if_true]
 rw [← sliceRange_one]
 congr 1
 ·rw [ea];cases l <;> rfl
 ·rw [eb];cases u <;> rfl
theorem Kt {n a b:Nat} {v w:Value} {l u:Option (Int×Tok)} (ha:kJ n 0 v l a) (hb:kJ n n w u b):sliceBounds (l.map (·.1)) (u.map (·.1)) none n=((a:Int),(b:Int),1):=by
 obtain ⟨_,ea,_⟩:=ha
 obtain ⟨_,eb,_⟩:=hb
 unfold sliceBounds
 simp only [Option.getD_none,show (1:Int) > 0 by decide,if_true]
 congr 1
 ·rw [ea];cases l <;> rfl
 ·congr 1;rw [eb];cases u <;> rfl
theorem Jd {items:Array Value} {a b:Nat} {v w:Value} {l u:Option (Int×Tok)} (ha:kJ items.size 0 v l a) (hb:kJ items.size items.size w u b):slicePick items (l.map (·.1)) (u.map (·.1)) none=(pySl items.toList a b).toArray:=by
 unfold slicePick
 rw [Kt ha hb]
 simp only [sliceRange_one,pick_run]
 rfl
theorem YZ (n:Nat) (hn:1≤n):Builtin.Slice.sliceAdjust none (some (-1)) 1 (n:Int)=(0,((n - 1:Nat):Int)):=by
 unfold Builtin.Slice.sliceAdjust
 simp only [show ¬ ((1:Int) < 0) by decide,if_false,show ((-1:Int) < 0) by decide,if_true]
 congr 1
 omega
theorem Yb (n:Nat) (hn:1≤n):Builtin.Slice.slicePlaces 0 ((n - 1:Nat):Int) 1=n - 1:=by
 unfold Builtin.Slice.slicePlaces
 simp only [show (1:Int) > 0 by decide,if_true,Int.ediv_one]
 split <;> omega
section
variable {w:World} {A:Around} {E:Value→Shared→Prop} {s:Shared}
theorem we {sl:Addr} {n:Nat} {u:Tok} {Q:Int×Int×Nat→Shared→Prop} (hs:s.heap.IsSliceOf sl .none (.int (-1) u) .none) (hn:1≤n) (h:Q (0,1,n - 1) s):
  wpAny (model pw w) A (Builtin.Slice.sliceApplied (.ref sl) (pure (n:Int))) Q E s:=by
 obtain ⟨os,hos,hcs,hds⟩:=id hs
 unfold Builtin.Slice.sliceApplied Builtin.Slice.sliceFields
 refine wpAny_bind (wpAny_bind (wpAny_field hos hds (x:=.none) rfl (wpAny_bind (wpAny_field hos hds (x:=.int (-1) u) rfl (wpAny_bind (wpAny_field hos hds (x:=.none) rfl (wpAny_pure ?_)))))))
 refine wpAny_bind (slicePart_none ?_)
 show wpAny _ _ (if ((1:Int)==0)=true then _ else _) _ _ s
 rw [if_neg (by decide)]
 refine wpAny_bind (slicePart_none (wpAny_bind (slicePart_int (wpAny_bind (wpAny_pure ?_)))))
 show wpAny _ _ (match Builtin.Slice.sliceAdjust none (some (-1:Int)) 1 (n:Int) with | (lo,hi)=>pure (lo,(1:Int),Builtin.Slice.slicePlaces lo hi 1)) _ _ s
 rw [YZ n hn]
 show wpAny _ _ (pure ((0:Int),(1:Int),Builtin.Slice.slicePlaces 0 ((n - 1:Nat):Int) 1)) _ _ s
 rw [Yb n hn]
 exact wpAny_pure h
theorem K4 (xs:Array Value):((List.range (xs.size - 1)).filterMap fun (k:Nat)=>xs[((0:Int)+(k:Int) * 1).toNat]?).toArray=xs.toList.dropLast.toArray:=by
 have e:(fun (k:Nat)=>xs[((0:Int)+(k:Int) * 1).toNat]?)=(fun x=>xs[x]?)∘fun x=>0+x:=by
  funext k
  have:((0:Int)+(k:Int) * 1).toNat=0+k:=by omega
  simp only [Function.comp]
  rw [this]
 have:=pick_run xs 0 (xs.size - 1)
 rw [List.filterMap_map] at this
 rw [e,this,List.drop_zero,List.dropLast_eq_take,Array.length_toList]
theorem kY {t sl:Addr} {items:Array Value} {u:Tok} {Q:Value→Shared→Prop} (ht:IsTup s.heap t items) (hs:s.heap.IsSliceOf sl .none (.int (-1) u) .none) (hn:1≤items.size)
  (h:Q (.ref s.heap.objs.size) {s with heap:=s.heap.push {cls:=.type "tuple",data:=.seq items.toList.dropLast.toArray}})
  (hsz:items.size≤sizeLine):wpAny (model pw w) A (getItem (.ref t) (.ref sl)) Q E s:=by
 have hdrop:sizeOk (.seq items.toList.dropLast.toArray):=by
  show items.toList.dropLast.toArray.size≤sizeLine
  rw [List.size_toArray,List.length_dropLast,Array.length_toList]
  omega
 obtain ⟨os,hos,hcs,hds⟩:=id hs
 have hTs:s.TypeIs (.ref sl) "slice":=⟨os,hos,hcs⟩
 unfold getItem
 refine wpAny_holding ?_
 refine wpAny_bind (wpAny_sequenceKey ht.typeIs (by decide) ?_)
 refine wpAny_bind (wpAny_callSpecial?_slot (name:=Str.ofString "__getitem__") ht.typeIs slot_tuple_getitem
  (wpAny_call_entry slot_tuple_getitem ht.typeIs entry_tuple_getitem ?_ (args_tuple_getitem _ _)))
 show wpAny _ _ (Builtin.Tuple.tupleItemsOf (.ref t) >>= _) _ _ s
 refine wpAny_bind (tupleItemsOf_ ht ?_)
 refine wpAny_bind (wpAny_typeOf hTs ?_)
 rw [if_pos (by decide)]
 refine wpAny_bind (we hs hn ?_)
 have hno:¬ (((0:Int)==0&&(1:Int)==1&&(items.size - 1)==items.size)=true):=by
  have:((items.size - 1)==items.size)=false:=by rw [beq_eq_false_iff_ne];omega
  rw [this];simp
 show wpAny _ _ (if ((0:Int)==0&&(1:Int)==1&&(items.size - 1)==items.size)=true then _ else _) _ _ s
 rw [if_neg hno,K4 items]
 first
  | exact wpAny_bind (m:=Builtin.Tuple.tupleExact _) (wpAny_newObj_type (wpAny_pure ⟨_,rfl,wpAny_pure h⟩) hdrop)
  | exact wpAny_bind (m:=Builtin.Tuple.tupleExact _) (wpAny_newObj_type (wpAny_bind (wpAny_pure (wpAny_pure ⟨_,rfl,wpAny_pure h⟩))) hdrop)
  | exact wpAny_bind (wpAny_bind (m:=Builtin.Tuple.tupleExact _) (wpAny_newObj_type (wpAny_pure (wpAny_pure ⟨_,rfl,wpAny_pure h⟩)) hdrop))
  | exact wpAny_bind (wpAny_bind (m:=Builtin.Tuple.tupleExact _) (wpAny_newObj_type (wpAny_pure ⟨_,rfl,wpAny_pure h⟩) hdrop))
end
theorem RVs.dropLast {ρ n h S} {vs:List Value} {a:List V} (r:RVs ρ n h S vs a):RVs ρ n h S vs.dropLast a.dropLast:=by
 rw [List.dropLast_eq_take,List.dropLast_eq_take,r.len];exact r.take _
theorem RVs.pySl {ρ n h S} {vs:List Value} {l:List V} (r:RVs ρ n h S vs l) (a b:Nat):RVs ρ n h S (pySl vs a b) (pySl l a b):=(r.drop a).take _
section
variable {K:Fc} {d:Nat} {R:Rel} {sc:List (Str×NameKind)} {c:Cur} {m:Str→Option Value} {s:Shared} {Q:V→St→Prop} {X:String→St→Prop} {v u x:Value} {mv mu mx:V}
theorem Vk (I:K.In c m s) (r:c.RV K.fr v mv) (ra:c.RV K.fr u mu) (rb:c.RV K.fr x mx) {k:Nat} (h:y0 k mv mu mx c.σ Q) (value:Expr) (lo hi:Option Expr) (p:Pos):
  wpAny (model pw K.w) K.A (subscriptTail value (.Slice lo hi none p) v (.ref s.heap.objs.size)) (K.LQ c s m Q) (K.LX c s m X) {s with heap:=s.heap.push {cls:=.type "slice",data:=.fields #[u,x,.none]}}:=by
 obtain ⟨I',E⟩:=I.grow (h':=c.h.push {cls:=.type "slice",data:=.fields #[u,x,.none]}) (fun b o' e=>Heap.get?_push_of_some _ e) s.toks
 rw [← I.heap] at I' E
 have hsl:(s.heap.push {cls:=.type "slice",data:=.fields #[u,x,.none]}).IsSliceOf s.heap.objs.size u x .none:=.new _ _ _ _
 have fin:∀ {v:Value} {s'':Shared},K.LQ ⟨c.σ,c.ρ,s.heap.push {cls:=.type "slice",data:=.fields #[u,x,.none]}⟩ {s with heap:=s.heap.push {cls:=.type "slice",data:=.fields #[u,x,.none]}} m Q v s''→K.LQ c s m Q v s'':=fun y=>y.from E rfl rfl
 unfold y0 at h
 rcases VN h with ⟨_,_,h⟩ | ⟨l,hl,h⟩ | ⟨l,hl,h⟩ | ⟨l,hl,h⟩
 ·exact h.elim
 ·obtain ⟨a,ha,h⟩:=zd h
  obtain ⟨b,hb,hz,q⟩:=zd h
  obtain ⟨t,ev⟩:=r.st hl
  obtain ⟨o,ho⟩:=Je ra ha ⟨Int.le_refl _,Int.natCast_nonneg _⟩
  obtain ⟨o',ho'⟩:=Je rb hb ⟨Int.natCast_nonneg _,Int.le_refl _⟩
  have ei:slicePicked (sv l) o o' none=(List.range (b - a)).map (a+·):=by
   unfold slicePicked;rw [yO];exact ZW ho ho'
  have ep:((slicePicked (sv l) o o' none).filterMap ((sv l).cps[·]?))=pySl l a b:=by
   rw [ei,pick_run];rfl
  have lp:(pySl l a b).length≤l.length:=by
   unfold pySl;rw [List.length_take,List.length_drop];exact Nat.le_trans (Nat.min_le_right ..) (Nat.sub_le ..)
  rw [ev]
  refine tail_any (typeIs_str _ _ _) F.slot_str_getitem.lookup (wpAny_getItem_str_slice (l:=o) (u:=o') (st:=none) ?_ rfl ?_) rfl
  ·obtain ⟨ob,h1,h2,h3⟩:=hsl
   exact ⟨ob,h1,h2,by rw [h3,ho.1,ho'.1];rfl⟩
  ·unfold sliceMade
   split
   ·rename_i q'
    rw [ei] at q'
    simp only [List.length_map,List.length_range,yO,Bool.and_eq_true,beq_iff_eq] at q'
    have:pySl l a b=l:=by
     have e1:=ho.2.2;have e2:=ho'.2.2
     unfold pySl
     rcases Nat.eq_zero_or_pos l.length with z | z
     ·rw [List.eq_nil_of_length_eq_zero z,List.drop_nil,List.take_nil]
     ·have:a=0:=by omega
      rw [this,List.drop_zero,List.take_of_length_le (by omega)]
    rw [this] at q
    exact fin (I'.stay (tk:=s.toks) q (.str _ _))
   ·rw [ep]
    exact ⟨by show (sv (pySl l a b)).length≤_;rw [yO,sizeLine_eq];exact Nat.le_trans lp (Nat.le_trans hz (Nat.le_of_ble_eq_true rfl)),fin (I'.stay q (.str _ _))⟩
 ·obtain ⟨_,hu,h⟩:=zd h
  obtain ⟨i,hi,ei,h1,h2,q⟩:=zd h
  obtain ⟨t,e'⟩:=rb.i hi
  obtain ⟨a,o,items,k,e,e1,e2,e3,e4,e5⟩:=r.t hl
  rw [ra.no hu,e',ei] at hsl fin I' E ⊢
  rw [e]
  have g:IsTup (s.heap.push {cls:=.type "slice",data:=.fields #[.none,.int (-1) t,.none]}) a items:=⟨o,Heap.get?_push_of_some _ (I.heap▸e1),e2,_,e3⟩
  rw [← e5.len,Array.length_toList] at h1 h2
  exact tail_any (s:={s with heap:=s.heap.push {cls:=.type "slice",data:=.fields #[.none,.int (-1) t,.none]}}) g.typeIs slot_tuple_getitem.lookup
   (kY g hsl h1 (fin (I'.frozen _ q s.toks fun h' k e n=>.tup e rfl rfl n (RVs.grow (E.rvs e5).dropLast k))) (by rw [sizeLine_eq];exact Nat.le_trans h2 (Nat.le_of_ble_eq_true rfl))) rfl
 ·obtain ⟨vs,hv,h⟩:=zd h
  obtain ⟨a,ha,h⟩:=zd h
  obtain ⟨b,hb,hz,q⟩:=zd h
  obtain ⟨o,ho⟩:=Je ra ha ⟨Int.le_refl _,Int.natCast_nonneg _⟩
  obtain ⟨o',ho'⟩:=Je rb hb ⟨Int.natCast_nonneg _,Int.le_refl _⟩
  obtain ⟨e,items,k',e1,e2⟩:=I.ws.ls hv
  rw [(r.r hl).1,e]
  have g:(s.heap.push {cls:=.type "slice",data:=.fields #[u,x,.none]}).IsList (c.ρ l).2 items:=⟨_,Heap.get?_push_of_some _ (I.heap▸e1),rfl,_,rfl⟩
  rw [← e2.len,Array.length_toList] at hz ho ho'
  refine tail_any (s:={s with heap:=s.heap.push {cls:=.type "slice",data:=.fields #[u,x,.none]}}) g.typeIs slot_list_getitem.lookup (wpAny_getItem_list_slice g hsl ho.isPart ho'.isPart .none nofun ?_ (by rw [sizeLine_eq];exact Nat.le_trans hz (Nat.le_of_ble_eq_true rfl))) rfl
  rw [Jd ho ho']
  exact fin (I'.newLst k ((E.rvs e2).pySl a b) q s.toks)
theorem gx {e:E} (h:e.isNone=true):e=.k .none:=by
 revert h
 induction e using E.casesOn with
 | k v=>exact fun h=>by obtain ⟨u,hu⟩:=Option.isSome_iff_exists.mp h;rw [JL hu]
 | _=>exact zk
theorem Jv (I:K.In c m s) {F:List (String×V)} (FR:FrR K c m F) {e:E} {x:Option Expr} (h:Xp (okE sc e) e.isNone x=true) (ih:∀ y,okE sc e y=true→SE K R e y) (hw:wpE R F e Q X c.σ):K.EV (evalPart x K.env) c m s Q X:=by
 cases x with
 | none=>
  rw [gx h] at hw
  exact wpAny_pure (I.stay (tk:=s.toks) hw .none)
 | some y=>exact ih _ (zb h).2 F c m s Q X I FR hw
theorem HX {k:Nat} {e l u:E} {x:Expr} (h:okE sc (.sl k e l u) x=true) (ihe:∀ y,okE sc e y=true→SE K R e y) (ihl:∀ y,okE sc l y=true→SE K R l y) (ihu:∀ y,okE sc u y=true→SE K R u y):SE K R (.sl k e l u) x:=by
 refine qX.el (fun o j p h=>?_) h
 obtain ⟨h1,h2⟩:=zb h
 refine U6.el (P:=fun j=>SE K R (.sl k e l u) (.Subscript o j p)) (fun a b st p' h=>?_) h2
 obtain ⟨h,h4⟩:=zb h
 obtain ⟨h2,h3⟩:=zb h
 cases Option.isNone_iff_eq_none.mp h2
 intro F c m s Q X I FR hw
 refine Subscript_ (wpAny_mono (ihe _ h1 F c m s _ X I FR hw) (fun v s1 z'=>z'.el fun mv c1 e1 e2 e3 e4 e5 e6=>?_) fun _ _ x=>x)
 refine wpAny_Slice (wpAny_mono (Jv e2 (FR.ext e3) h3 ihl e1) (fun u s2 z'=>z'.el fun mu c2 f1 f2 f3 f4 f5 f6=>?_) fun _ _ x=>x.from e3 e5 e6)
 refine wpAny_mono (Jv f2 ((FR.ext e3).ext f3) h4 ihu f1) (fun x s3 z'=>z'.el fun mx c3 g1 g2 g3 g4 g5 g6=>?_) fun _ _ x=>(x.from f3 f5 f6).from e3 e5 e6
 rw [evalPart_none]
 refine wpAny_pure ?_
 exact wpAny_mono (Vk g2 (g3.rv (f3.rv e4)) (g3.rv f4) g4 g1 _ _ _ _) (fun _ _ x=>((x.from g3 g5 g6).from f3 f5 f6).from e3 e5 e6) fun _ _ x=>((x.from g3 g5 g6).from f3 f5 f6).from e3 e5 e6
end
inductive Fc.LB (K:Fc) (c:Cur) (s:Shared) (m:Str→Option Value) (Q:Bool→St→Prop) (b:Bool) (s':Shared):Prop
 | mk (c':Cur):Q b c'.σ→K.In c' m s'→c.Ext K.fr K.fk c'→s'.gens=s.gens→s'.os=s.os→Fc.LB K c s m Q b s'
theorem Fc.LB.el {K:Fc} {c:Cur} {s:Shared} {m:Str→Option Value} {Q:Bool→St→Prop} {b:Bool} {s':Shared} {P:Prop} (x:Fc.LB K c s m Q b s') (k:∀ (c':Cur),Q b c'.σ→K.In c' m s'→c.Ext K.fr K.fk c'→s'.gens=s.gens→s'.os=s.os→P):P:=x.casesOn k
noncomputable def Fc.EB (K:Fc) (t:Sem Bool) (c:Cur) (m:Str→Option Value) (s:Shared) (Q:Bool→St→Prop) (X:String→St→Prop):Prop:=
 wpAny (model pw K.w) K.A t (K.LB c s m Q) (K.LX c s m X) s
noncomputable def SB (K:Fc) (R:Rel) (e:E) (x:Expr):Prop:=∀ F c m s Q X,K.In c m s→FrR K c m F→wpB R F e Q X c.σ→K.EB (isTrue x K.env (eval x K.env)) c m s Q X
section
variable {K:Fc} {d:Nat} {R:Rel} {sc:List (Str×NameKind)} {c c':Cur} {m:Str→Option Value} {s s':Shared} {Q:V→St→Prop} {QB:Bool→St→Prop} {X:String→St→Prop} {v u x:Value} {mv mu mx:V}
theorem Fc.LB.from {b:Bool} {s'':Shared} (x:K.LB c' s' m QB b s'') (E:c.Ext K.fr K.fk c') (g:s'.gens=s.gens) (o:s'.os=s.os):K.LB c s m QB b s'':=by
 obtain ⟨c2,e1,e2,e3,e5,e6⟩:=x
 exact ⟨c2,e1,e2,E.trans e3,e5.trans g,e6.trans o⟩
theorem Fc.In.stayB (I:K.In c m s) {b:Bool} (q:QB b c.σ) {tk:Nat}:K.LB c s m QB b {s with toks:=tk}:=
 ⟨c,q,⟨I.heap,I.ws,I.ns,I.stk,I.sub,I.apart,I.there⟩,.refl,rfl,rfl⟩
theorem EV.nextB {t:Sem Value} {Q₁:V→St→Prop} {P:Value→Sem Bool} (h:K.EV t c m s Q₁ X)
  (k:∀ v mv c' s',Q₁ mv c'.σ→K.In c' m s'→c.Ext K.fr K.fk c'→c'.RV K.fr v mv→K.EB (P v) c' m s' QB X):
  wpAny (model pw K.w) K.A t (fun v s'=>wpAny (model pw K.w) K.A (P v) (K.LB c s m QB) (K.LX c s m X) s') (K.LX c s m X) s:=
 wpAny_mono h (fun v s' z'=>z'.el fun mv c' e1 e2 e3 e4 e5 e6=>wpAny_mono (k v mv c' s' e1 e2 e3 e4) (fun _ _ x=>x.from e3 e5 e6) fun _ _ x=>x.from e3 e5 e6) fun _ _ x=>x
theorem jW (I:K.In c m s) (r:c.RV K.fr v mv) {t:Bool} (h:zZ c.σ mv=some t) (q:QB t c.σ):K.EB (truthy v) c m s QB X:=by
 rcases zK h with h | h
 ·rw [r.b h]
  exact wpAny_truthy_bool (I.stayB (tk:=s.toks) q)
 ·obtain ⟨l,hl,h⟩:=zc h
  obtain ⟨vs,hv,h⟩:=zc h
  obtain ⟨hz,et⟩:=xI h
  obtain ⟨e,items,k,e1,e2⟩:=I.ws.ls hv
  rw [(r.r hl).1,e]
  rw [← e2.len,Array.length_toList] at hz
  refine wpAny_truthy_list ⟨_,I.heap▸e1,rfl,k,rfl⟩ (Int.lt_of_le_of_lt (Int.ofNat_le.mpr hz) (by decide)) ?_
  have:items.isEmpty=vs.isEmpty:=by
   rw [Array.isEmpty,← Array.length_toList,e2.len];cases vs <;> rfl
  rw [this,et]
  exact I.stayB q
theorem y9 {e:E} {x:Expr} (he:∀ whole,isTrue x K.env whole=(do let v ← whole;standAt x.pos;holding [v] (truthy v))) (h:SE K R e x):SB K R e x:=fun F c m s Q X I FR hw=>
 wpAny_isTrue_value (EV.nextB (h F c m s _ X I FR hw) fun v mv c' s' q I' E r=>let ⟨_,ht,q⟩:=zd q;jW I' r ht q) (he _)
theorem KL {F:List (String×V)} {e:E} {Q Q':V→St→Prop} {σ:St} (h:∀ v σ,Q v σ=Q' v σ) (x:wpE R F e Q X σ):wpE R F e Q' X σ:=by
 rwa [← show Q=Q' from funext fun v=>funext fun σ=>h v σ]
theorem Qt {a:E} {x:Expr} (h:okE sc (.not a) x=true) (ih:∀ y,okE sc a y=true→SB K R a y):SB K R (.not a) x:=by
 refine xUn.el (fun o y p h=>?_) h
 obtain ⟨h1,h2⟩:=zb h
 cases beq_iff_eq.mp h1
 exact fun F c m s Q X I FR hw=>wpAny_isTrue_Not (wpAny_mono (ih _ h2 F c m s (fun b σ=>Q (!b) σ) X I FR (KL (fun v σ=>rfl) hw)) (fun _ _ x=>x.el fun c' a1 a2 a3 a4 a5=>⟨c',a1,a2,a3,a4,a5⟩) fun _ _ x=>x)
theorem Qk {a:E} {x:Expr} (h:okE sc (.not a) x=true) (ih:∀ y,okE sc a y=true→SE K R a y):SE K R (.not a) x:=by
 refine xUn.el (fun o y p h=>?_) h
 obtain ⟨h1,h2⟩:=zb h
 cases beq_iff_eq.mp h1
 refine fun F c m s Q X I FR hw=>wpAny_UnaryOp (EV.next (ih _ h2 F c m s _ X I FR hw) fun v mv c' s' q I' E r=>?_)
 obtain ⟨t,ht,q⟩:=zd q
 exact not_value (wpAny_mono (jW I' r ht (QB:=fun b σ=>Q (.bool (!b)) σ) q) (fun b s2 z'=>z'.el fun c2 f1 f2 f3 f4 f5=>⟨_,c2,f1,f2,f3,.bool _,f4,f5⟩) fun _ _ x=>x)
theorem YU {pos:Pos} {op:BoolOp} {x y:Sem Value} {rest:List (Sem Value)} {M:Model} {A:Around} {E:Value→Shared→Prop} {s:Shared} {Q:Value→Shared→Prop}
  (h:wpAny M A x (fun v s₁=>wpAny M A (truthy v) (fun t s₂=>if t=(op==.And) then wpAny M A (boolOp pos op (y::rest)) Q E s₂ else Q v s₂) E s₁) E s):
  wpAny M A (boolOp pos op (x::y::rest)) Q E s:=by
 show wpAny M A (do
  let v ← x
  standAt pos
  let t ← holding [v] (truthy v)
  match op,t with
  | .And,false | .Or,true=>pure v
  | _,_=>boolOp pos op (y::rest)) Q E s
 refine wpAny_bind (wpAny_mono h (fun v s₁ h₁=>wpAny_bind (wpAny_standAt (wpAny_bind (wpAny_holding (wpAny_mono h₁ (fun t s₂ h₂=>?_) fun _ _ x=>x))))) fun _ _ x=>x)
 cases op <;> cases t <;> first | exact wpAny_pure h₂ | exact h₂
noncomputable def GO (sc:List (Str×NameKind)) (o:BoolOp) (b:E) (p:Pos) (t:List Expr):Bool:=zQ (fun y r=>List.casesOn r (okE sc b y) fun _ _=>okE sc b (.BoolOp o t p)) t
theorem J5 {b:E} {t:List Expr} {p:Pos} {o:BoolOp} (h:GO sc o b p t=true):∃ z r y,t=z::r∧okE sc b y=true∧boolOp p o (evalEach (z::r) K.env)=eval y K.env:=by
 rcases t with _ | ⟨z,_ | ⟨z',r⟩⟩
 ·exact zk h
 ·exact ⟨z,_,z,rfl,h,rfl⟩
 ·exact ⟨z,_,_,rfl,h,rfl⟩
theorem Ja {F:List (String×V)} {o:BoolOp} {a b:E} {y z y':Expr} {r:List Expr} {p:Pos} (iha:SE K R a y) (ihb:SE K R b y') (h4:boolOp p o (evalEach (z::r) K.env)=eval y' K.env) {W:V→St→Prop}
  (hW:∀ v σ,W v σ→∃ t,zZ σ v=some t∧if t=(o==.And) then wpE R F b Q X σ else Q v σ) (I:K.In c m s) (FR:FrR K c m F) (hw:wpE R F a W X c.σ):K.EV (eval (.BoolOp o (y::z::r) p) K.env) c m s Q X:=by
 refine YU (x:=eval y K.env) (y:=eval z K.env) (rest:=evalEach r K.env) ?_
 refine wpAny_mono (iha F c m s _ X I FR hw) (fun v s' z'=>z'.el fun mv c' e1 e2 e3 e4 e5 e6=>?_) fun _ _ x=>x
 obtain ⟨t,ht,hq⟩:=hW _ _ e1
 refine wpAny_mono (jW e2 e4 ht (QB:=fun b' σ=>b'=t∧σ=c'.σ) ⟨rfl,rfl⟩) (fun t' s2 z'=>z'.el fun c2 f1 f2 f3 f4 f5=>?_) fun _ _ x=>x.from e3 e5 e6
 rw [← f1.1,← f1.2] at hq
 by_cases g:t'=(o==.And)
 ·rw [if_pos g] at hq ⊢
  show wpAny _ _ (boolOp p o (evalEach (z::r) K.env)) _ _ _
  rw [h4]
  exact wpAny_mono (ihb F c2 m s2 Q X f2 ((FR.ext e3).ext f3) hq) (fun _ _ x=>(x.from f3 f4 f5).from e3 e5 e6) fun _ _ x=>(x.from f3 f4 f5).from e3 e5 e6
 ·rw [if_neg g] at hq ⊢
  exact ⟨mv,c2,hq,f2,e3.trans f3,f3.rv e4,f4.trans e5,f5.trans e6⟩
theorem Qs {a b:E} {x:Expr} (h:okE sc (.and a b) x=true) (iha:∀ y,okE sc a y=true→SE K R a y) (ihb:∀ y,okE sc b y=true→SE K R b y):SE K R (.and a b) x:=by
 refine ZS.el (fun o l p h=>?_) h
 obtain ⟨h1,h2⟩:=zb h
 cases beq_iff_eq.mp h1
 refine zQ.el (P:=fun l=>SE K R (.and a b) (.BoolOp .And l p)) (fun y t h=>?_) h2
 obtain ⟨z,r,y',e,h3,h4⟩:=J5 (K:=K) (zb h).2
 cases e
 exact fun F c m s Q X I FR hw=>Ja (iha _ (zb h).1) (ihb _ h3) h4 (fun v σ w=>let ⟨t,ht,w⟩:=zd w;⟨t,ht,by cases t <;> exact w⟩) I FR hw
theorem HY {a b:E} {x:Expr} (h:okE sc (.or a b) x=true) (iha:∀ y,okE sc a y=true→SE K R a y) (ihb:∀ y,okE sc b y=true→SE K R b y):SE K R (.or a b) x:=by
 refine ZS.el (fun o l p h=>?_) h
 obtain ⟨h1,h2⟩:=zb h
 cases beq_iff_eq.mp h1
 refine zQ.el (P:=fun l=>SE K R (.or a b) (.BoolOp .Or l p)) (fun y t h=>?_) h2
 obtain ⟨z,r,y',e,h3,h4⟩:=J5 (K:=K) (zb h).2
 cases e
 exact fun F c m s Q X I FR hw=>Ja (iha _ (zb h).1) (ihb _ h3) h4 (fun v σ w=>let ⟨t,ht,w⟩:=zd w;⟨t,ht,by cases t <;> exact w⟩) I FR hw
theorem vc {o:BoolOp} {b:E} {t:List Expr} {p:Pos} (h:GO sc o b p t=true) (ihb:∀ y,okE sc b y=true→SB K R b y) {F c m s Q X} (I:K.In c m s) (FR:FrR K c m F)
  (hw:wpB R F b Q X c.σ):K.EB (allTrue o t K.env) c m s Q X:=by
 rcases t with _ | ⟨z,_ | ⟨z',r⟩⟩
 ·exact zk h
 ·have g:=ihb _ h F c m s Q X I FR hw
  cases o
  ·refine wpAny_allTrue_And_cons (wpAny_mono g (fun b s' h'=>?_) fun _ _ x=>x)
   cases b
   ·exact h'
   ·exact wpAny_allTrue_And_nil h'
  ·refine wpAny_allTrue_Or_cons (wpAny_mono g (fun b s' h'=>?_) fun _ _ x=>x)
   cases b
   ·exact wpAny_allTrue_Or_nil h'
   ·exact h'
 ·exact ihb _ h F c m s Q X I FR hw
theorem Qw {a b:E} {x:Expr} (h:okE sc (.and a b) x=true) (iha:∀ y,okE sc a y=true→SB K R a y) (ihb:∀ y,okE sc b y=true→SB K R b y):SB K R (.and a b) x:=by
 refine ZS.el (fun o l p h=>?_) h
 obtain ⟨h1,h2⟩:=zb h
 cases beq_iff_eq.mp h1
 refine zQ.el (P:=fun l=>SB K R (.and a b) (.BoolOp .And l p)) (fun y t h=>?_) h2
 obtain ⟨h3,h4⟩:=zb h
 intro F c m s Q X I FR hw
 refine wpAny_isTrue_BoolOp (wpAny_allTrue_And_cons (wpAny_mono (iha _ h3 F c m s (fun t σ=>cB t (wpB R F b Q X σ) (Q false σ)) X I FR (KL (fun v σ=>?_) hw)) (fun t s' z'=>z'.el fun c' e1 e2 e3 e5 e6=>?_) fun _ _ x=>x))
 ·show (op (zZ σ v) fun t=>cB t (wpB R F b Q X σ) (op (zZ σ v) fun t=>Q t σ))=_
  generalize zZ σ v=o
  rcases o with _ | _ | _ <;> rfl
 ·cases t
  ·exact ⟨c',e1,e2,e3,e5,e6⟩
  ·exact wpAny_mono (vc h4 ihb e2 (FR.ext e3) e1) (fun _ _ x=>x.from e3 e5 e6) fun _ _ x=>x.from e3 e5 e6
theorem N5 {a b:E} {x:Expr} (h:okE sc (.or a b) x=true) (iha:∀ y,okE sc a y=true→SB K R a y) (ihb:∀ y,okE sc b y=true→SB K R b y):SB K R (.or a b) x:=by
 refine ZS.el (fun o l p h=>?_) h
 obtain ⟨h1,h2⟩:=zb h
 cases beq_iff_eq.mp h1
 refine zQ.el (P:=fun l=>SB K R (.or a b) (.BoolOp .Or l p)) (fun y t h=>?_) h2
 obtain ⟨h3,h4⟩:=zb h
 intro F c m s Q X I FR hw
 refine wpAny_isTrue_BoolOp (wpAny_allTrue_Or_cons (wpAny_mono (iha _ h3 F c m s (fun t σ=>cB t (Q true σ) (wpB R F b Q X σ)) X I FR (KL (fun v σ=>?_) hw)) (fun t s' z'=>z'.el fun c' e1 e2 e3 e5 e6=>?_) fun _ _ x=>x))
 ·show (op (zZ σ v) fun t=>cB t (op (zZ σ v) fun t=>Q t σ) (wpB R F b Q X σ))=_
  generalize zZ σ v=o
  rcases o with _ | _ | _ <;> rfl
 ·cases t
  ·exact wpAny_mono (vc h4 ihb e2 (FR.ext e3) e1) (fun _ _ x=>x.from e3 e5 e6) fun _ _ x=>x.from e3 e5 e6
  ·exact ⟨c',e1,e2,e3,e5,e6⟩
theorem Qo {t a b:E} {x:Expr} (h:okE sc (.ite t a b) x=true) (iht:∀ y,okE sc t y=true→SB K R t y) (iha:∀ y,okE sc a y=true→SE K R a y) (ihb:∀ y,okE sc b y=true→SE K R b y):SE K R (.ite t a b) x:=by
 refine KI.el (fun x y z p h=>?_) h
 obtain ⟨h,h3⟩:=zb h
 obtain ⟨h1,h2⟩:=zb h
 refine fun F c m s Q X I FR hw=>wpAny_IfExp (wpAny_mono (iht _ h1 F c m s _ X I FR hw) (fun t s' z'=>z'.el fun c' e1 e2 e3 e5 e6=>?_) fun _ _ x=>x)
 cases t
 ·exact wpAny_mono (ihb _ h3 F c' m s' Q X e2 (FR.ext e3) e1) (fun _ _ x=>x.from e3 e5 e6) fun _ _ x=>x.from e3 e5 e6
 ·exact wpAny_mono (iha _ h2 F c' m s' Q X e2 (FR.ext e3) e1) (fun _ _ x=>x.from e3 e5 e6) fun _ _ x=>x.from e3 e5 e6
theorem Qu {t a b:E} {x:Expr} (h:okE sc (.ite t a b) x=true) (iht:∀ y,okE sc t y=true→SB K R t y) (iha:∀ y,okE sc a y=true→SB K R a y) (ihb:∀ y,okE sc b y=true→SB K R b y):SB K R (.ite t a b) x:=by
 refine KI.el (fun x y z p h=>?_) h
 obtain ⟨h,h3⟩:=zb h
 obtain ⟨h1,h2⟩:=zb h
 intro F c m s Q X I FR hw
 unfold Fc.EB
 rw [arm_isTrue_IfExp]
 refine wpAny_bind (wpAny_mono (iht _ h1 F c m s _ X I FR hw) (fun t s' z'=>z'.el fun c' e1 e2 e3 e5 e6=>?_) fun _ _ x=>x)
 cases t
 ·exact wpAny_mono (ihb _ h3 F c' m s' Q X e2 (FR.ext e3) e1) (fun _ _ x=>x.from e3 e5 e6) fun _ _ x=>x.from e3 e5 e6
 ·exact wpAny_mono (iha _ h2 F c' m s' Q X e2 (FR.ext e3) e1) (fun _ _ x=>x.from e3 e5 e6) fun _ _ x=>x.from e3 e5 e6
theorem Zq {e:E} {x:Expr} (h:okE sc e x=true) (op:CmpOp):behindInMarks op x=false:=by
 induction x using PySem.Expr.casesOn with
 | Set=>exact zk (by induction e using Mine.E.casesOn <;> exact h)
 | _=>rfl
theorem Qq (O:K.Ok d) {o:Cop} {a b:E} {x:Expr} (h:okE sc (.cmp o a b) x=true) (iha:∀ y,okE sc a y=true→SE K R a y) (ihb:∀ y,okE sc b y=true→SE K R b y):SE K R (.cmp o a b) x:=by
 refine X9.el (fun l ps rs p h=>?_) h
 obtain ⟨h,h3⟩:=zb h
 obtain ⟨h1,h2⟩:=zb h
 refine yE.el (P:=fun ps=>SE K R (.cmp o a b) (.Compare l ps rs p)) (fun o' h2=>?_) h2
 cases beq_iff_eq.mp h2
 refine yE.el (P:=fun rs=>SE K R (.cmp o a b) (.Compare l [o.op] rs p)) (fun r h3=>?_) h3
 exact fun F c m s Q X I FR hw=>wpAny_Compare1 (EV.two (iha _ h1) (ihb _ h3) I FR hw fun I r r' q=>let ⟨_,ht,q⟩:=zd q;vy O I r r' ht q) (Zq h3 _)
theorem Qv (O:K.Ok d) {o:Cop} {a b:E} {x:Expr} (h:okE sc (.cmp o a b) x=true) (iha:∀ y,okE sc a y=true→SE K R a y) (ihb:∀ y,okE sc b y=true→SE K R b y):SB K R (.cmp o a b) x:=by
 refine X9.el (fun l ps rs p h=>?_) h
 obtain ⟨h,h3⟩:=zb h
 obtain ⟨h1,h2⟩:=zb h
 refine yE.el (P:=fun ps=>SB K R (.cmp o a b) (.Compare l ps rs p)) (fun o' h2=>?_) h2
 cases beq_iff_eq.mp h2
 refine yE.el (P:=fun rs=>SB K R (.cmp o a b) (.Compare l [o.op] rs p)) (fun r h3=>?_) h3
 intro F c m s Q X I FR hw
 refine wpAny_isTrue_Compare1 (wpAny_mono (iha _ h1 F c m s _ X I FR hw) (fun v s' z'=>z'.el fun mv c' e1 e2 e3 e4 e5 e6=>?_) fun _ _ x=>x) (Zq h3 _)
 refine wpAny_mono (ihb _ h3 F c' m s' _ X e2 (FR.ext e3) e1) (fun u s2 z'=>z'.el fun mu c2 f1 f2 f3 f4 f5 f6=>?_) fun _ _ x=>x.from e3 e5 e6
 obtain ⟨t,ht,f1⟩:=zd f1
 refine wpAny_mono (vy O f2 (f3.rv e4) f4 ht (Q:=fun w σ=>w=.bool t∧Q t σ) ⟨rfl,f1⟩) (fun w s3 z'=>z'.el fun mw c3 g1 g2 g3 g4 g5 g6=>?_) fun _ _ x=>(x.from f3 f5 f6).from e3 e5 e6
 exact wpAny_mono (jW (X:=X) g2 g4 (t:=t) (by rw [g1.1];rfl) g1.2) (fun _ _ x=>((x.from g3 g5 g6).from f3 f5 f6).from e3 e5 e6) fun _ _ x=>((x.from g3 g5 g6).from f3 f5 f6).from e3 e5 e6
end
inductive Fc.LL (K:Fc) (c:Cur) (s:Shared) (m:Str→Option Value) (Q:List V→St→Prop) (vs:List Value) (s':Shared):Prop
 | mk (mvs:List V) (c':Cur):Q mvs c'.σ→K.In c' m s'→c.Ext K.fr K.fk c'→c'.RVs K.fr vs mvs→s'.gens=s.gens→s'.os=s.os→Fc.LL K c s m Q vs s'
theorem Fc.LL.el {K:Fc} {c:Cur} {s:Shared} {m:Str→Option Value} {Q:List V→St→Prop} {vs:List Value} {s':Shared} {P:Prop} (x:Fc.LL K c s m Q vs s') (k:∀ (mvs:List V) (c':Cur),Q mvs c'.σ→K.In c' m s'→c.Ext K.fr K.fk c'→c'.RVs K.fr vs mvs→s'.gens=s.gens→s'.os=s.os→P):P:=x.casesOn k
section
variable {K:Fc} {d:Nat} {R:Rel} {sc:List (Str×NameKind)} {c c':Cur} {m:Str→Option Value} {s s':Shared} {Q:V→St→Prop} {QB:Bool→St→Prop} {QL:List V→St→Prop} {X:String→St→Prop} {v u x:Value} {mv mu mx:V}
theorem Wx {P:E→Expr→Prop} {o q:Cop} {a b e:E} (k:∀ l r r' pos,okE sc a l=true→okE sc b r=true→okE sc e r'=true→P (.cmp2 o q a b e) (.Compare l [o.op,q.op] [r,r'] pos)) {x:Expr} (h:okE sc (.cmp2 o q a b e) x=true):P (.cmp2 o q a b e) x:=by
 refine X9.el (P:=P _) (fun l ps rs p h=>?_) h
 obtain ⟨h,h3⟩:=zb h
 obtain ⟨h1,h2⟩:=zb h
 refine ZU.el (P:=fun ps=>P _ (.Compare l ps rs p)) (fun o1 o2 h2=>?_) h2
 obtain ⟨h2,h2'⟩:=zb h2
 cases beq_iff_eq.mp h2
 cases beq_iff_eq.mp h2'
 exact ZU.el (P:=fun rs=>P _ (.Compare l [o.op,q.op] rs p)) (fun r r' h3=>k _ _ _ _ h1 (zb h3).1 (zb h3).2) h3
theorem Uz (O:K.Ok d) {o p:Cop} {a b e:E} {x:Expr} (h:okE sc (.cmp2 o p a b e) x=true) (iha:∀ y,okE sc a y=true→SE K R a y) (ihb:∀ y,okE sc b y=true→SE K R b y) (ihe:∀ y,okE sc e y=true→SE K R e y):SE K R (.cmp2 o p a b e) x:=by
 refine Wx (P:=SE K R) (fun l r r' pos h1 h2 h3=>?_) h
 intro F c m s Q X I FR hw
 refine Compare_chain (wpAny_mono (iha _ h1 F c m s _ X I FR hw) (fun v s1 z'=>z'.el fun mv c1 e1 e2 e3 e4 e5 e6=>?_) fun _ _ x=>x) (Zq h3 _)
 refine chain_link (wpAny_mono (ihb _ h2 F c1 m s1 _ X e2 (FR.ext e3) e1) (fun u s2 z'=>z'.el fun mu c2 f1 f2 f3 f4 f5 f6=>?_) fun _ _ x=>x.from e3 e5 e6)
 have up:∀ {z s''},K.LX c2 s2 m X z s''→K.LX c s m X z s'':=fun x=>(x.from f3 f5 f6).from e3 e5 e6
 obtain ⟨t,ht,f1⟩:=zd f1
 refine wpAny_mono (vy O f2 (f3.rv e4) f4 ht (Q:=fun w σ=>w=.bool t∧σ=c2.σ) ⟨rfl,rfl⟩) (fun w s3 z'=>z'.el fun mw c3 g1 g2 g3 g4 g5 g6=>?_) fun _ _ x=>up x
 rw [show w=.bool t from g4.b (by rw [g1.1];rfl)]
 rw [← g1.2] at f1
 refine wpAny_truthy_bool ?_
 cases t
 ·exact ⟨.bool false,c3,f1,g2,(e3.trans f3).trans g3,.bool _,(g5.trans f5).trans e5,(g6.trans f6).trans e6⟩
 ·refine chain_last (wpAny_mono (ihe _ h3 F c3 m s3 _ X g2 (((FR.ext e3).ext f3).ext g3) f1) (fun z s4 z'=>z'.el fun mz c4 k1 k2 k3 k4 k5 k6=>?_) fun _ _ x=>up (x.from g3 g5 g6))
  obtain ⟨t',ht',k1⟩:=zd k1
  exact wpAny_mono (vy (X:=X) O k2 (k3.rv (g3.rv f4)) k4 ht' k1) (fun _ _ x=>((((x.from k3 k5 k6).from g3 g5 g6).from f3 f5 f6).from e3 e5 e6)) fun _ _ x=>up ((x.from k3 k5 k6).from g3 g5 g6)
theorem UC (O:K.Ok d) {o p:Cop} {a b e:E} {x:Expr} (h:okE sc (.cmp2 o p a b e) x=true) (iha:∀ y,okE sc a y=true→SE K R a y) (ihb:∀ y,okE sc b y=true→SE K R b y) (ihe:∀ y,okE sc e y=true→SE K R e y):SB K R (.cmp2 o p a b e) x:=by
 refine Wx (P:=SB K R) (fun l r r' pos h1 h2 h3=>?_) h
 intro F c m s Q X I FR hw
 refine isTrue_chain (wpAny_mono (iha _ h1 F c m s _ X I FR hw) (fun v s1 z'=>z'.el fun mv c1 e1 e2 e3 e4 e5 e6=>?_) fun _ _ x=>x) (Zq h3 _)
 refine test_link (wpAny_mono (ihb _ h2 F c1 m s1 _ X e2 (FR.ext e3) e1) (fun u s2 z'=>z'.el fun mu c2 f1 f2 f3 f4 f5 f6=>?_) fun _ _ x=>x.from e3 e5 e6)
 have up:∀ {z s''},K.LX c2 s2 m X z s''→K.LX c s m X z s'':=fun x=>(x.from f3 f5 f6).from e3 e5 e6
 obtain ⟨t,ht,f1⟩:=zd f1
 refine wpAny_mono (vy O f2 (f3.rv e4) f4 ht (Q:=fun w σ=>w=.bool t∧σ=c2.σ) ⟨rfl,rfl⟩) (fun w s3 z'=>z'.el fun mw c3 g1 g2 g3 g4 g5 g6=>?_) fun _ _ x=>up x
 rw [show w=.bool t from g4.b (by rw [g1.1];rfl)]
 rw [← g1.2] at f1
 refine wpAny_truthy_bool ?_
 cases t
 ·exact ⟨c3,f1,g2,(e3.trans f3).trans g3,(g5.trans f5).trans e5,(g6.trans f6).trans e6⟩
 ·refine test_last (wpAny_mono (ihe _ h3 F c3 m s3 _ X g2 (((FR.ext e3).ext f3).ext g3) f1) (fun z s4 z'=>z'.el fun mz c4 k1 k2 k3 k4 k5 k6=>?_) fun _ _ x=>up (x.from g3 g5 g6))
  obtain ⟨t',ht',k1⟩:=zd k1
  refine wpAny_mono (vy (X:=X) O k2 (k3.rv (g3.rv f4)) k4 ht' (Q:=fun w σ=>w=.bool t'∧Q t' σ) ⟨rfl,k1⟩) (fun w s5 z'=>z'.el fun mw c5 l1 l2 l3 l4 l5 l6=>?_) fun _ _ x=>up ((x.from k3 k5 k6).from g3 g5 g6)
  rw [show w=.bool t' from l4.b (by rw [l1.1];rfl)]
  exact wpAny_truthy_bool ((((((l2.stayB (tk:=s5.toks) l1.2).from l3 l5 l6).from k3 k5 k6).from g3 g5 g6).from f3 f5 f6).from e3 e5 e6)
theorem h8 {e:E} {x:Expr} (h:okE sc e x=true) (xs:List Expr) (env:Env):starEach (x::xs) env=(false,eval x env)::starEach xs env:=by
 induction x using PySem.Expr.casesOn with
 | Starred=>exact zk (by induction e using Mine.E.casesOn <;> exact h)
 | _=>rfl
theorem hM {es:List E}:∀ {xs:List Expr},(∀ e∈es,∀ y,okE sc e y=true→SE K R e y)→wy sc es xs=true→∀ {F c m s QL X},K.In c m s→FrR K c m F→qY R F es QL X c.σ→∀ pos,
  wpAny (model pw K.w) K.A (spliced (backTo pos (starEach xs K.env))) (K.LL c s m QL) (K.LX c s m X) s:=by
 induction es with
 | nil=>
  intro xs ih h F c m s QL X I FR hw pos
  rw [List.isEmpty_iff.mp h]
  exact spliced_nil ⟨[],c,hw,I,.refl,.nil,rfl,rfl⟩
 | cons e es rec=>
  intro xs ih h
  refine zQ.el (P:=fun xs=>∀ {F c m s QL X},K.In c m s→FrR K c m F→qY R F (e::es) QL X c.σ→∀ pos,wpAny (model pw K.w) K.A (spliced (backTo pos (starEach xs K.env))) (K.LL c s m QL) (K.LX c s m X) s) (fun x xs h {F c m s QL X} I FR hw pos=>?_) h
  obtain ⟨h1,h2⟩:=zb h
  rw [h8 h1]
  refine spliced_cons (wpAny_mono (ih e (.head _) _ h1 F c m s _ X I FR hw) (fun v s1 z'=>z'.el fun mv c1 e1 e2 e3 e4 e5 e6=>?_) fun _ _ x=>x)
  refine wpAny_mono (rec (fun e he=>ih e (.tail _ he)) h2 e2 (FR.ext e3) e1 pos) (fun vs s2 z'=>z'.el fun mvs c2 f1 f2 f3 f4 f5 f6=>?_) fun _ _ x=>x.from e3 e5 e6
  exact ⟨mv::mvs,c2,f1,f2,e3.trans f3,.cons (f3.rv e4) f4,f5.trans e5,f6.trans e6⟩
theorem xx {n:Nat} (h:n≤1000000):n≤sizeLine:=by rw [sizeLine_eq];exact Nat.le_trans h (Nat.le_of_ble_eq_true rfl)
theorem Qj {es:List E} {x:Expr} (h:okE sc (.tup es) x=true) (ih:∀ e∈es,∀ y,okE sc e y=true→SE K R e y):SE K R (.tup es) x:=by
 refine X8.el (fun xs k pos h=>?_) h
 refine fun F c m s Q X I FR hw=>wpAny_Tuple_spliced (wpAny_mono (hM ih h I FR hw pos) (fun vs s1 z'=>z'.el fun mvs c1 e1 e2 e3 e4 e5 e6=>?_) fun _ _ x=>x)
 exact ⟨xx (e4.len▸e1.1),(e2.frozen {cls:=.type "tuple",data:=.seq vs.toArray} e1.2 s1.toks fun h' k e n=>.tup e rfl rfl n (RVs.grow e4 k)).from e3 e5 e6⟩
theorem Qn {k:Nat} {es:List E} {x:Expr} (h:okE sc (.lst k es) x=true) (ih:∀ e∈es,∀ y,okE sc e y=true→SE K R e y):SE K R (.lst k es) x:=by
 refine U7.el (fun xs pos h=>?_) h
 refine fun F c m s Q X I FR hw=>wpAny_List_spliced (wpAny_mono (hM ih h I FR hw pos) (fun vs s1 z'=>z'.el fun mvs c1 e1 e2 e3 e4 e5 e6=>?_) fun _ _ x=>x)
 exact ⟨xx (e4.len▸e1.1),(e2.newLst k (vs:=vs.toArray) e4 e1.2 s1.toks).from e3 e5 e6⟩
end
noncomputable def YH:List (Value×Value)→List Value
 | []=>[]
 | (k,v)::r=>k::v::YH r
noncomputable def yU (env:Env) (pos:Pos):List (Option Expr)→List Expr→List (Sem Value×Sem Value)
 | some j::js,x::xs=>(eval j env,do let x ← eval x env;standAt pos;pure x)::yU env pos js xs
 | _,_=>[]
theorem qk.el {sc:List (Str×NameKind)} {P:List E→List (Option Expr)→List Expr→Prop} (h0:P [] [] []) (h2:∀ e f es j js x xs,okE sc e j=true→okE sc f x=true→qk sc es js xs=true→P es js xs→P (e::f::es) (some j::js) (x::xs)):
  ∀ {es:List E} {js:List (Option Expr)} {xs:List Expr},qk sc es js xs=true→P es js xs
 | [],js,xs,h=>by
  obtain ⟨h1,h2⟩:=zb h
  rw [List.isEmpty_iff.mp h1,List.isEmpty_iff.mp h2];exact h0
 | [_],_,_,h=>zk h
 | e::f::es,js,xs,h=>by
  refine zQ.el (P:=fun js=>P (e::f::es) js xs) (fun j js h=>?_) h
  refine zQ.el (P:=fun xs=>P (e::f::es) (j::js) xs) (fun x xs h=>?_) h
  obtain ⟨h,h5⟩:=zb h
  obtain ⟨h3,h4⟩:=zb h
  exact jA.el (P:=fun j=>P (e::f::es) (j::js) (x::xs)) (fun j h3=>h2 _ _ _ _ _ _ _ h3 h4 h5 (qk.el h0 h2 h5)) h3
theorem gX {sc:List (Str×NameKind)} {env:Env} {pos:Pos} {es:List E} {js:List (Option Expr)} {xs:List Expr} (h:qk sc es js xs=true):
  (evalEachOpt js env).zip ((evalEach xs env).map fun v=>do let x ← v;standAt pos;pure x)=(yU env pos js xs).map (fun p=>(some p.1,p.2))∧2 * (yU env pos js xs).length=es.length:=
 qk.el (P:=fun es js xs=>(evalEachOpt js env).zip ((evalEach xs env).map fun v=>do let x ← v;standAt pos;pure x)=(yU env pos js xs).map (fun p=>(some p.1,p.2))∧2 * (yU env pos js xs).length=es.length) ⟨rfl,rfl⟩
  (fun _ _ _ _ _ _ _ _ _ _ ih=>⟨congrArg (List.cons _) ih.1,congrArg (·+2) ih.2⟩) h
structure Kn {w:World} {K₁ K':Type} [DecidableEq K₁] (knd:KeyKind pw w K₁) (f:K'→K₁) (g:V→Option K'):Prop where
 inj:∀ a b,f a=f b→a=b
 rv:∀ {ρ n h S v mv k},RV ρ n h S v mv→g mv=some k→knd.is (f k) v=true
theorem knS (w:World):Kn (PySem.strKind pw w) sv asS:=⟨fun _ _=>uD,fun r e=>by obtain ⟨t,e⟩:=r.st e;rw [e];exact strKind_is pw w _ _⟩
theorem knI (w:World):Kn (intKind pw w) id asI:=⟨fun _ _ e=>e,fun r e=>by obtain ⟨t,e⟩:=r.i e;rw [e];exact intKind_is pw w _ _⟩
section
variable {w:World} {K₁ K':Type} [DecidableEq K₁] [DecidableEq K'] {knd:KeyKind pw w K₁} {f:K'→K₁} {g:V→Option K'}
theorem Vy (kn:Kn knd f g) {ρ n h S} {vs:List (Value×Value)}:∀ {mvs:List V} {d:List (K'×V)},RVs ρ n h S (YH vs) mvs→wh g mvs=some d→∃ kvs,Carries knd vs kvs∧RKs f ρ n h S kvs d:=by
 induction vs with
 | nil=>
  intro mvs d r e
  rw [r.inv] at e
  cases e
  exact ⟨[],trivial,.nil⟩
 | cons p vs ih=>
  intro mvs d r e
  obtain ⟨mk,ms,em,rk,r⟩:=r.inv
  obtain ⟨mv,ms,em',rv,r⟩:=r.inv
  rw [em,em'] at e
  obtain ⟨k',hk,e⟩:=zc e
  obtain ⟨d',hd,e⟩:=zc e
  obtain ⟨kvs,a,b⟩:=ih r hd
  rw [← Option.some.inj e]
  exact ⟨(f k',p.2)::kvs,⟨kn.rv rk hk,rfl,a⟩,.cons rv b⟩
end
theorem K6 {α:Type} [DecidableEq α] {l:List α}:wA l=true→l.Nodup:=by
 induction l with
 | nil=>exact fun _=>List.nodup_nil
 | cons a r ih=>exact fun h=>List.nodup_cons.mpr ⟨fun m=>zk (by have:=(zb h).1;rwa [List.contains_iff_mem.mpr m] at this),ih (zb h).2⟩
theorem RKs.keys {K K':Type} {f:K'→K} {ρ n h S} {kvs:List (K×Value)} {d:List (K'×V)} (r:RKs f ρ n h S kvs d):kvs.map (·.1)=(d.map (·.1)).map f:=by
 induction r with
 | nil=>rfl
 | cons _ _ ih=>exact congrArg (List.cons _) ih
theorem wC {K:Type} [DecidableEq K] (kvs:List (K×Value)):∀ acc,((acc++kvs).map (·.1)).Nodup→merged acc kvs=acc++kvs:=by
 induction kvs with
 | nil=>exact fun acc _=>(List.append_nil _).symm
 | cons p r ih=>
  intro acc h
  have hn:acc.any (fun kv=>kv.1=p.1)=false:=by
   rw [List.any_eq_false]
   intro q hq
   rw [List.map_append,List.nodup_append] at h
   exact fun e=>h.2.2 q.1 (List.mem_map_of_mem hq) p.1 (.head _) (of_decide_eq_true e)
  have e:stored acc p.1 p.2=acc++[p]:=by unfold stored;rw [hn];rfl
  show merged (stored acc p.1 p.2) r=_
  rw [e,ih _ (by rw [List.append_assoc];exact h),List.append_assoc]
  rfl
theorem ql {α β:Type} {f:α→β} (fi:∀ a b,f a=f b→a=b) {l:List α}:l.Nodup→(l.map f).Nodup:=by
 induction l with
 | nil=>exact fun _=>List.nodup_nil
 | cons a r ih=>
  refine fun h=>List.nodup_cons.mpr ⟨fun x=>?_,ih (List.nodup_cons.mp h).2⟩
  obtain ⟨b,hb,e⟩:=List.mem_map.mp x
  exact (List.nodup_cons.mp h).1 (fi _ _ e▸hb)
section
variable {K:Fc} {d:Nat} {R:Rel} {sc:List (Str×NameKind)} {c c':Cur} {m:Str→Option Value} {s s':Shared} {Q:V→St→Prop} {QL:List V→St→Prop} {X:String→St→Prop} {v u x:Value} {mv mu mx:V}
theorem Fc.In.newCell (I:K.In c m s) (k:Nat) (o:Obj) (hf:o.isFreed=false) (cl:zu)
  (hc:∀ ρ n h S,h.get? c.h.objs.size=some o→(∀ v mv,c.RV K.fr v mv→RV ρ n h S v mv)→yi K.w ρ n h S (c.h.objs.size,c.h.objs.size) cl) (tk:Nat):
  ∃ c',c'.σ=c.σ.new k cl∧c'.ρ (c.σ.loc k)=(s.heap.objs.size,s.heap.objs.size)∧K.In c' m {s with heap:=s.heap.push o,toks:=tk}∧c.Ext K.fr K.fk c'∧c'.RV K.fr (.ref s.heap.objs.size) (.ref (c.σ.loc k)):=by
 have kk:∀ b o',c.h.get? b=some o'→(c.h.push o).get? b=some o':=fun b o' e=>Heap.get?_push_of_some _ e
 have fresh:∀ b o',c.h.get? b=some o'→b≠c.h.objs.size:=fun b o e q=>Nat.lt_irrefl _ (q▸Heap.lt_size e)
 obtain ⟨W,E⟩:=WS.new (fk:=K.fk) (k:=k) (c:=cl) (p:=(c.h.objs.size,c.h.objs.size)) I.ws I.there kk (Nat.le_refl _)
  (hc _ _ _ _ (Heap.get?_push_size _ hf) fun v mv r=>by
   refine RV.mono (Nat.le_succ _) (fun l hl=>if_neg fun z=>?_) (fun b o e n=>⟨kk b o e,fun z=>z.elim (fresh b o e) n⟩) r
   rw [z] at hl;exact Nat.lt_irrefl _ hl)
 refine ⟨⟨_,_,c.h.push o⟩,rfl,by rw [I.heap];exact if_pos rfl,⟨by rw [I.heap],W,I.ns.push _,?_,I.sub,I.apart,I.there.up E.al⟩,E,?_⟩
 ·rw [I.heap];exact I.stk.upd I.sub (I.heap▸I.ns.push _) fun b hb o e=>E.frk b hb o (I.heap▸e)
 ·have:(Value.ref s.heap.objs.size)=.ref ((fun l=>if l=c.σ.loc k then (c.h.objs.size,c.h.objs.size) else c.ρ l) (c.σ.loc k)).1:=by simp [I.heap]
  show RV _ _ _ _ (Value.ref s.heap.objs.size) _
  rw [this]
  exact .ref (Nat.lt_succ_self _)
theorem YK {w:World} {ρ n S} {h:Heap} {a:Addr} (b:Bool) (e:h.get? a=some {cls:=.type "dict",data:=.dict #[]}):yi w ρ n h S (a,a) (yP b):=by
 cases b
 ·exact ⟨rfl,[],⟨_,#[],0,e,⟨rfl,rfl,rfl⟩,rfl,fun _ he=>absurd he (Array.not_mem_empty _),Pairs.nil,List.nodup_nil⟩,.nil⟩
 ·exact ⟨rfl,[],⟨_,#[],0,e,⟨rfl,rfl,rfl⟩,rfl,fun _ he=>absurd he (Array.not_mem_empty _),Pairs.nil,List.nodup_nil⟩,.nil⟩
theorem Wi {es:List E} {js:List (Option Expr)} {xs:List Expr} (ih:∀ e∈es,∀ y,okE sc e y=true→SE K R e y) (h:qk sc es js xs=true):∀ {F c m s QL X},K.In c m s→FrR K c m F→qY R F es QL X c.σ→∀ pos,
  wpAny (model pw K.w) K.A (evalPairs (yU K.env pos js xs)) (fun vs=>K.LL c s m QL (YH vs)) (K.LX c s m X) s:=by
 refine qk.el (P:=fun es js xs=>(∀ e∈es,∀ y,okE sc e y=true→SE K R e y)→∀ {F c m s QL X},K.In c m s→FrR K c m F→qY R F es QL X c.σ→∀ pos,
  wpAny (model pw K.w) K.A (evalPairs (yU K.env pos js xs)) (fun vs=>K.LL c s m QL (YH vs)) (K.LX c s m X) s) (fun _ {F c m s QL X} I FR hw pos=>evalPairs_nil ⟨[],c,hw,I,.refl,.nil,rfl,rfl⟩) (fun e f es j js x xs h1 h2 _ rec ih {F c m s QL X} I FR hw pos=>?_) h ih
 refine evalPairs_cons (wpAny_mono (ih e (.head _) _ h1 F c m s _ X I FR hw) (fun v s1 z'=>z'.el fun mv c1 e1 e2 e3 e4 e5 e6=>?_) fun _ _ x=>x)
 refine wpAny_bind (wpAny_mono (ih f (.tail _ (.head _)) _ h2 F c1 m s1 _ X e2 (FR.ext e3) e1) (fun u s2 z'=>z'.el fun mu c2 f1 f2 f3 f4 f5 f6=>?_) fun _ _ x=>x.from e3 e5 e6)
 refine wpAny_bind (wpAny_standAt (wpAny_pure ?_))
 refine wpAny_mono (rec (fun e he=>ih e (.tail _ (.tail _ he))) f2 ((FR.ext e3).ext f3) f1 pos) (fun vs s3 z'=>z'.el fun mvs c3 g1 g2 g3 g4 g5 g6=>?_) fun _ _ x=>(x.from f3 f5 f6).from e3 e5 e6
 exact ⟨mv::mu::mvs,c3,g1,g2,(e3.trans f3).trans g3,.cons (g3.rv (f3.rv e4)) (.cons (g3.rv f4) g4),(g5.trans f5).trans e5,(g6.trans f6).trans e6⟩
theorem Xc (I:K.In c m s) {l:Loc} {cl cl':zu} (h:c.σ.m l=some cl) {h':Heap} (hs:Heap.SameBut (c.ρ l).2 c.h h')
  (hc:yi K.w c.ρ c.σ.nx h' (Mut c.σ c.ρ K.fr) (c.ρ l) cl') (tk:Nat) {v:Value} {mv:V} (r:c.RV K.fr v mv) (q:Q mv (c.σ.set l cl')):K.LQ c s m Q v {s with heap:=h',toks:=tk}:=by
 obtain ⟨c',e1,e2,e3,e4,e5⟩:=I.turn h hs hc tk (Q:=fun σ=>Q mv σ) q
 exact ⟨mv,c',e1,e2,e3,e3.rv r,e4,e5⟩
theorem hJ {σ:St} {k:Nat} {c:zu}:(σ.new k c).set (σ.loc k) c=σ.new k c:=by
 unfold St.set St.new
 exact congrArg (fun m=>St.mk m _ _) (funext fun l=>by show (if _ then _ else if _ then _ else _)=_;split <;> rfl)
theorem Gs {K₁ K':Type} [DecidableEq K₁] [DecidableEq K'] {knd:KeyKind pw K.w K₁} {f:K'→K₁} {g:V→Option K'} (kn:Kn knd f g) {mk:List (K'×V)→zu} (hk:∀ ρ n h S p d,yi K.w ρ n h S p (mk d)=(p.1=p.2∧∃ kvs,h.DictOf knd p.2 kvs∧RKs f ρ n h S kvs d))
  (I:K.In c m s) {l:Loc} {a:Addr} (r1:c.ρ l=(a,a)) (r2:c.RV K.fr (.ref a) (.ref l)) {vs:List (Value×Value)} {mvs:List V} {dd:List (K'×V)} (rs:c.RVs K.fr (YH vs) mvs) (hd:wh g mvs=some dd)
  (hm:c.σ.m l=some (mk [])) (nd:wA (dd.map (·.1))=true) (q:Q (.ref l) (c.σ.set l (mk dd))):∃ kvs,Carries knd vs kvs∧s.heap.DictOf knd a []∧
   ∀ h',h'.DictOf knd a (merged [] kvs)→Heap.SameBut a s.heap h'→K.LQ c s m Q (.ref a) {s with heap:=h',toks:=s.toks+vs.length}:=by
 obtain ⟨kvs,k1,k2⟩:=Vy kn rs hd
 have cl:=(I.ws.cells _ _ hm).2
 rw [hk,r1] at cl
 obtain ⟨_,kvs0,cl,cl'⟩:=cl
 cases cl'
 refine ⟨kvs,k1,I.heap▸cl,fun h' hm' hs=>?_⟩
 rw [wC kvs [] (by rw [List.nil_append,k2.keys];exact ql kn.inj (K6 nd)),List.nil_append] at hm'
 rw [I.heap] at hs
 refine Xc I hm (by rw [r1];exact hs) ?_ _ r2 q
 rw [hk,r1]
 exact ⟨rfl,kvs,hm',k2.mono (Nat.le_refl _) (fun _ _=>rfl) fun b o e nn=>⟨(hs.2 b fun z=>nn (z▸.inl ⟨_,_,hm,by rw [r1]⟩)).trans e,nn⟩⟩
theorem Qp {k:Nat} {b:Bool} {es:List E} {x:Expr} (h:okE sc (.dct k b es) x=true) (ih:∀ e∈es,∀ y,okE sc e y=true→SE K R e y):SE K R (.dct k b es) x:=by
 refine U9.el (fun js xs pos h=>?_) h
 obtain ⟨hl,h⟩:=zb h
 intro F c m s Q X I FR hw
 obtain ⟨c1,e1,e2,e3,e4,e5⟩:=I.newCell k {cls:=.type "dict",data:=.dict #[]} rfl (yP b) (fun ρ n h S e _=>YK b e) s.toks
 obtain ⟨sh,ln⟩:=gX (env:=K.env) (pos:=pos) h
 by_cases l0:yU K.env pos js xs=[]
 ·rw [l0] at ln
  cases List.eq_nil_of_length_eq_zero ln.symm
  obtain ⟨h1,h2⟩:=zb h
  rw [List.isEmpty_iff.mp h1,List.isEmpty_iff.mp h2]
  refine wpAny_Dict_empty ⟨_,c1,?_,e3,e4,e5,rfl,rfl⟩
  rw [e1]
  have hw:xi b [] (c.σ.loc k) (c.σ.new k (yP b)) Q:=hw
  unfold xi at hw
  cases b
  ·have q:=hw.2.2;rw [show (c.σ.new k (yP false)).set (c.σ.loc k) (.ds [])=_ from hJ] at q;exact q
  ·have q:=hw.2.2;rw [show (c.σ.new k (yP true)).set (c.σ.loc k) (.di [])=_ from hJ] at q;exact q
 ·have l15:(yU K.env pos js xs).length≤15:=Nat.le_of_mul_le_mul_left (by rw [ln];exact Nat.le_of_ble_eq_true hl:2 * _≤2 * 15) (by decide)
  have run:=Wi ih h (c:=c1) (s:={s with heap:=s.heap.push {cls:=.type "dict",data:=.dict #[]}}) e3 (FR.ext e4) (by rw [e1];exact hw) pos
  have hl:∀ {c2:Cur},c1.Ext K.fr K.fk c2→c2.ρ (c.σ.loc k)=(s.heap.objs.size,s.heap.objs.size)∧c2.RV K.fr (.ref s.heap.objs.size) (.ref (c.σ.loc k)):=fun x=>by
   refine ⟨(x.ag _ ?_).trans e2,x.rv e5⟩
   rw [e1];exact Nat.lt_succ_self _
  have fin:∀ {K₁ K':Type} [DecidableEq K₁] [DecidableEq K'] {knd:KeyKind pw K.w K₁} {f:K'→K₁} {g:V→Option K'} (kn:Kn knd f g) {mk:List (K'×V)→zu} (hk:∀ ρ n h S p d,yi K.w ρ n h S p (mk d)=(p.1=p.2∧∃ kvs,h.DictOf knd p.2 kvs∧RKs f ρ n h S kvs d))
   (hW:∀ mvs σ,xi b mvs (c.σ.loc k) σ Q→op (wh g mvs) fun d=>σ.m (c.σ.loc k)=some (mk [])∧wA (d.map (·.1))=true∧Q (.ref (c.σ.loc k)) (σ.set (c.σ.loc k) (mk d))),K.EV (eval (.Dict js xs pos) K.env) c m s Q X:=by
   intro K₁ K' i1 i2 knd f g kn mk hk hW
   refine wpAny_Dict_pairs (knd:=knd) sh l0 l15 (wpAny_mono run (fun vs s1 z'=>z'.el fun mvs c2 f1 f2 f3 f4 f5 f6=>?_) fun _ _ x=>x.from e4 rfl rfl)
   obtain ⟨d,hd,g1,g2,g3⟩:=zd (hW _ _ f1)
   obtain ⟨r1,r2⟩:=hl f3
   obtain ⟨kvs,k1,k2,k3⟩:=Gs kn hk f2 r1 r2 f4 hd g1 g2 g3
   exact ⟨kvs,k1,k2,fun h' a b=>((k3 h' a b).from f3 f5 f6).from e4 rfl rfl⟩
  cases b
  ·exact fin (knS K.w) (mk:=.ds) (fun _ _ _ _ _ _=>rfl) fun mvs σ h=>by unfold xi at h;exact h
  ·exact fin (knI K.w) (mk:=.di) (fun _ _ _ _ _ _=>rfl) fun mvs σ h=>by unfold xi at h;exact h
end
noncomputable def Zx (o:Obj):Bool:=by induction o.data using Data.casesOn with | func _=>exact true | _=>exact false
theorem Yw {o:Obj} (h:Zx o=true):∃ fd,o.data=.func fd:=by
 revert h
 unfold Zx
 generalize o.data=d
 induction d using Data.casesOn with
 | func fd=>exact fun _=>⟨fd,rfl⟩
 | _=>exact zk
noncomputable def atB (P:Params) (f:Obj→Bool) (a:Addr):Bool:=jA (fun o=>f o&&(alive o).isSome&&Nat.blt a 928) ((tf P).get a)
theorem GF {P:Params} {f:Obj→Bool} {a:Addr} (h:atB P f a=true):∃ o,(hf P).get? a=some o∧f o=true:=by
 unfold atB at h
 cases ho:(tf P).get a with
 | none=>rw [ho] at h;exact zk h
 | some o=>
  rw [ho] at h
  obtain ⟨h,h3⟩:=zb h
  obtain ⟨h1,h2⟩:=zb h
  exact ⟨o,kW h3 ho (YY h2),h1⟩
set_option maxRecDepth 100000 in
theorem Ki (P:Params):(qH.all fun c=>atB P Zx c.2)=true:=by kernel_rfl
theorem qm {t:List (String×Addr)} {f:String}:(t.map (·.1)).contains f=true→∃ a,t.lookup f=some a∧(f,a)∈t:=by
 induction t with
 | nil=>exact zk
 | cons p t ih=>
  intro h
  rw [List.lookup_cons]
  by_cases q:f=p.1
  ·rw [q,beq_self_eq_true];exact ⟨_,rfl,.head _⟩
  ·rw [beq_eq_false_iff_ne.mpr q]
   obtain ⟨a,e,m⟩:=ih (List.contains_iff_mem.mpr ((List.mem_cons.mp (List.contains_iff_mem.mp h)).resolve_left q))
   exact ⟨a,e,.tail _ m⟩
theorem YE {f:String} (h:(qH.map (·.1)).contains f=true) (P:Params):∃ o fd,(hf P).get? (FA f)=some o∧o.data=.func fd:=by
 obtain ⟨a,e,m⟩:=qm h
 obtain ⟨o,h1,h2⟩:=GF (List.all_eq_true.mp (Ki P) _ m)
 obtain ⟨fd,h3⟩:=Yw h2
 have fa:FA f=a:=by unfold FA;rw [e];rfl
 exact ⟨o,fd,fa▸h1,h3⟩
theorem Ga {f:String} (h:YB.contains f=true):(qH.map (·.1)).contains f=true:=by
 unfold YB at h
 rw [List.contains_iff_mem] at h ⊢
 exact (List.mem_filter.mp h).1
theorem V6 {f:String} (h:YB.contains f=true) (P:Params):kX P (Str.ofString f)=some (.ref (FA f)):=
 zH (List.all_eq_true.mp (V5 P) f (List.contains_iff_mem.mp h))
theorem ZI {C:String} (h:(vz.lookup C).isSome=true) (P:Params):kX P (Str.ofString C)=some (.ref (CA C)):=by
 obtain ⟨a,e⟩:=Option.isSome_iff_exists.mp h
 have:CA C=a:=by unfold CA;rw [e];rfl
 rw [this]
 exact zH (List.all_eq_true.mp (V7 P) (C,a) (zz e))
theorem qC {M:Model} {a:Addr} {h:Heap} {o:Obj} {fd:FuncData} (e:h.get? a=some o) (hd:o.data=.func fd):∃ k,(k=Keeper.frame∨k=Keeper.machine∨k=Keeper.boundFrame)∧Looks M h (keeperOf (.ref a)) k:=by
 refine ⟨.frame,.inl rfl,(Looks.ld (part:=none) e).andThen ?_⟩
 rw [hd]
 exact .now
section
variable {K:Fc} {d:Nat} {R:Rel} {sc:List (Str×NameKind)} {c c':Cur} {m:Str→Option Value} {s s':Shared} {Q:V→St→Prop} {QL:List V→St→Prop} {X:String→St→Prop} {v u x:Value} {mv mu mx:V} {vs:List Value} {mvs:List V}
theorem vw {a:Addr} (h:a∈K.fk):a∈K.fr:=.tail _ h
theorem wz {h h':Heap} {a:Addr} {m:Str→Option Value} (n:h.Ns a m) (k:∀ o,h.get? a=some o→∃ sl,h'.get? a=some {o with slots:=sl}):h'.Ns a m:=by
 obtain ⟨o,es,ep,e1,e2,e3,e4⟩:=n
 obtain ⟨sl,e⟩:=k o e1
 exact ⟨_,es,ep,e,e2,e3,e4⟩
theorem In.after (I:K.In c m s) (hs:s'.heap=c'.h) (W:c'.WS K.w K.fr) (E:c.Ext K.fr K.fr c'):K.In c' m s'∧c.Ext K.fr K.fk c':=by
 have N:s'.heap.Ns K.N m:=by rw [hs];exact wz I.ns fun o e=>E.frk _ (.head _) o (I.heap▸e)
 refine ⟨⟨hs,W,N,I.stk.upd I.sub N fun b hb o e=>?_,I.sub,I.apart,I.there.up E.al⟩,E.weak fun y hy=>vw hy⟩
 rw [hs]
 exact E.frk b (vw hb) o (I.heap▸e)
theorem Gm (O:K.Ok (d+1)) (I:K.In c m s) (r:c.RVs K.fr vs mvs) {f:String} (h:ze (RC d) f mvs c.σ Q X):
  codeAny (model pw K.w) K.A (.call (.ref (FA f)) ⟨vs,[]⟩) (fun r s'=>match r with | .ok (.ret v)=>K.LQ c s m Q v s' | .ok _=>False | .error e=>K.LX c s m X e s') s:=by
 unfold ze at h
 refine h K.w K.A K.st K.fr c s vs _ (O.room.less (Nat.le_succ d)) O.frames O.hand I.stk I.sub I.there I.heap rfl I.ws r (fun mv v c' s' q e2 e3 e4 e5 e6 e7=>?_) fun C ea a0 c' s' q e2 e3 e4 e4' e5 e6 e7=>?_
 ·obtain ⟨I',E⟩:=In.after I e2 e3 e4
  exact ⟨mv,c',q,I',E,e5,e6,e7⟩
 ·refine ⟨C,a0,ea,c',rfl,q,e2,e3,e4,⟨e4'.1,fun b hb=>e4'.2 b (vw hb)⟩,fun b hb o e=>e5 b (vw hb) o e,?_,e6,e7⟩
  exact wz I.ns fun o e=>e5 _ (.head _) o (I.heap▸e)
theorem Jx (O:K.Ok (d+1)) (I:K.In c m s) (r:c.RVs K.fr vs mvs) {f:String} (h:ze (RC d) f mvs c.σ Q X):K.EV (call (.ref (FA f)) vs) c m s Q X:=wpAny_call (Gm O I r h)
theorem Jy {es:List E} {xs:List Expr} (ih:∀ e∈es,∀ y,okE sc e y=true→SE K R e y) (h:wy sc es xs=true) {F:List (String×V)} (I:K.In c m s) (FR:FrR K c m F) (hw:qY R F es QL X c.σ)
  {P:Args→Shared→Prop} {f:Value} {pos:Pos} (k:∀ vs s',K.LL c s m QL vs s'→P ⟨vs,[]⟩ s'):wpAny (model pw K.w) K.A (evalArgs f true (backTo pos (starEach xs K.env)) []) P (K.LX c s m X) s:=by
 have g:=hM ih h I FR hw pos
 cases es with
 | nil=>
  rw [List.isEmpty_iff.mp h]
  exact evalArgs_nil3 (k _ _ ⟨[],c,hw,I,.refl,.nil,rfl,rfl⟩)
 | cons e es=>
  revert g
  refine zQ.el (P:=fun xs=>wpAny (model pw K.w) K.A (spliced (backTo pos (starEach xs K.env))) (K.LL c s m QL) (K.LX c s m X) s→wpAny (model pw K.w) K.A (evalArgs f true (backTo pos (starEach xs K.env)) []) P (K.LX c s m X) s) (fun x xs h g=>?_) h
  rw [h8 (zb h).1] at g ⊢
  exact evalArgs_plain (wpAny_mono g (fun vs s'=>k vs s') fun _ _ x=>x)
theorem kM {es:List E}:∀ {xs:List Expr},wy sc es xs=true→∀ (env:Env) (pos:Pos),(backTo pos (starEach xs env)).any (·.1)=false∧(backTo pos (starEach xs env)).all (!·.1)=true:=by
 induction es with
 | nil=>intro xs h env pos;rw [List.isEmpty_iff.mp h];exact ⟨rfl,rfl⟩
 | cons e es ih=>
  intro xs h
  refine zQ.el (P:=fun xs=>∀ (env:Env) (pos:Pos),(backTo pos (starEach xs env)).any (·.1)=false∧(backTo pos (starEach xs env)).all (!·.1)=true) (fun x xs h env pos=>?_) h
  rw [h8 (zb h).1]
  exact ih (zb h).2 env pos
theorem jf.el {n:String} {g:List Expr→Bool} {P:Expr→Prop} (k:∀ s q a p,zB sc .globalImplicit n s=true→g a=true→P (.Call (.Name s q) a [] p)) {x:Expr} (h:jf sc n g x=true):P x:=by
 refine JR.el (fun f a kw p h=>?_) h
 obtain ⟨h,h3⟩:=zb h
 obtain ⟨h1,h2⟩:=zb h
 rw [List.isEmpty_iff.mp h1]
 exact yK.el (P:=fun f=>P (.Call f a [] p)) (fun s q h2=>k s q a p h2 h3) h2
theorem ux (hs:sc=K.env.scope.names) {n:String} {es:List E} {xs:List Expr} {S:Str} {q pos:Pos} (hn:zB sc .globalImplicit n S=true) (he:wy sc es xs=true) (ih:∀ e∈es,∀ y,okE sc e y=true→SE K R e y) {F:List (String×V)} (I:K.In c m s) (FR:FrR K c m F)
  (hw:qY R F es QL X c.σ) {f:Value} (load:∀ {P E},P f s→wpAny (model pw K.w) K.A (eval (.Name S q) K.env) P E s) {H:Heap→Prop} (kp:∀ h,H h→∃ k,(k=Keeper.frame∨k=Keeper.machine∨k=Keeper.boundFrame)∧Looks (model pw K.w) h (keeperOf f) k)
  (hH:∀ (c':Cur) (s':Shared) (mvs:List V),K.In c' m s'→QL mvs c'.σ→H s'.heap) {P:Value→Shared→Prop} {E:Value→Shared→Prop} (up:∀ e s',K.LX c s m X e s'→E e s') (leaf:∀ {c1 s1 vs mvs},K.In c1 m s1→c.Ext K.fr K.fk c1→c1.RVs K.fr vs mvs→QL mvs c1.σ→s1.gens=s.gens→s1.os=s.os→wpAny (model pw K.w) K.A (call f vs) P E s1):wpAny (model pw K.w) K.A (eval (.Call (.Name S q) xs [] pos) K.env) P E s:=by
 show wpAny _ _ (do callWith pos (← eval (.Name _ _) K.env) [] (backTo pos (starEach xs K.env)) []) _ _ _
 refine wpAny_bind (load ?_)
 refine callWith_of (P:=H) (by rw [(kM he K.env pos).1];rfl) kp (wpAny_mono (Jy (X:=X) ih he I FR hw fun vs s1 z'=>z'.el fun mvs c1 e1 e2 e3 e4 e5 e6=>?_) (fun _ _ x=>x) up)
 exact ⟨hH _ _ _ e2 e1,leaf e2 e3 e4 e1 e5 e6⟩
theorem gF (hs:sc=K.env.scope.names) {n:String} {es:List E} {xs:List Expr} {S:Str} {q pos:Pos} (hn:zB sc .globalImplicit n S=true) (he:wy sc es xs=true) (ih:∀ e∈es,∀ y,okE sc e y=true→SE K R e y) {F:List (String×V)} (I:K.In c m s) (FR:FrR K c m F)
  (hw:qY R F es QL X c.σ) {f:Value} (load:∀ {P E},P f s→wpAny (model pw K.w) K.A (eval (.Name S q) K.env) P E s) {H:Heap→Prop} (kp:∀ h,H h→∃ k,(k=Keeper.frame∨k=Keeper.machine∨k=Keeper.boundFrame)∧Looks (model pw K.w) h (keeperOf f) k)
  (hH:∀ (c':Cur) (s':Shared) (mvs:List V),K.In c' m s'→QL mvs c'.σ→H s'.heap) (leaf:∀ {c s vs mvs},K.In c m s→c.RVs K.fr vs mvs→QL mvs c.σ→K.EV (call f vs) c m s Q X):K.EV (eval (.Call (.Name S q) xs [] pos) K.env) c m s Q X:=by
 exact ux hs hn he ih I FR hw load kp hH (fun _ _ x=>x) fun e2 e3 e4 e1 e5 e6=>wpAny_mono (leaf e2 e4 e1) (fun _ _ x=>x.from e3 e5 e6) fun _ _ x=>x.from e3 e5 e6
theorem UA (O:K.Ok (d+1)) (hs:sc=K.env.scope.names) {f:String} {es:List E} {x:Expr} (h:okE sc (.call f es) x=true) (ih:∀ e∈es,∀ y,okE sc e y=true→SE K (RC d) e y):SE K (RC d) (.call f es) x:=by
 refine jf.el (fun S q xs pos hn h=>?_) h
 obtain ⟨hg,he⟩:=zb h
 obtain ⟨o,fd,g1,g2⟩:=YE (Ga hg) K.w.params
 intro F c m s Q X I FR hw
 obtain ⟨e,h2,h3⟩:=zF hn
 exact gF hs hn he ih I FR hw (fun p=>Name_function_global O.kind (zy hs h3) (loadGlobal_global (In.gns O I) (e▸V6 hg _) p) h2) (H:=fun h=>h.get? (FA f)=some o) (fun h e=>qC e g2)
  (fun _ _ _ I _=>I.heap▸I.ws.base _ _ g1) fun I r h=>Jx O I r h
end
theorem yM {σ:St} {l l':Loc} {c:zu} (e:(σ.drop l).m l'=some c):σ.m l'=some c∧l'≠l:=by
 have e:(if l'=l then none else σ.m l')=some c:=e
 by_cases q:l'=l
 ·rw [if_pos q] at e;cases e
 ·rw [if_neg q] at e;exact ⟨e,q⟩
theorem Mut.drop {σ:St} {ρ:Loc→Addr×Addr} {fr:List Addr} {l:Loc} {a:Addr} (h:Mut (σ.drop l) ρ fr a):Mut σ ρ fr a:=
 h.imp (fun ⟨l',c,e,q⟩=>⟨l',c,(yM e).1,q⟩) id
theorem WS.drop {w:World} {σ:St} {ρ:Loc→Addr×Addr} {fr fk:List Addr} {h:Heap} {l:Loc} (W:WS w σ ρ fr h):WS w (σ.drop l) ρ fr h∧Ext fr fk σ ρ h (σ.drop l) ρ h∧(∀ c,σ.m l=some c→¬ Mut (σ.drop l) ρ fr (ρ l).2):=by
 refine ⟨⟨W.base,fun l' c e=>⟨(W.cells _ _ (yM e).1).1,(W.cells _ _ (yM e).1).2.mono (Nat.le_refl _) (fun _ _=>rfl) (fun b o e n=>⟨e,fun z=>n (Mut.drop z)⟩) fun o e=>e⟩,
  fun l₁ l₂ c₁ c₂ e₁ e₂ q=>W.inj _ _ _ _ (yM e₁).1 (yM e₂).1 q,fun l' c e=>W.sep _ _ (yM e).1,fun a x=>W.notbase a (Mut.drop x)⟩,
  ⟨Nat.le_refl _,fun _ _=>rfl,fun b o e _=>e,fun a x=>.inl (Mut.drop x),fun b _ o e=>⟨o.slots,e⟩,fun _ o e=>⟨o,e⟩⟩,fun c e z=>?_⟩
 rcases z with ⟨l',c',e',q⟩ | z
 ·exact (yM e').2 (W.inj _ _ _ _ e (yM e').1 q).symm
 ·exact W.sep _ _ e z
theorem H7 {w:World} {σ:St} {ρ:Loc→Addr×Addr} {fr fk:List Addr} {h:Heap} {v:Value} {mv:V} (W:WS w σ ρ fr h) (r:RV ρ σ.nx h (Mut σ ρ fr) v mv):
  WS w (fz2 σ mv) ρ fr h∧Ext fr fk σ ρ h (fz2 σ mv) ρ h∧∀ τ,Ext fr fk σ ρ h τ ρ h→(∀ a,Mut τ ρ fr a→Mut (fz2 σ mv) ρ fr a)→RV ρ τ.nx h (Mut τ ρ fr) v (σ.see mv):=by
 unfold St.see fz2
 cases hl:asR mv with
 | none=>exact ⟨W,.refl,fun τ E _=>E.rv r⟩
 | some l=>
  show WS w (Option.rec σ (fun l=>σ.drop l) (bd (lsA σ l) fun _=>some l):St) ρ fr h∧Ext fr fk σ ρ h (Option.rec σ (fun l=>σ.drop l) (bd (lsA σ l) fun _=>some l):St) ρ h∧∀ τ,Ext fr fk σ ρ h τ ρ h→(∀ a,Mut τ ρ fr a→Mut (Option.rec σ (fun l=>σ.drop l) (bd (lsA σ l) fun _=>some l):St) ρ fr a)→RV ρ τ.nx h (Mut τ ρ fr) v (Option.rec mv V.flst (lsA σ l):V)
  cases hv:lsA σ l with
  | none=>exact ⟨W,.refl,fun τ E _=>E.rv r⟩
  | some vs=>
   obtain ⟨W',E',nm⟩:=W.drop (fk:=fk) (l:=l)
   refine ⟨W',E',fun τ E m=>?_⟩
   obtain ⟨e,items,k,e1,e2⟩:=W.ls hv
   rw [(r.r hl).1,e]
   exact .flst e1 rfl rfl (fun z=>nm _ (xw hv) (m _ z)) (E.rvs e2)
theorem Mut.fz2 {ρ:Loc→Addr×Addr} {fr:List Addr} {a:Addr} {σ:St} {v:V} (h:Mut (fz2 σ v) ρ fr a):Mut σ ρ fr a:=by
 unfold Mine.fz2 at h
 revert h
 cases bd (asR v) fun l=>bd (lsA σ l) fun _=>some l with
 | none=>exact id
 | some l=>exact Mut.drop
theorem Mut.fz {ρ:Loc→Addr×Addr} {fr:List Addr} {a:Addr} {f:List (String×V)}:∀ {σ:St},Mut (fzS σ f) ρ fr a→Mut σ ρ fr a:=by
 induction f with
 | nil=>exact fun h=>h
 | cons p r ih=>exact fun h=>Mut.fz2 (ih h)
theorem RFs.inv {ρ:Loc→Addr×Addr} {n:Nat} {h:Heap} {S:Addr→Prop} {es:List DictEntry} {f:List (String×V)} (r:RFs ρ n h S es f):List.casesOn (motive:=fun _=>Prop) f (es=[]) fun p f=>∃ hs t v es',es=⟨hs,.str (Str.ofString p.1) t,v⟩::es'∧RV ρ n h S v p.2∧RFs ρ n h S es' f:=by
 cases r with
 | nil=>exact rfl
 | cons a b=>exact ⟨_,_,_,_,rfl,a,b⟩
theorem MK {w:World} {ρ:Loc→Addr×Addr} {fr fk:List Addr} {h:Heap} {f:List (String×V)}:∀ {es:List DictEntry} {σ:St},WS w σ ρ fr h→RFs ρ σ.nx h (Mut σ ρ fr) es f→
  WS w (fzS σ f) ρ fr h∧Ext fr fk σ ρ h (fzS σ f) ρ h∧RFs ρ (fzS σ f).nx h (Mut (fzS σ f) ρ fr) es (fzF σ f):=by
 induction f with
 | nil=>intro es σ W r;rw [r.inv];exact ⟨W,.refl,.nil⟩
 | cons p f ih=>
  intro es σ W r
  obtain ⟨hs,t,v,es',e,rv,rs⟩:=r.inv
  obtain ⟨W',E',fin⟩:=H7 (fk:=fk) W rv
  obtain ⟨a,b,c⟩:=ih W' (rs.mono E'.nx E'.ag E'.sound)
  rw [e]
  exact ⟨a,E'.trans b,.cons (fin _ (E'.trans b) fun _=>Mut.fz (f:=f) (σ:=fz2 σ p.2)) c⟩
theorem Kh {f:List (String×V)}:∀ {σ:St},(fzF σ f).map (·.1)=f.map (·.1):=by
 induction f with
 | nil=>exact rfl
 | cons p f ih=>exact congrArg (List.cons p.1) ih
theorem XJ {C:String} {f:List (String×V)} {σ:St} (h:∀ p∈f,zG C p.1=true):∀ p∈fzF σ f,zG C p.1=true:=fun p hp=>by
 have:p.1∈(fzF σ f).map (·.1):=List.mem_map.mpr ⟨p,hp,rfl⟩
 rw [Kh] at this
 obtain ⟨q,hq,e⟩:=List.mem_map.mp this
 exact e▸h q hq
section
variable {K:Fc} {d:Nat} {R:Rel} {sc:List (Str×NameKind)} {c c':Cur} {m:Str→Option Value} {s s':Shared} {Q:V→St→Prop} {QL:List V→St→Prop} {X:String→St→Prop} {v u x:Value} {mv mu mx:V} {vs:List Value} {mvs:List V}
theorem Fc.In.newAt (I:K.In c m s) (k:Nat) {h':Heap} (kk:∀ b o,c.h.get? b=some o→h'.get? b=some o) (p:Addr×Addr) (hp:c.h.objs.size≤p.2) (cl:zu)
  (hc:∀ ρ n S,(∀ v mv,c.RV K.fr v mv→RV ρ n h' S v mv)→(∀ a,S a→a=p.2∨a < c.h.objs.size)→yi K.w ρ n h' S p cl) (tk:Nat):
  ∃ c',c'.σ=c.σ.new k cl∧c'.ρ (c.σ.loc k)=p∧K.In c' m {s with heap:=h',toks:=tk}∧c.Ext K.fr K.fk c'∧c'.RV K.fr (.ref p.1) (.ref (c.σ.loc k)):=by
 have fresh:∀ b o',c.h.get? b=some o'→b≠p.2:=fun b o e q=>Nat.lt_irrefl _ (Nat.lt_of_lt_of_le (q▸Heap.lt_size e) hp)
 obtain ⟨W,E⟩:=WS.new (fk:=K.fk) (k:=k) (c:=cl) (p:=p) I.ws I.there kk hp
  (hc _ _ _ (fun v mv r=>by
   refine RV.mono (Nat.le_succ _) (fun l hl=>if_neg fun z=>?_) (fun b o e n=>⟨kk b o e,fun z=>z.elim (fresh b o e) n⟩) r
   rw [z] at hl;exact Nat.lt_irrefl _ hl) fun a z=>z.imp id fun z=>I.ws.mt_lt I.there z)
 have N:h'.Ns K.N m:=(I.heap▸I.ns:c.h.Ns K.N m).keeps kk
 refine ⟨⟨_,_,h'⟩,rfl,if_pos rfl,⟨rfl,W,N,I.stk.upd I.sub N fun b hb o e=>E.frk b hb o (I.heap▸e),I.sub,I.apart,I.there.up E.al⟩,E,?_⟩
 ·have:(Value.ref p.1)=.ref ((fun l=>if l=c.σ.loc k then p else c.ρ l) (c.σ.loc k)).1:=by
   show Value.ref p.1=Value.ref (if c.σ.loc k=c.σ.loc k then p else c.ρ (c.σ.loc k)).1
   rw [if_pos rfl]
  show RV _ _ _ _ (Value.ref p.1) _
  rw [this]
  exact .ref (Nat.lt_succ_self _)
theorem UY (I:K.In c m s) {l:Loc} {C:String} (hl:l.2.2 < c.σ.nx) (h:Yq l C c.σ Q):K.LQ c s m Q (.ref (c.ρ l).1) s:=by
 obtain ⟨⟨C',f⟩,hc,eC,h⟩:=zd h
 cases eC
 obtain ⟨e1,e2,e5,es,k,e3,e4⟩:=I.ws.ins hc
 obtain ⟨W,E,nm⟩:=WS.drop (fk:=K.fk) I.ws (l:=l)
 rcases VO h with ⟨_,h⟩ | ⟨_,q⟩
 ·rcases VO h with ⟨_,q⟩ | ⟨_,q⟩
  ·obtain ⟨W',E',r⟩:=MK (fk:=K.fk) W (e4.mono E.nx E.ag E.sound)
   refine ⟨_,⟨_,c.ρ,c.h⟩,q,⟨I.heap,W',I.ns,I.stk,I.sub,I.apart,I.there⟩,E.trans E',?_,rfl,rfl⟩
   exact .obj e1 (fun z=>e2 (Mut.drop (Mut.fz z))) e3 (fun z=>nm _ (wF hc) (Mut.fz z)) (XJ e5) r
  ·refine ⟨_,⟨_,c.ρ,c.h⟩,q,⟨I.heap,W,I.ns,I.stk,I.sub,I.apart,I.there⟩,E,?_,rfl,rfl⟩
   exact .obj e1 (fun z=>e2 (Mut.drop z)) e3 (nm _ (wF hc)) e5 (e4.mono E.nx E.ag E.sound)
 ·exact ⟨_,c,q,I,.refl,.ref hl,rfl,rfl⟩
theorem w8 (A:Around) (C:Addr) (vals:List Value):(A.under (.builtin "type.__call__" ⟨.ref C::vals,[]⟩)).frames=A.frames:=by
 show pushEnvs (Code.envs (.builtin "type.__call__" ⟨.ref C::vals,[]⟩)) A.frames=_
 have:Code.envs (.builtin "type.__call__" ⟨.ref C::vals,[]⟩)=[]:=rfl
 rw [this]
 cases A.frames <;> rfl
theorem ZT (A:Around) (C:Addr) (vals:List Value):(A.under (.builtin "type.__call__" ⟨.ref C::vals,[]⟩)).units≤A.units+3:=by
 show A.units+Code.cUnits (.builtin "type.__call__" ⟨.ref C::vals,[]⟩)≤_
 have:Code.cUnits (.builtin "type.__call__" ⟨.ref C::vals,[]⟩)≤3:=Nat.le_of_ble_eq_true rfl
 omega
theorem Hb (O:K.Ok (d+1)) (I:K.In c m s) (r:c.RVs K.fr vs mvs) {k:Nat} {C:String} (h:ju (RC d) k C mvs c.σ Q X):K.EV (call (.ref (CA C)) vs) c m s Q X:=by
 have Xk:(KF K.w.params).In s.heap:=ua (I.heap▸I.ws.base)
 unfold ju at h
 refine wpAny_call ?_
 obtain ⟨hh,g,dr,tk,os⟩:=s
 have hheap:hh=c.h:=I.heap
 subst hheap
 have k2:∀ b o,c.h.get? b=some o→((c.h.push emptyDict).push (instObj (CA C) c.h.objs.size)).get? b=some o:=fun b o e=>Heap.get?_push_of_some _ (Heap.get?_push_of_some _ e)
 have hx:((c.h.push emptyDict).push (instObj (CA C) c.h.objs.size)).get? (c.h.objs.size+1)=some (instObj (CA C) c.h.objs.size):=by
  have:=Heap.get?_push_size (c.h.push emptyDict) (o:=instObj (CA C) c.h.objs.size) rfl
  rwa [Heap.size_push] at this
 have hd:((c.h.push emptyDict).push (instObj (CA C) c.h.objs.size)).get? c.h.objs.size=some emptyDict:=Heap.get?_push_of_some _ (Heap.get?_push_size _ rfl)
 rcases h with ⟨hC,ev,q⟩ | ⟨hC,rc⟩
 ·rw [ev] at r
  rw [r.inv']
  have ok:=List.all_eq_true.mp (qF K.w.params) C (List.contains_iff_mem.mp hC)
  unfold Jm at ok
  simp only [Bool.and_eq_true,beq_iff_eq] at ok
  have Y:=makes_of (M:=model pw K.w) Xk ok.1
  refine make_core Y (looks_findIn Xk ok.2) (fun self=>Looks.of_pure (oi_bind self)) (.inr ⟨rfl,rfl⟩) ?_
  have t1:Looks (model pw K.w) ((c.h.push emptyDict).push (instObj (CA C) c.h.objs.size)) (typeOf (.ref (c.h.objs.size+1))) (.ref (CA C)):=(Looks.ld hx).andThen .now
  have t2:Looks (model pw K.w) ((c.h.push emptyDict).push (instObj (CA C) c.h.objs.size)) (isInstance (.ref (c.h.objs.size+1)) (.type "object")) true:=t1.andThen (Y.top.keeps k2)
  refine codeAny_call_builtin oi_plain entry_oi (@check_slot (model pw K.w) _ _ _ "object.__init__" "object" "__init__" (.ref (c.h.objs.size+1)) [] [] _ oi_kind oi_split t2 (oi_args (.ref (c.h.objs.size+1))) ?_)
  rw [oi_run]
  refine wpAny_pure (And.intro rfl ?_)
  obtain ⟨I',E⟩:=I.grow k2 tk
  refine ⟨_,⟨c.σ,c.ρ,(c.h.push emptyDict).push (instObj (CA C) c.h.objs.size)⟩,q,I',E,?_,rfl,rfl⟩
  have nm:∀ a,c.h.objs.size≤a→¬ Mut c.σ c.ρ K.fr a:=fun a ha z=>Nat.lt_irrefl _ (Nat.lt_of_lt_of_le (I.ws.mt_lt I.there z) ha)
  exact .obj hx (nm _ (Nat.le_succ _)) (es:=[]) (k:=0) hd (nm _ (Nat.le_refl _)) (fun _ h=>absurd h List.not_mem_nil) .nil
 ·have ok:=List.all_eq_true.mp (Yz K.w.params) C (List.contains_iff_mem.mp hC)
  unfold WZ at ok
  simp only [Bool.and_eq_true,beq_iff_eq] at ok
  obtain ⟨⟨ok1,ok2⟩,ok3⟩:=ok
  refine make_core (makes_of Xk ok1) (looks_findIn Xk ok2) (fun self=>bind_fn Xk self (beq_iff_eq.mp ok3)) (.inl rfl) ?_
  obtain ⟨c1,e1,e2,e3,e4,e5⟩:=I.newAt k k2 (c.h.objs.size+1,c.h.objs.size) (Nat.le_refl _) (.inst C []) (fun ρ n S _ hS=>⟨hx,fun z=>(hS _ z).elim (fun q=>Nat.succ_ne_self _ q) (fun q=>Nat.lt_irrefl _ (Nat.lt_trans (Nat.lt_succ_self _) q)),fun _ h=>absurd h List.not_mem_nil,[],0,hd,.nil⟩) tk
  refine rc K.w _ K.st K.fr c1 _ _ _ ?_ ((w8 _ _ _).trans O.frames) ?_ e3.stk e3.sub e3.there e3.heap e1 e3.ws (.cons e5 (e4.rvs r)) (fun mv v c' s' q f2 f3 f4 f5 f6 f7=>?_) fun D ea a0 c' s' q f2 f3 f4 f4' f5 f6 f7=>?_
  ·have:=O.room
   have u:=ZT K.A (CA C) vs
   exact ⟨by rw [depth_under_kw];have:=this.depth;omega,by have:=this.units;omega⟩
  ·exact O.hand
  ·obtain ⟨I',E⟩:=In.after e3 f2 f3 f4
   obtain ⟨_,hn,q⟩:=zd q
   rw [f5.no hn]
   refine ⟨rfl,?_⟩
   have hl:(c.σ.loc k).2.2 < c'.σ.nx:=Nat.lt_of_lt_of_le (by rw [e1];exact Nat.lt_succ_self _) E.nx
   have hρ:c'.ρ (c.σ.loc k)=(c.h.objs.size+1,c.h.objs.size):=(E.ag _ (by rw [e1];exact Nat.lt_succ_self _)).trans e2
   have:=UY I' hl q
   rw [hρ] at this
   exact (this.from E f6 f7).from e4 rfl rfl
  ·have:K.LX c1 _ m X (.ref ea) s':=⟨D,a0,ea,c',rfl,q,f2,f3,f4,⟨f4'.1,fun b hb=>f4'.2 b (vw hb)⟩,fun b hb o e=>f5 b (vw hb) o e,wz e3.ns fun o e=>f5 _ (.head _) o (e3.heap▸e),f6,f7⟩
   exact this.from e4 rfl rfl
theorem XA {w:World} {h:Heap} {C:Addr} (e:makesIn (KF w.params) C=true∧(KF w.params).In h):∃ k,(k=Keeper.frame∨k=Keeper.machine∨k=Keeper.boundFrame)∧Looks (model pw w) h (keeperOf (.ref C)) k:=by
 have Y:=makes_of (M:=model pw w) e.2 e.1
 obtain ⟨oc,od,cd,sl,ho,_⟩:=Y.obj
 exact ⟨.machine,.inr (.inl rfl),(Looks.ld (part:=none) ho).andThen (Y.call.andThen .now)⟩
theorem Xv {P:Params} {k:Nat} {C:String} {vs:List V} {σ:St} (h:ju R k C vs σ Q X):makesIn (KF P) (CA C)=true:=by
 unfold ju at h
 rcases h with ⟨hC,_⟩ | ⟨hC,_⟩
 ·exact (zb (List.all_eq_true.mp (qF P) C (List.contains_iff_mem.mp hC))).1
 ·exact (zb (zb (List.all_eq_true.mp (Yz P) C (List.contains_iff_mem.mp hC))).1).1
theorem Ql (O:K.Ok (d+1)) (hs:sc=K.env.scope.names) {k:Nat} {C:String} {es:List E} {x:Expr} (h:okE sc (.new k C es) x=true) (ih:∀ e∈es,∀ y,okE sc e y=true→SE K (RC d) e y):SE K (RC d) (.new k C es) x:=by
 refine jf.el (fun S q xs pos hn h=>?_) h
 obtain ⟨hg,he⟩:=zb h
 intro F c m s Q X I FR hw
 obtain ⟨e,h2,h3⟩:=zF hn
 exact gF hs hn he ih I FR hw (fun p=>Name_function_global O.kind (zy hs h3) (loadGlobal_global (In.gns O I) (e▸ZI hg _) p) h2) (H:=fun h=>makesIn (KF K.w.params) (CA C)=true∧(KF K.w.params).In h) (fun h e=>XA e)
  (fun _ _ _ I w=>⟨Xv w,ua (I.heap▸I.ws.base)⟩) fun I r h=>Hb O I r h
end
theorem St.new_set {σ:St} {k:Nat} {a b:zu}:(σ.new k a).set (σ.loc k) b=σ.new k b:=by
 unfold St.set St.new
 exact congrArg (fun m=>St.mk m _ _) (funext fun l=>by show (if _ then _ else if _ then _ else _)=_;split <;> rfl)
theorem JV {a:Int} (h0:0≤a) (h:a < 10000):a.natAbs.log2 < 1920:=by
 have:a.natAbs < 2 ^ 14:=by omega
 rcases Nat.eq_zero_or_pos a.natAbs with z | z
 ·rw [z];decide
 ·have:=(Nat.log2_lt (by omega)).mpr this
  omega
theorem RKs.len {K K':Type} {f:K'→K} {ρ n h S} {kvs:List (K×Value)} {d:List (K'×V)} (r:RKs f ρ n h S kvs d):kvs.length=d.length:=by
 induction r with
 | nil=>rfl
 | cons _ _ ih=>exact congrArg (·+1) ih
section
variable {K:Fc} {d:Nat} {R:Rel} {sc:List (Str×NameKind)} {c c':Cur} {m:Str→Option Value} {s s':Shared} {Q:V→St→Prop} {QL:List V→St→Prop} {X:String→St→Prop} {v u x:Value} {mv mu mx:V} {vs:List Value} {mvs:List V}
theorem QT {n:Nat} (h:n≤1000000):(n:Int) < 2 ^ 63:=Int.lt_of_le_of_lt (Int.ofNat_le.mpr h) (by decide)
theorem Hc (I:K.In c m s) (r:c.RV K.fr v mv) {n:Nat} (h:G1 c.σ mv=some n) (hn:n≤1000000) (q:Q (.int n) c.σ):K.EV (call (.builtin "len") [v]) c m s Q X:=by
 have fin:K.LQ c s m Q (.int n (s.toks+1)) {s with toks:=s.toks+1+1}:=I.stay q (.int _ _)
 rcases zK h with h | h
 ·obtain ⟨l,hl,h⟩:=zc h
  obtain ⟨t,e⟩:=r.st hl
  rw [← Option.some.inj h,← yO] at fin hn
  rw [e]
  exact P.len_str (Int.not_le.mpr (QT hn)) fin
 ·obtain ⟨l,hl,h⟩:=zc h
  obtain ⟨a,items,e,hT,e5⟩:=I.seq r hl
  rw [← Option.some.inj h,← e5.len,Array.length_toList] at fin hn
  rw [e]
  rcases hT with ht | ht
  ·exact PyProof.Rows.len_tuple ht (QT hn) fin
  ·exact Calls.call_len_list ht (QT hn) fin
theorem MR (I:K.In c m s) (r:c.RVs K.fr vs mvs) {k:Nat} {f:String} {fv:Value} (hf:bis.lookup f=some fv) (h:biW k f mvs c.σ Q):K.EV (call fv vs) c m s Q X:=by
 obtain ⟨g,hg,h⟩:=zd h
 unfold bis at hf
 rcases xR hg with ⟨ef,eg⟩ | hg
 ·rw [ef] at hf
  rw [← Option.some.inj (Eq.trans (by rfl) hf)]
  rw [← eg] at h
  obtain ⟨mv,h1,h⟩:=zd h
  obtain ⟨v,ev,r⟩:=r.one h1
  obtain ⟨n,hn,hz,q⟩:=zd h
  rw [ev]
  exact Hc I r hn hz q
 rcases xR hg with ⟨ef,eg⟩ | hg
 ·rw [ef] at hf
  rw [← Option.some.inj (Eq.trans (by rfl) hf)]
  rw [← eg] at h
  obtain ⟨mv,h1,h⟩:=zd h
  obtain ⟨v,ev,r⟩:=r.one h1
  obtain ⟨l,hl,h⟩:=zd h
  obtain ⟨vs,hv,hz,q⟩:=zd h
  obtain ⟨e,items,k,e1,e2⟩:=I.ws.ls hv
  rw [ev,(r.r hl).1,e]
  rw [← e2.len,Array.length_toList] at hz
  refine call_tuple_list ⟨_,I.heap▸e1,rfl,k,rfl⟩ (fun h' kk=>?_) (xx hz)
  obtain ⟨I',E⟩:=I.grow (h':=h') (fun b o e=>kk b o (I.heap▸e)) s.toks
  exact (I'.frozen {cls:=.type "tuple",data:=.seq items} q s.toks fun h'' k'' e n=>.tup e rfl rfl n (RVs.grow (E.rvs e2) k'')).from E rfl rfl
 rcases xR hg with ⟨ef,eg⟩ | hg
 ·rw [ef] at hf
  rw [← Option.some.inj (Eq.trans (by rfl) hf)]
  rw [← eg] at h
  obtain ⟨mv,h1,h⟩:=zd h
  obtain ⟨v,ev,r⟩:=r.one h1
  obtain ⟨l,hl,h⟩:=zd h
  obtain ⟨dd,hd,hz,q⟩:=zd h
  obtain ⟨e,kvs,e1,e2⟩:=I.ws.ds hd
  rw [ev,(r.r hl).1,e]
  obtain ⟨c1,f1,f2,f3,f4,f5⟩:=I.newCell k {cls:=.type "dict",data:=.dict #[]} rfl (.ds []) (fun ρ n h S e _=>YK false e) s.toks
  refine kt_call_dict (knd:=PySem.strKind pw K.w) (j6 I (wJ hd)) (I.heap▸e1) (xx (Nat.le_trans (e2.len▸hz) (by decide))) fun h' hm hs=>?_
  have cl:c1.σ.m (c.σ.loc k)=some (.ds []):=by rw [f1];exact if_pos rfl
  have hs':Heap.SameBut s.heap.objs.size c1.h h':=f3.heap▸hs
  refine (Xc f3 cl (cl':=.ds dd) (by rw [f2];exact hs') ?_ s.toks f5 (by rw [f1,St.new_set];exact q)).from f4 rfl rfl
  rw [f2]
  exact ⟨rfl,kvs,hm,(e2.mono f4.nx f4.ag f4.sound).mono (Nat.le_refl _) (fun _ _=>rfl) fun b o e nn=>⟨(hs'.2 b fun z=>nn (z▸.inl ⟨_,_,cl,by rw [f2]⟩)).trans e,nn⟩⟩
 rcases xR hg with ⟨ef,eg⟩ | hg
 ·rw [ef] at hf
  rw [← Option.some.inj (Eq.trans (by rfl) hf)]
  rw [← eg] at h
  obtain ⟨mv,h1,h⟩:=zd h
  obtain ⟨v,ev,r⟩:=r.one h1
  obtain ⟨i,hi,l0,l1,q⟩:=zd h
  obtain ⟨t,e⟩:=r.i hi
  rw [ev,e]
  refine P.str_of_int (JV l0 l1) ?_
  show K.LQ c s m Q (.str (Str.ofString (toString i)) _) _
  rw [show Str.ofString (toString i)=sv (Hq i) from y6 _]
  exact I.stay q (.str _ _)
 ·cases hg
noncomputable def WB (v:Value):Bool:=by induction v using Value.casesOn with | ref _=>exact false | _=>exact true
theorem MA {v:Value} (e:WB v=true) {M:Model} {h:Heap}:∃ k,(k=Keeper.frame∨k=Keeper.machine∨k=Keeper.boundFrame)∧Looks M h (keeperOf v) k:=by
 refine ⟨.machine,.inr (.inl rfl),Looks.of_pure ?_⟩
 induction v using Value.casesOn with
 | ref _=>exact zk e
 | _=>rfl
theorem HE:(bis.all fun c=>WB c.2)=true:=by unfold bis;rfl
theorem N3 (O:K.Ok d) (hs:sc=K.env.scope.names) {k:Nat} {f:String} {es:List E} {x:Expr} (h:okE sc (.bi k f es) x=true) (ih:∀ e∈es,∀ y,okE sc e y=true→SE K R e y):SE K R (.bi k f es) x:=by
 refine jf.el (fun S q xs pos hn h=>?_) h
 obtain ⟨hg,he⟩:=zb h
 obtain ⟨fv,hv⟩:=Option.isSome_iff_exists.mp hg
 obtain ⟨b1,b2⟩:=zb (List.all_eq_true.mp (ZO K.w.params) _ (zz hv))
 intro F c m s Q X I FR hw
 obtain ⟨e,h2,h3⟩:=zF hn
 exact gF hs hn he ih I FR hw (fun p=>Name_function_global O.kind (zy hs h3) (loadGlobal_builtin (In.gns O I) (e▸zH b1) (In.bns O I) (e▸zH b2) p) h2) (H:=fun _=>True)
  (fun h _=>MA (List.all_eq_true.mp HE _ (zz hv))) (fun _ _ _ _ _=>trivial) fun I r h=>MR I r hv h
end
set_option maxRecDepth 100000 in
theorem WN:(yI.all fun c=>(qH.map (·.1)).contains (c.1++"."++c.2))=true:=by decide +kernel
section
variable {K:Fc} {d:Nat} {R:Rel} {sc:List (Str×NameKind)} {c c':Cur} {m:Str→Option Value} {s s':Shared} {Q:V→St→Prop} {QL:List V→St→Prop} {X:String→St→Prop} {v u x:Value} {mv mu mx:V} {vs:List Value} {mvs:List V}
noncomputable def vD (v:Value) (n:String):Cal→Value×List Value
 | .fn f=>(.ref (FA f),[v])
 | .lst _=>(.builtin ("list."++n),[v])
 | .str _=>(.builtin "str.split",[v])
theorem gn (I:K.In c m s) {l:Loc} {xs:List V} {items:Array Value} {k:Nat} (hc:c.σ.m l=some (.lst xs)) (e1:c.h.get? (c.ρ l).2=some {cls:=.type "list",data:=.seq items k}) (e:(c.ρ l).1=(c.ρ l).2) {f:Array Value→Array Value} {ys:List V}
  (r:c.RVs K.fr (f items).toList ys) {v:Value} {mv:V} (rv:c.RV K.fr v mv) (q:Q mv (c.σ.set l (.lst ys))) (tk:Nat):K.LQ c s m Q v {s with heap:=s.heap.update (c.ρ l).2 (Obj.mapSeq f),toks:=tk}:=by
 have hs:Heap.SameBut (c.ρ l).2 c.h (c.h.update (c.ρ l).2 (Obj.mapSeq f)):=Heap.SameBut.update ..
 have g:=Heap.get?_update_self (Obj.mapSeq f) e1 rfl
 rw [I.heap]
 refine Xc I hc hs ?_ tk rv q
 refine ⟨e,f items,_,g,?_⟩
 exact r.mono (Nat.le_refl _) (fun _ _=>rfl) fun b o ob nn=>⟨(hs.2 b fun z=>nn (z▸.inl ⟨_,_,hc,rfl⟩)).trans ob,nn⟩
theorem qE (Xk:(KF K.w.params).In s.heap) {xa da:Addr} {C n:String} {es:List DictEntry} {k:Nat} {fs:List (String×V)} {ρ nx h S} (e1:s.heap.get? xa=some (instObj (CA C) da)) (e3:s.heap.get? da=some (dictOf es k))
  (r:RFs ρ nx h S es fs) (hm:yI.contains (C,n)=true) (hn:fs.lookup n=none) {pl:Sem Bool} {P:Value×List Value→Shared→Prop} {E:Value→Shared→Prop} (h:P (.ref (FA (C++"."++n)),[.ref xa]) s):
  wpAny (model pw K.w) K.A (getMethod (.ref xa) (Str.ofString n) pl) P E s:=by
 have ok:=List.all_eq_true.mp (WM K.w.params) (C,n) (List.contains_iff_mem.mp hm)
 unfold WO at ok
 simp only [Bool.and_eq_true,beq_iff_eq] at ok
 obtain ⟨⟨⟨o1,o2⟩,o3⟩,o4⟩:=ok
 have F:=RFs.find (x:=n) r
 rw [hn] at F
 refine method_fn (od:=some (dictOf es k)) Xk ⟨e1,rfl,rfl,e3⟩ (plainGet_of o1).1 (plainGet_of o1).2 o3 (beq_iff_eq.mp o4) ?_ h
 show (lookIn (Str.ofString n) (dictOf es k)).map _=_
 rw [lookIn_dict,F]
 rfl
theorem vm {σ:St} {v:V} {n:String} {cal:Cal} (h:zR σ v n=some cal):(∃ p,(asO v=some p∨∃ l,asR v=some l∧inA σ l=some p)∧(yI.contains (p.1,n)=true∧p.2.lookup n=none)∧cal=.fn (p.1++"."++n))∨
  (∃ l vs,asR v=some l∧lsA σ l=some vs∧(n="append"∨n="pop"∨n="extend")∧cal=.lst l)∨∃ s,asS v=some s∧n="split"∧cal=.str s:=by
 rcases zK h with h | h
 ·obtain ⟨p,hp,h⟩:=zc h
  obtain ⟨h1,e⟩:=xI h
  obtain ⟨h1,h2⟩:=zb h1
  exact .inl ⟨p,(zK hp).imp id zc,⟨h1,Option.isNone_iff_eq_none.mp h2⟩,e.symm⟩
 rcases zK h with h | h
 ·obtain ⟨l,hl,h⟩:=zc h
  obtain ⟨vs,hv,h⟩:=zc h
  obtain ⟨hn,e⟩:=xI h
  exact .inr (.inl ⟨l,vs,hl,hv,hn,e.symm⟩)
 ·obtain ⟨s,hs,h⟩:=zc h
  obtain ⟨hn,e⟩:=xI h
  exact .inr (.inr ⟨s,hs,hn,e.symm⟩)
theorem zx {σ:St} {l:Loc} {xs:List V} {n:String} (h:σ.m l=some (.lst xs)) (hn:n="append"∨n="pop"∨n="extend"):zR σ (.ref l) n=some (.lst l):=by
 have e1:inA σ l=none:=by unfold inA;rw [h];rfl
 have e2:zR σ (.ref l) n=oO (bd (oO none (inA σ l)) fun p=>if (yI.contains (p.1,n)&&(p.2.lookup n).isNone)=true then some (Cal.fn (p.1++"."++n)) else none) (oO (bd (lsA σ l) fun _=>if n="append"∨n="pop"∨n="extend" then some (Cal.lst l) else none) none):=rfl
 rw [e2,e1,zJ h,if_pos hn];rfl
set_option maxRecDepth 100000 in
theorem Kj (I:K.In c m s) (r:c.RV K.fr v mv) {n:String} {cal:Cal} (h:zR c.σ mv n=some cal) {pl:Sem Bool} {P:Value×List Value→Shared→Prop} {E:Value→Shared→Prop} (q:P (vD v n cal) s):
  wpAny (model pw K.w) K.A (getMethod v (Str.ofString n) pl) P E s:=by
 have Xk:(KF K.w.params).In s.heap:=ua (I.heap▸I.ws.base)
 rcases vm h with ⟨p,hp,⟨h1,h2⟩,e⟩ | ⟨l,vs,hl,hv,hn,e⟩ | ⟨l,hl,hn,e⟩ <;> rw [e] at q
 ·rcases hp with hp | ⟨l,hl,hp⟩
  ·obtain ⟨x,d,es,k,e,e1,e2,e3,e4,e5,e6⟩:=r.o hp
   rw [e] at q ⊢
   exact qE Xk (I.heap▸e1) (I.heap▸e3) e6 h1 h2 q
  ·obtain ⟨e1,e2,e5,es,k,e3,e4⟩:=I.ws.ins hp
   rw [(r.r hl).1] at q ⊢
   exact qE Xk (I.heap▸e1) (I.heap▸e3) e4 h1 h2 q
 ·obtain ⟨e,items,k,e1,e2⟩:=I.ws.ls hv
  rw [(r.r hl).1,e] at q ⊢
  have T:s.TypeIs (.ref (c.ρ l).2) "list":=⟨_,I.heap▸e1,rfl⟩
  have there:∀ a,Value.ref (c.ρ l).2=.ref a→∃ o,s.heap.get? a=some o∧o.dict=none:=fun a e'=>by cases e';exact ⟨_,I.heap▸e1,rfl⟩
  rcases hn with hn | hn | hn <;> rw [hn] at q ⊢
  ·exact getMethod_builtin T PySem.F.plainAttrs_list PySem.F.slot_list_append PySem.F.type_list_append there q
  ·exact getMethod_builtin T PySem.F.plainAttrs_list PySem.F.slot_list_pop PySem.F.type_list_pop there q
  ·exact getMethod_builtin T PySem.F.plainAttrs_list PySem.F.slot_list_extend PySem.F.type_list_extend there q
 ·obtain ⟨t,e⟩:=r.st hl
  rw [e,hn] at q ⊢
  exact GM.split q
theorem KU {ρ n h S} (l:List Str):∀ tk,RVs ρ n h S (strsFrom tk l) (l.map fun w=>.str w.cps.toList):=by
 induction l with
 | nil=>exact fun _=>.nil
 | cons x r ih=>exact fun tk=>.cons (.str _ _) (ih (tk+1))
theorem Vj (I:K.In c m s) {l:List Nat} {t:Tok} {k:Nat} (hl:l.length≤1000) (q:Q (.ref (c.σ.loc k)) (c.σ.new k (.lst ((Txt.words (sv l)).map fun w=>.str w.cps.toList)))):K.EV (call (.builtin "str.split") [.str (sv l) t]) c m s Q X:=by
 have ln:(sv l).length≤sizeLine:=by rw [yO];exact xx (Nat.le_trans hl (by decide))
 have hn:(Builtin.Str.spaceWords (sv l) ((sv l).length+1)).length≤sizeLine:=by
  have e1:=(StrLaws.sw_weight (sv l)).1
  have e2:=StrLaws.len_le_wsum (Builtin.Str.spaceWords (sv l) ((sv l).length+1))
  rw [yO] at e1 e2 ⊢
  rw [sizeLine_eq];omega
 refine call_meets F.slot_str_split (typeIs_str _ _ _) F.entry_str_split (F.args_str_split_1 _) (meets_str_split_space _ t ln hn) ?_
 unfold Txt.words at q
 split
 ·rename_i hw
  rw [if_pos hw] at q
  exact I.newLst k (vs:=[Value.str (sv l) t].toArray) (.cons (.str _ _) .nil) q s.toks
 ·rename_i hw
  rw [if_neg hw] at q
  exact I.newLst k (vs:=(strsFrom s.toks (PySem.wordsOf (sv l))).toArray) (KU _ _) q _
theorem jD {M:Model} {i:String} {h:Heap}:∃ k,(k=Keeper.frame∨k=Keeper.machine∨k=Keeper.boundFrame)∧Looks M h (keeperOf (.builtin i)) k:=
 ⟨.machine,.inr (.inl rfl),Looks.of_pure rfl⟩
theorem QC {items:Array Value} (h:0 < items.size):(items.eraseIdxIfInBounds (items.size - 1)).toList=items.toList.dropLast:=by
 have:items.size - 1 < items.size:=by omega
 simp [Array.eraseIdxIfInBounds,this,List.dropLast_eq_take,List.eraseIdx_eq_take_drop_succ]
 omega
theorem Zv (I:K.In c m s) (r:c.RVs K.fr vs mvs) {l:Loc} {xs:List V} (hc:lsA c.σ l=some xs) (e:(c.ρ l).1=(c.ρ l).2) {items:Array Value} {k:Nat} (e1:c.h.get? (c.ρ l).2=some {cls:=.type "list",data:=.seq items k}) (e2:c.RVs K.fr items.toList xs) {u:V} (hu:one mvs=some u)
  (hz:xs.length < 1000000) (q:Q .none (c.σ.set l (.lst (xs++[u])))):K.EV (call (.builtin "list.append") (.ref (c.ρ l).2::vs)) c m s Q X:=by
 obtain ⟨v,ev,r⟩:=r.one hu
 rw [ev]
 refine call_meets PySem.F.slot_list_append ⟨_,I.heap▸e1,rfl⟩ PySem.F.entry_list_append (PySem.F.args_list_append_2 _ _) (list_append _ items k _ ?_) ⟨I.heap▸e1,gn I (xw hc) e1 e (f:=fun xs=>xs.push _) (by rw [Array.toList_push];exact e2.append (.cons r .nil)) .none q s.toks⟩
 rw [← Array.length_toList,e2.len]
 exact xx (Nat.le_of_lt hz)
theorem K8 (I:K.In c m s) {l:Loc} {xs:List V} (hc:lsA c.σ l=some xs) (e:(c.ρ l).1=(c.ρ l).2) {items:Array Value} {k:Nat} (e1:c.h.get? (c.ρ l).2=some {cls:=.type "list",data:=.seq items k}) (e2:c.RVs K.fr items.toList xs) {u:V} (hu:xs.getLast?=some u)
  (hz:xs.length < 1000000) (q:Q u (c.σ.set l (.lst xs.dropLast))):K.EV (call (.builtin "list.pop") [.ref (c.ρ l).2]) c m s Q X:=by
 have ln:=e2.len
 rw [Array.length_toList] at ln
 have hne:0 < xs.length:=by cases xs with | nil=>cases hu | cons a b=>exact Nat.succ_pos _
 rw [List.getLast?_eq_getElem?] at hu
 obtain ⟨y,hy,ry⟩:=e2.get hu
 refine call_meets PySem.F.slot_list_pop ⟨_,I.heap▸e1,rfl⟩ PySem.F.entry_list_pop (PySem.F.args_list_pop_1 _) (MeetsSeq.list_pop_last _ items k y (by rw [← Array.getElem?_toList,ln];exact hy) (by rw [ln];exact xx (Nat.le_of_lt hz))) ⟨I.heap▸e1,?_⟩
 exact gn I (xw hc) e1 e (f:=fun xs=>xs.eraseIdxIfInBounds (items.size - 1)) (by rw [QC (by rw [ln];exact hne)];exact e2.dropLast) ry q s.toks
theorem Zu (I:K.In c m s) (r:c.RVs K.fr vs mvs) {l:Loc} {xs:List V} (hc:lsA c.σ l=some xs) (e:(c.ρ l).1=(c.ρ l).2) {items:Array Value} {k:Nat} (e1:c.h.get? (c.ρ l).2=some {cls:=.type "list",data:=.seq items k}) (e2:c.RVs K.fr items.toList xs) {u:V} (hu:one mvs=some u) {l':Loc} (hl':asR u=some l') {ys:List V} (hc':lsA c.σ l'=some ys)
  (hz:xs.length+ys.length < 1000000) (q:Q .none (c.σ.set l (.lst (xs++ys)))):K.EV (call (.builtin "list.extend") (.ref (c.ρ l).2::vs)) c m s Q X:=by
 obtain ⟨v,ev,r⟩:=r.one hu
 obtain ⟨e',items',k',e1',e2'⟩:=I.ws.ls hc'
 rw [ev,(r.r hl').1,e']
 have hz:items.size+items'.size≤sizeLine:=by rw [← Array.length_toList,← Array.length_toList,e2.len,e2'.len];exact xx (Nat.le_of_lt hz)
 have big:Builtin.List.listTooLong (items.size+items'.size)=false:=decide_eq_false (Nat.not_lt.mpr hz)
 refine call_meets PySem.F.slot_list_extend ⟨_,I.heap▸e1,rfl⟩ PySem.F.entry_list_extend (PySem.F.args_list_extend_2 _ _) (AutoSeq1.list_extend_list_list_0 _ items k _ items' k' (by rw [big,Bool.and_false];decide) (by omega) (by omega)) ⟨I.heap▸e1,I.heap▸e1',?_⟩
 exact gn I (xw hc) e1 e (f:=fun xs=>xs++items') (by rw [Array.toList_append];exact e2.append e2') .none q s.toks
theorem GX (O:K.Ok (d+1)) (I:K.In c m s) (rv:c.RV K.fr v mv) (r:c.RVs K.fr vs mvs) {k:Nat} {n:String} {cal:Cal} {σ₀:St} (h0:zR σ₀ mv n=some cal) (h:meW (RC d) k mv n cal mvs c.σ Q X):
  K.EV (call (vD v n cal).1 ((vD v n cal).2++vs)) c m s Q X:=by
 unfold meW at h
 rcases vm h0 with ⟨p,_,_,e⟩ | ⟨l,_,hl,_,_,e⟩ | ⟨l,hl,hn,e⟩ <;> rw [e] at h ⊢
 ·exact Jx O I (.cons rv r) h
 ·obtain ⟨xs,hc,h⟩:=zd h
  obtain ⟨e,items,k,e1,e2⟩:=I.ws.ls hc
  show K.EV (call (.builtin ("list."++n)) (v::vs)) c m s Q X
  rw [(rv.r hl).1,e]
  rcases h with ⟨hn,h⟩ | ⟨hn,e0,h⟩ | ⟨hn,h⟩ <;> rw [hn]
  ·obtain ⟨u,hu,hz,q⟩:=zd h
   exact Zv I r hc e e1 e2 hu hz q
  ·rw [e0] at r
   rw [r.inv']
   obtain ⟨u,hu,hz,q⟩:=zd h
   exact K8 I hc e e1 e2 hu hz q
  ·obtain ⟨u,hu,h⟩:=zd h
   obtain ⟨l',hl',h⟩:=zd h
   obtain ⟨ys,hc',hz,_,q⟩:=zd h
   exact Zu I r hc e e1 e2 hu hl' hc' hz q
 ·obtain ⟨e0,hz,q⟩:=h
  rw [e0] at r
  obtain ⟨t,e⟩:=rv.st hl
  rw [r.inv',e]
  exact Vj I hz q
theorem HZ (O:K.Ok (d+1)) {k:Nat} {o:E} {n:String} {es:List E} {x:Expr} (h:okE sc (.me k o n es) x=true) (iho:∀ y,okE sc o y=true→SE K (RC d) o y) (ih:∀ e∈es,∀ y,okE sc e y=true→SE K (RC d) e y):SE K (RC d) (.me k o n es) x:=by
 refine JR.el (fun fn xs kw pos h=>?_) h
 obtain ⟨h,h4⟩:=zb h
 obtain ⟨h,he⟩:=zb h
 obtain ⟨h1,hz⟩:=zb h
 rw [List.isEmpty_iff.mp h1]
 refine uw.el (P:=fun fn=>SE K (RC d) (.me k o n es) (.Call fn xs [] pos)) (fun y nm ap h=>?_) h4
 obtain ⟨h,hy⟩:=zb h
 obtain ⟨h2,hl⟩:=zb h
 cases beq_iff_eq.mp h2
 intro F c m s Q X I FR hw
 show wpAny _ _ (do
  let ov ← attributeBase y (Str.ofString n) K.env (eval y K.env)
  standAt ap.atName
  methodCall y (Str.ofString n) ap pos K.env ov (xs.length+0) (backTo pos (starEach xs K.env)) []) _ _ _
 rw [JG hy]
 have hf:methodCallForm (xs.length+0) (backTo pos (starEach xs K.env)) []=true:=by
  unfold methodCallForm
  rw [(kM he K.env pos).2]
  have:=Nat.le_of_ble_eq_true hz
  simp
  omega
 have hp:methodCallPos true y K.env ap pos=pure pos:=by
  unfold methodCallPos
  simp [beq_iff_eq.mp hl]
 refine wpAny_bind (wpAny_mono (iho _ hy F c m s _ X I FR hw) (fun v s1 z'=>z'.el fun mv c1 e1 e2 e3 e4 e5 e6=>wpAny_bind (wpAny_standAt ?_)) fun _ _ x=>x)
 unfold methodCall calleeOf
 rw [hf,hp]
 obtain ⟨cal,hcal,e1⟩:=zd e1
 refine wpAny_bind (wpAny_holding (Kj e2 e4 hcal (wpAny_bind (wpAny_pure ?_))))
 have kp:∃ P:Heap→Prop,(∀ h,P h→∃ k,(k=Keeper.frame∨k=Keeper.machine∨k=Keeper.boundFrame)∧Looks (model pw K.w) h (keeperOf (vD v n cal).1) k)∧∀ h,YP K.w h→P h:=by
  rcases vm hcal with ⟨p,_,⟨hm,_⟩,e⟩ | ⟨l,_,_,_,_,e⟩ | ⟨l,_,_,e⟩ <;> rw [e]
  ·obtain ⟨o,fd,g1,g2⟩:=YE (List.all_eq_true.mp WN (p.1,n) (List.contains_iff_mem.mp hm)) K.w.params
   exact ⟨fun h=>h.get? (FA (p.1++"."++n))=some o,fun h e=>qC e g2,fun h Y=>Y _ _ g1⟩
  ·exact ⟨fun _=>True,fun h _=>jD,fun _ _=>trivial⟩
  ·exact ⟨fun _=>True,fun h _=>jD,fun _ _=>trivial⟩
 obtain ⟨P,kp,hP⟩:=kp
 have g:K.EV (callWith pos (vD v n cal).1 (vD v n cal).2 (backTo pos (starEach xs K.env)) []) c1 m s1 Q X:=by
  refine callWith_of (P:=P) (by rw [(kM he K.env pos).1];rfl) kp (Jy ih he e2 (FR.ext e3) e1 fun vs s2 z'=>z'.el fun mvs c2 f1 f2 f3 f4 f5 f6=>?_)
  exact ⟨hP _ (f2.heap▸f2.ws.base),wpAny_mono (GX O f2 (f3.rv e4) f4 hcal f1) (fun _ _ x=>x.from f3 f5 f6) fun _ _ x=>x.from f3 f5 f6⟩
 exact wpAny_mono g (fun _ _ x=>x.from e3 e5 e6) fun _ _ x=>x.from e3 e5 e6
end
theorem Mut.sub {σ:St} {ρ:Loc→Addr×Addr} {fr fr':List Addr} (k:∀ a∈fr',a∈fr) {a:Addr} (x:Mut σ ρ fr' a):Mut σ ρ fr a:=x.imp id (k a)
theorem WS.less {w:World} {σ:St} {ρ:Loc→Addr×Addr} {fr fr':List Addr} {h:Heap} (W:WS w σ ρ fr h) (k:∀ a∈fr',a∈fr):WS w σ ρ fr' h:=
 ⟨W.base,fun l c e=>⟨(W.cells l c e).1,(W.cells l c e).2.mono (Nat.le_refl _) (fun _ _=>rfl) (fun b o ob n=>⟨ob,fun x=>n (x.sub k)⟩) fun o ob=>ob⟩,
  W.inj,fun l c e x=>W.sep l c e (k _ x),fun a x=>W.notbase a (x.sub k)⟩
theorem WS.turn {w:World} {σ:St} {ρ:Loc→Addr×Addr} {fr:List Addr} {h h':Heap} {C:Addr} (W:WS w σ ρ fr h) (hC:C∈fr) (hs:Heap.SameBut C h h'):WS w σ ρ fr h':=by
 have ne:∀ l c,σ.m l=some c→(ρ l).2≠C:=fun l c e z=>W.sep l c e (z▸hC)
 refine ⟨fun b o e=>(hs.2 b fun z=>?_).trans (W.base b o e),fun l c e=>⟨(W.cells l c e).1,(W.cells l c e).2.mono (Nat.le_refl _) (fun _ _=>rfl) (fun b o ob n=>⟨(hs.2 b fun z=>n (z▸.inr hC)).trans ob,n⟩) fun o ob=>(hs.2 _ (ne l c e)).trans ob⟩,
  W.inj,W.sep,W.notbase⟩
 ·have:=W.notbase C (.inr hC);rw [z] at e;rw [this] at e;cases e
theorem WS.more {w:World} {σ:St} {ρ:Loc→Addr×Addr} {fr:List Addr} {h h':Heap} {a:Addr} (W:WS w σ ρ fr h) (k:∀ b o,h.get? b=some o→h'.get? b=some o) (ha:h.get? a=none):WS w σ ρ (a::fr) h'∧∀ {v mv},RV ρ σ.nx h (Mut σ ρ fr) v mv→RV ρ σ.nx h' (Mut σ ρ (a::fr)) v mv:=by
 have keep:∀ b o,h.get? b=some o→¬ Mut σ ρ fr b→h'.get? b=some o∧¬ Mut σ ρ (a::fr) b:=fun b o e n=>⟨k b o e,fun x=>by
  rcases x with x | x
  ·exact n (.inl x)
  ·rcases List.mem_cons.mp x with rfl | x
   ·rw [ha] at e;cases e
   ·exact n (.inr x)⟩
 refine ⟨⟨W.base.keeps k,fun l c e=>⟨(W.cells l c e).1,(W.cells l c e).2.mono (Nat.le_refl _) (fun _ _=>rfl) keep fun o ob=>k _ o ob⟩,W.inj,fun l c e x=>?_,fun b x=>?_⟩,fun r=>r.mono (Nat.le_refl _) (fun _ _=>rfl) keep⟩
 ·rcases List.mem_cons.mp x with q | x
  ·obtain ⟨o,ob⟩:=(W.cells l c e).2.there;rw [q,ha] at ob;cases ob
  ·exact W.sep l c e x
 ·rcases x with x | x
  ·exact W.notbase b (.inl x)
  ·rcases List.mem_cons.mp x with rfl | x
   ·cases q:(hf w.params).get? b with
    | none=>rfl
    | some o=>have:=W.base b o q;rw [ha] at this;cases this
   ·exact W.notbase b (.inr x)
theorem Ext.leave {fr fk fr₁ fk₁:List Addr} {σ₀ σ σ':St} {ρ₀ ρ ρ':Loc→Addr×Addr} {h₀ h h':Heap} (E₀:Ext fr fk σ₀ ρ₀ h₀ σ ρ h) (E:Ext fr₁ fk₁ σ ρ h σ' ρ' h') (k:∀ a∈fr,a∈fr₁) (n:∀ a∈fr₁,a∈fr∨h₀.get? a=none) (kf:∀ a∈fk,a∈fk₁):Ext fr fk σ₀ ρ₀ h₀ σ' ρ' h':=by
 have keep:∀ b o,h₀.get? b=some o→¬ Mut σ₀ ρ₀ fr b→h'.get? b=some o:=fun b o e m=>by
  obtain ⟨e1,m1⟩:=E₀.sound b o e m
  refine E.keep b o e1 fun x=>?_
  rcases x with x | x
  ·exact m1 (.inl x)
  ·rcases n b x with x | x
   ·exact m1 (.inr x)
   ·rw [x] at e;cases e
 refine ⟨Nat.le_trans E₀.nx E.nx,fun l hl=>(E.ag l (Nat.lt_of_lt_of_le hl E₀.nx)).trans (E₀.ag l hl),keep,fun a x=>?_,fun b hb o e=>?_,fun a o e=>by obtain ⟨o',e'⟩:=E₀.al a o e;exact E.al a o' e'⟩
 ·have later:h.get? a=none→Mut σ₀ ρ₀ fr a∨h₀.get? a=none:=fun q=>by
   by_cases z:Mut σ₀ ρ₀ fr a
   ·exact .inl z
   ·refine .inr ?_
    cases e:h₀.get? a with
    | none=>rfl
    | some o=>rw [E₀.keep a o e z] at q;cases q
  rcases E.mt a (x.sub k) with y | y
  ·rcases y with y | y
   ·exact E₀.mt a (.inl y)
   ·rcases n a y with y | y
    ·exact .inl (.inr y)
    ·exact .inr y
  ·exact later y
 ·obtain ⟨sl,e1⟩:=E₀.frk b hb o e
  obtain ⟨sl',e2⟩:=E.frk b (kf b hb) _ e1
  exact ⟨sl',e2⟩
theorem Ext.later {fr fk:List Addr} {σ₀ σ:St} {ρ₀ ρ:Loc→Addr×Addr} {h₀ h h':Heap} {C:Addr} (E:Ext fr fk σ₀ ρ₀ h₀ σ ρ h) (hC:h₀.get? C=none) (hs:Heap.SameBut C h h'):Ext fr fk σ₀ ρ₀ h₀ σ ρ h':=by
 have ne:∀ b o,h₀.get? b=some o→b≠C:=fun b o e z=>by rw [z,hC] at e;cases e
 exact ⟨E.nx,E.ag,fun b o e m=>(hs.2 b (ne b o e)).trans (E.keep b o e m),E.mt,fun b hb o e=>by obtain ⟨sl,q⟩:=E.frk b hb o e;exact ⟨sl,(hs.2 b (ne b o e)).trans q⟩,fun b o e=>by obtain ⟨o',q⟩:=E.al b o e;exact ⟨o',(hs.2 b (ne b o e)).trans q⟩⟩
theorem WS.leaves {w:World} {σ:St} {ρ:Loc→Addr×Addr} {fr fr':List Addr} {h h':Heap} (W:WS w σ ρ fr h) (k:∀ a∈fr',a∈fr) (g:List Addr) (hg:∀ a∈g,a∈fr) (hg':∀ a∈g,a∉fr') (hs:∀ b o,b∉g→h.get? b=some o→h'.get? b=some o):WS w σ ρ fr' h':=by
 have ne:∀ l c,σ.m l=some c→(ρ l).2∉g:=fun l c e z=>W.sep l c e (hg _ z)
 refine ⟨fun b o e=>hs b o (fun z=>?_) (W.base b o e),fun l c e=>⟨(W.cells l c e).1,(W.cells l c e).2.mono (Nat.le_refl _) (fun _ _=>rfl) (fun b o ob n=>⟨hs b o (fun z=>n (.inr (hg _ z))) ob,fun x=>n (x.sub k)⟩) fun o ob=>hs _ o (ne l c e) ob⟩,
  W.inj,fun l c e x=>W.sep l c e (k _ x),fun a x=>W.notbase a (x.sub k)⟩
 have:=W.notbase b (.inr (hg _ z));rw [this] at e;cases e
theorem Ext.laters {fr fk:List Addr} {σ₀ σ:St} {ρ₀ ρ:Loc→Addr×Addr} {h₀ h h':Heap} (E:Ext fr fk σ₀ ρ₀ h₀ σ ρ h) (g:List Addr) (hC:∀ a∈g,h₀.get? a=none) (hs:∀ b o,b∉g→h.get? b=some o→h'.get? b=some o):Ext fr fk σ₀ ρ₀ h₀ σ ρ h':=by
 have ne:∀ b o,h₀.get? b=some o→b∉g:=fun b o e z=>by rw [hC b z] at e;cases e
 exact ⟨E.nx,E.ag,fun b o e m=>hs b o (ne b o e) (E.keep b o e m),E.mt,fun b hb o e=>by obtain ⟨sl,q⟩:=E.frk b hb o e;exact ⟨sl,hs b _ (ne b o e) q⟩,fun b o e=>by obtain ⟨o',q⟩:=E.al b o e;exact ⟨o',hs b o' (ne b o e) q⟩⟩
theorem Ya {n k:String} {u:V} {fs:List (String×V)}:(yo n u fs).lookup k=if k=n then some u else fs.lookup k:=by
 induction fs with
 | nil=>exact List.lookup_cons.trans (by
  by_cases q:k=n
  ·rw [if_pos q,q,beq_self_eq_true]
  ·rw [if_neg q,beq_eq_false_iff_ne.mpr q])
 | cons p r ih=>
  rw [hV]
  by_cases e:p.1=n
  ·rw [if_pos e,List.lookup_cons,List.lookup_cons,e]
   by_cases q:k=n
   ·rw [if_pos q,q,beq_self_eq_true]
   ·rw [if_neg q,beq_eq_false_iff_ne.mpr q]
  ·rw [if_neg e,List.lookup_cons,List.lookup_cons]
   by_cases q:k=p.1
   ·rw [if_neg (fun z=>e (q.symm.trans z)),q,beq_self_eq_true]
   ·rw [beq_eq_false_iff_ne.mpr q];exact ih
noncomputable def HN (m:Str→Option Value) (n:String) (v:Value):Str→Option Value:=fun x=>if x=Str.ofString n then some v else m x
section
variable {K:Fc} {d:Nat} {R:Rel} {sc:List (Str×NameKind)} {c c':Cur} {m m':Str→Option Value} {s s':Shared} {Q:V→St→Prop} {QL:List V→St→Prop} {X:String→St→Prop} {v u x:Value} {mv mu mx:V} {vs:List Value} {mvs:List V} {F F':List (String×V)}
inductive Fc.LT (K:Fc) (c:Cur) (s:Shared) (F:List (String×V)) (s':Shared):Prop
 | mk (c':Cur) (m':Str→Option Value):c'.σ=c.σ→K.In c' m' s'→FrR K c' m' F→c.Ext K.fr K.fk c'→s'.gens=s.gens→s'.os=s.os→Fc.LT K c s F s'
theorem Fc.LT.el {K:Fc} {c:Cur} {s:Shared} {F:List (String×V)} {s':Shared} {P:Prop} (x:Fc.LT K c s F s') (k:∀ (c':Cur) (m':Str→Option Value),c'.σ=c.σ→K.In c' m' s'→FrR K c' m' F→c.Ext K.fr K.fk c'→s'.gens=s.gens→s'.os=s.os→P):P:=x.casesOn k
theorem FrR.upd (FR:FrR K c m F) {n:String} (rv:c.RV K.fr v mv):FrR K c (HN m n v) (yo n mv F):=fun k mk h=>by
 rw [Ya] at h
 split at h
 ·rename_i q;subst q;cases h
  exact ⟨v,if_pos rfl,rv⟩
 ·rename_i q
  obtain ⟨w,a,b⟩:=FR k mk h
  exact ⟨w,(if_neg fun z=>q (j5 z)).trans a,b⟩
theorem In.store (O:K.Ok d) (I:K.In c m s) (FR:FrR K c m F) {n:String} (rv:c.RV K.fr v mv) {h':Heap} (hn:h'.Ns K.N (HN m n v)) (hs:Heap.SameBut K.N s.heap h') (tk:Nat):K.LT c s (yo n mv F) {s with heap:=h',toks:=tk}:=by
 rw [I.heap] at hs
 have ht:∃ o,h'.get? K.N=some o:=let ⟨o,_,_,e,_⟩:=hn;⟨o,e⟩
 have W:=WS.turn I.ws (.head _) hs
 have E:c.Ext K.fr K.fk ⟨c.σ,c.ρ,h'⟩:=⟨Nat.le_refl _,fun _ _=>rfl,fun b o e n=>(hs.2 b fun z=>n (.inr (z▸.head _))).trans e,fun _ x=>.inl x,fun b hb o e=>⟨o.slots,(hs.2 b fun z=>I.apart (z▸hb)).trans e⟩,fun b o e=>by
  by_cases z:b=K.N
  ·subst z;exact ht
  ·exact ⟨o,(hs.2 b z).trans e⟩⟩
 exact ⟨⟨c.σ,c.ρ,h'⟩,_,rfl,⟨rfl,W,hn,I.stk.upd I.sub hn fun b hb o e=>E.frk b hb o (I.heap▸e),I.sub,I.apart,I.there.up E.al⟩,(FR.ext E).upd (E.rv rv),E,rfl,rfl⟩
theorem wI (O:K.Ok d) (I:K.In c m s) (FR:FrR K c m F) {n:String} (rv:c.RV K.fr v mv) (hk:K.env.kindOf (Str.ofString n)=some .local) {E:Value→Shared→Prop}:wpAny (model pw K.w) K.A (storeName K.env (Str.ofString n) v) (fun _=>K.LT c s (yo n mv F)) E s:=by
 refine wpAny_storeName_local hk (O.loc▸I.ns) (fun h' hn hs=>?_) (by rw [O.kind];rfl)
 rw [O.loc] at hn hs
 exact In.store O I FR rv hn hs _
theorem Fc.LT.from {s'':Shared} (x:K.LT c' s' F s'') (e:c'.σ=c.σ) (E:c.Ext K.fr K.fk c') (g:s'.gens=s.gens) (o:s'.os=s.os):K.LT c s F s'':=by
 obtain ⟨c2,m2,e1,e2,e3,e4,e5,e6⟩:=x
 exact ⟨c2,m2,e1.trans e,e2,e3,E.trans e4,e5.trans g,e6.trans o⟩
theorem Zo.el {ns:List String} {n:String} {P:List Expr→Prop} (k:∀ s p xs,zB sc .local n s=true→Zo sc ns xs=true→P (.Name s p::xs)) {xs:List Expr} (h:Zo sc (n::ns) xs=true):P xs:=
 zQ.el (P:=P) (fun x xs h=>yK.el (P:=fun x=>P (x::xs)) (fun s p h'=>k s p xs h' (zb h).2) (zb h).1) h
theorem Vl (O:K.Ok d) (hs:sc=K.env.scope.names) {ns:List String}:∀ {xs:List Expr} {c m s F F' vs mvs},Zo sc ns xs=true→Jb ns mvs F=some F'→K.In c m s→FrR K c m F→c.RVs K.fr vs mvs→∀ {E:Value→Shared→Prop},
  wpAny (model pw K.w) K.A (assignInOrder ((assignEach xs K.env).map (·.2)) vs) (fun _=>K.LT c s F') E s:=by
 induction ns with
 | nil=>
  intro xs c m s F F' vs mvs hx h I FR r E
  rw [List.isEmpty_iff.mp hx]
  cases mvs with
  | nil=>
   rw [r.inv']
   exact wpAny_pure ⟨c,m,rfl,I,Option.some.inj h▸FR,.refl,rfl,rfl⟩
  | cons=>exact zL h
 | cons n ns ih=>
  intro xs c m s F F' vs mvs hx h I FR r E
  refine Zo.el (P:=fun xs=>wpAny (model pw K.w) K.A (assignInOrder ((assignEach xs K.env).map (·.2)) vs) (fun _=>K.LT c s F') E s) (fun S p xs hn hx=>?_) hx
  obtain ⟨e,h2,h3⟩:=zF hn
  cases mvs with
  | nil=>exact zL h
  | cons mv mvs=>
   obtain ⟨v,ws,ev,rv,rs⟩:=r.inv'
   rw [e,ev]
   show wpAny _ _ (do holding _ (assign (.Name _ _) K.env _);assignInOrder ((assignEach xs K.env).map (·.2)) _) _ _ _
   refine wpAny_bind (wpAny_holding (wpAny_assign_Name (wpAny_mono (wI O I FR rv (e▸zy hs h3) (E:=E)) (fun _ s1 z'=>z'.el fun c1 m1 e1 e2 e3 e4 e5 e6=>?_) fun _ _ x=>x)))
   exact wpAny_mono (ih hx h e2 e3 (e4.rvs rs)) (fun _ _ x=>x.from e1 e4 e5 e6) fun _ _ x=>x
theorem Gp {ns:List String}:∀ {xs:List Expr},Zo sc ns xs=true→∀ env,(assignEach xs env).length=ns.length∧(assignEach xs env).findIdx? (·.1)=none:=by
 induction ns with
 | nil=>intro xs h env;rw [List.isEmpty_iff.mp h];exact ⟨rfl,rfl⟩
 | cons n ns ih=>
  intro xs h
  refine Zo.el (P:=fun xs=>∀ env,(assignEach xs env).length=(n::ns).length∧(assignEach xs env).findIdx? (·.1)=none) (fun S p xs hn hx env=>?_) h
  obtain ⟨a,b⟩:=ih hx env
  refine ⟨congrArg (·+1) a,?_⟩
  show ((false,_)::assignEach xs env).findIdx? (·.1)=none
  rw [List.findIdx?_cons,b];rfl
theorem K0 {ns:List String}:∀ {l:List V} {F F':List (String×V)},Jb ns l F=some F'→ns.length=l.length:=by
 induction ns with
 | nil=>intro l F F' h;cases l <;> first | rfl | exact zL h
 | cons n ns ih=>intro l F F' h;cases l <;> first | exact zL h | exact congrArg (·+1) (ih h)
theorem qI (O:K.Ok d) (hs:sc=K.env.scope.names) {tg:List String} {t:Expr} (ht:okT sc tg t=true) (hb:yn tg mv F=some F') (I:K.In c m s) (FR:FrR K c m F) (rv:c.RV K.fr v mv) {E:Value→Shared→Prop}:
  wpAny (model pw K.w) K.A (assign t K.env v) (fun _=>K.LT c s F') E s:=by
 rcases tg with _ | ⟨n,_ | ⟨n',ns⟩⟩
 ·exact zk ht
 ·refine yK.el (P:=fun t=>wpAny (model pw K.w) K.A (assign t K.env v) (fun _=>K.LT c s F') E s) (fun S p ht=>?_) ht
  obtain ⟨e,h2,h3⟩:=zF ht
  rw [e,← Option.some.inj hb]
  exact wpAny_assign_Name (wI O I FR rv (e▸zy hs h3))
 ·refine X8.el (P:=fun t=>wpAny (model pw K.w) K.A (assign t K.env v) (fun _=>K.LT c s F') E s) (fun xs k0 p ht=>?_) ht
  obtain ⟨l,hl,hb⟩:=zc hb
  obtain ⟨a,o,items,k,ev,e1,e2,e3,e4,e5⟩:=rv.t hl
  obtain ⟨l1,l2⟩:=Gp ht K.env
  rw [ev]
  refine wpAny_assign_Tuple O.hand (t:=a) (items:=items) ⟨o,I.heap▸e1,e2,_,e3⟩ (by rw [l1,K0 hb,← e5.len,Array.length_toList]) l2 fun h' hx=>?_
  obtain ⟨I',E'⟩:=I.grow (h':=h') (fun b o e=>hx b o (fun z=>by rw [z,← I.heap] at e;exact Nat.lt_irrefl _ (Heap.lt_size e)) (I.heap▸e)) s.toks
  exact wpAny_mono (Vl O hs ht hb I' (FR.ext E') (E'.rvs e5)) (fun _ _ x=>x.from rfl E' rfl rfl) fun _ _ x=>x
noncomputable def yG (v:V):Bool:=(asT v).isSome
noncomputable def uv (h:Heap) (a:Addr) (T:Bool) (items:Array Value):Prop:=if T then h.IsTuple a items else h.IsList a items
noncomputable def y3 (h:Heap) (it a:Addr) (T:Bool) (i:Nat):Prop:=if T then h.IsTupleIter it a i else h.IsListIter it a i
theorem jE (I:K.In c m s) (rv:c.RV K.fr v mv) {l:List V} (h:zX c.σ mv=some l):∃ a items,v=.ref a∧uv s.heap a (yG mv) items∧c.RVs K.fr items.toList l:=by
 rw [I.heap]
 rcases zK h with h | h
 ·obtain ⟨a,o,items,k,e,e1,e2,e3,_,e5⟩:=rv.t h
  rw [show yG mv=true by unfold yG;rw [h];rfl]
  exact ⟨a,items,e,⟨o,e1,e2,k,e3⟩,e5⟩
 ·rcases zK h with h | h
  ·obtain ⟨a,o,items,k,e,e1,e2,e3,_,e5⟩:=rv.f h
   rw [JM h]
   exact ⟨a,items,e,⟨o,e1,e2,k,e3⟩,e5⟩
  ·obtain ⟨l',hl,h⟩:=zc h
   obtain ⟨e,items,k,e1,e2⟩:=I.ws.ls h
   rw [JK hl]
   exact ⟨_,items,(rv.r hl).1.trans (congrArg _ e),⟨_,e1,rfl,k,rfl⟩,e2⟩
noncomputable def jV (T:Bool) (a:Addr):Obj:={cls:=.type (if T then "tuple_iterator" else "list_iterator"),data:=.fields #[.ref a,.int 0 0]}
theorem Jw {a:Addr} {T:Bool} {items:Array Value} {Q:Value→Shared→Prop} {E:Value→Shared→Prop} {A:Around} {w:World} (h:uv s.heap a T items) (q:Q (.ref s.heap.objs.size) {s with heap:=s.heap.push (jV T a)}):wpAny (model pw w) A (pyIter (.ref a)) Q E s:=by
 cases T
 ·exact wpAny_pyIter_list h q
 ·exact wpAny_pyIter_tuple h q
theorem gw {h:Heap} {a:Addr} {T:Bool}:y3 (h.push (jV T a)) h.objs.size a T 0:=by
 cases T
 ·exact ⟨_,Heap.get?_push_size _ rfl,rfl,rfl⟩
 ·exact ⟨_,Heap.get?_push_size _ rfl,rfl,rfl⟩
theorem XB {a it:Addr} {T:Bool} {i:Nat} {Q:Value→Shared→Prop} {E:Value→Shared→Prop} {A:Around} {w:World} (h:y3 s.heap it a T i) (q:Q (.ref it) s):wpAny (model pw w) A (pyIter (.ref it)) Q E s:=by
 cases T
 ·exact wpAny_pyIter_listiter h q
 ·exact wpAny_pyIter_tupleiter h q
theorem qD {a it:Addr} {T:Bool} {i:Nat} {items:Array Value} {y:Value} {Q:Option Value→Shared→Prop} {E:Value→Shared→Prop} {A:Around} {w:World} (h:y3 s.heap it a T i) (hi:uv s.heap a T items) (hy:items[i]?=some y)
  (q:∀ h',y3 h' it a T (i+1)→Heap.SameBut it s.heap h'→Q (some y) {s with heap:=h'}):wpAny (model pw w) A (pyNext (.ref it)) Q E s:=by
 cases T
 ·exact wpAny_pyNext_list_item h hi hy q
 ·exact wpAny_pyNext_tuple_item h hi hy q
theorem Yv {a it:Addr} {T:Bool} {i:Nat} {items:Array Value} {Q:Option Value→Shared→Prop} {E:Value→Shared→Prop} {A:Around} {w:World} (hh:A.handled=none) (h:y3 s.heap it a T i) (hi:uv s.heap a T items) (hy:items[i]?=none)
  (q:∀ h',Heap.ExtBut it s.heap h'→Q none {s with heap:=h'}):wpAny (model pw w) A (pyNext (.ref it)) Q E s:=by
 cases T
 ·exact wpAny_pyNext_list_end hh h hi hy q
 ·exact wpAny_pyNext_tuple_end hh h hi hy q
theorem y3.data {h:Heap} {it a:Addr} {T:Bool} {i:Nat} (x:y3 h it a T i):∃ o vs,h.get? it=some o∧o.data=.fields vs:=by
 cases T
 ·obtain ⟨o,e,_,d⟩:=x;exact ⟨o,_,e,d⟩
 ·obtain ⟨o,e,_,d⟩:=x;exact ⟨o,_,e,d⟩
theorem y3.same {h h':Heap} {it a:Addr} {T:Bool} {i:Nat} (x:y3 h it a T i) (e:∀ o,h.get? it=some o→∃ sl,h'.get? it=some {o with slots:=sl}):y3 h' it a T i:=by
 cases T
 ·obtain ⟨o,e1,e2,e3⟩:=x;obtain ⟨sl,z⟩:=e o e1;exact ⟨_,z,e2,e3⟩
 ·obtain ⟨o,e1,e2,e3⟩:=x;obtain ⟨sl,z⟩:=e o e1;exact ⟨_,z,e2,e3⟩
noncomputable def Fc.add (K:Fc) (a:Addr):Fc:={K with fk:=a::K.fk}
theorem Fc.Ok.add (O:K.Ok d) (a:Addr):(K.add a).Ok d:=⟨O.kind,O.loc,O.glob,O.blt,O.frames,O.hand,O.room⟩
theorem In.add (I:K.In c m s) {a:Addr} {h':Heap} (k:∀ b o,c.h.get? b=some o→h'.get? b=some o) (ha:c.h.get? a=none) (ht:∃ o,h'.get? a=some o) (tk:Nat):
  (K.add a).In ⟨c.σ,c.ρ,h'⟩ m {s with heap:=h',toks:=tk}∧(∀ {v mv},c.RV K.fr v mv→Cur.RV (K.add a).fr ⟨c.σ,c.ρ,h'⟩ v mv)∧c.Ext K.fr K.fk ⟨c.σ,c.ρ,h'⟩:=by
 obtain ⟨W,r⟩:=WS.more I.ws k ha
 obtain ⟨I',E⟩:=I.grow k tk
 have sub:∀ b∈(K.add a).fr,b∈a::K.fr:=fun b hb=>by
  rcases List.mem_cons.mp hb with rfl | hb
  ·exact .tail _ (.head _)
  ·rcases List.mem_cons.mp hb with rfl | hb
   ·exact .head _
   ·exact .tail _ (.tail _ hb)
 have sub':∀ b∈K.fr,b∈(K.add a).fr:=fun b hb=>by
  rcases List.mem_cons.mp hb with rfl | hb
  ·exact .head _
  ·exact .tail _ (.tail _ hb)
 have sub'':∀ b∈a::K.fr,b∈(K.add a).fr:=fun b hb=>by
  rcases List.mem_cons.mp hb with rfl | hb
  ·exact .tail _ (.head _)
  ·exact sub' b hb
 refine ⟨⟨rfl,W.less sub,I'.ns,I'.stk,fun b hb=>sub' b (I.sub b hb),fun z=>?_,fun b hb=>?_⟩,fun x=>RV.mono (Nat.le_refl _) (fun _ _=>rfl) (fun b o e n=>⟨e,fun z=>n (Mut.sub sub z)⟩) (r x),E⟩
 rotate_left
 ·rcases List.mem_cons.mp (sub b hb) with rfl | hb
  ·exact ht
  ·obtain ⟨o,e⟩:=I.there b hb;exact ⟨o,k b o e⟩
 rcases List.mem_cons.mp z with q | z
 ·obtain ⟨o,_,_,e,_⟩:=I.ns
  have e:s.heap.get? K.N=some o:=e
  rw [I.heap,show K.N=a from q,ha] at e;cases e
 ·exact I.apart z
theorem In.step (I:K.In c m s) {it a:Addr} {T:Bool} {i:Nat} (hit:it∈K.fk) (x:y3 s.heap it a T i) {h':Heap} (x':y3 h' it a T (i+1)) (hs:Heap.SameBut it s.heap h'):
  K.In ⟨c.σ,c.ρ,h'⟩ m {s with heap:=h'}∧(∀ {v mv},c.RV K.fr v mv→Cur.RV K.fr ⟨c.σ,c.ρ,h'⟩ v mv):=by
 have hs':Heap.SameBut it c.h h':=I.heap▸hs
 obtain ⟨o,vs,e1,e2⟩:=x.data
 obtain ⟨o',vs',e1',e2'⟩:=x'.data
 have ne:K.N≠it:=fun z=>I.apart (z▸hit)
 refine ⟨⟨rfl,WS.turn I.ws (.tail _ hit) hs',I.ns.sameBut hs ne,fun e he=>?_,I.sub,I.apart,fun b hb=>?_⟩,fun r=>RV.mono (Nat.le_refl _) (fun _ _=>rfl) (fun b o e n=>⟨(hs'.2 b fun z=>n (z▸.inr (.tail _ hit))).trans e,n⟩) r⟩
 rotate_left
 ·by_cases z:b=it
  ·exact z▸⟨o',e1'⟩
  ·obtain ⟨o,e⟩:=I.there b hb;exact ⟨o,(hs'.2 b z).trans e⟩
 obtain ⟨p,L,o2,q1,q2,q3⟩:=I.stk e he
 exact ⟨p,L,o2,q1,(hs.2 L fun z=>by rw [z,e1] at q2;cases q2;exact q3 _ e2).trans q2,q3⟩
end
section
variable {K:Fc} {d:Nat} {sc:List (Str×NameKind)} {c c':Cur} {m m':Str→Option Value} {s s':Shared} {Q:V→St→Prop} {X:String→St→Prop} {v u x:Value} {mv mu mx:V}
theorem kR {sp:Scope} (h:Wv sp=true):sp.kind=.function∧(∀ x∈sp.names,x.2≠.free)∧(∀ x∈sp.names,x.2≠.cell)∧∀ x∈sp.names,x.2=.local→sp.names.lookup x.1=some .local:=by
 unfold Wv at h
 simp only [Bool.and_eq_true,beq_iff_eq,List.all_eq_true,bne_iff_ne,ne_eq,Bool.or_eq_true] at h
 refine ⟨h.1,fun x hx=>(h.2 x hx).1.1,fun x hx=>(h.2 x hx).1.2,fun x hx e=>?_⟩
 rcases (h.2 x hx).2 with q | q
 ·exact absurd e q
 ·exact q
noncomputable def Fc.comp (K:Fc) (it C:Addr) (env:Env):Fc:={w:=K.w,A:=K.A,env:=env,N:=C,fk:=K.N::it::K.fk,st:=K.st}
theorem WC {e:E} {x:Expr} (h:okE sc e x=true) (env:Env) (v:Value):foldedSetIterable x env v=pure v:=by
 induction x using PySem.Expr.casesOn with
 | Set=>exact zk (by induction e using Mine.E.casesOn <;> exact h)
 | _=>rfl
theorem UQ {tg:List String} {t:Expr} (h:okT sc tg t=true) {h':Heap} {it a:Addr} {T:Bool} {i:Nat} (x:y3 h' it a T i) (v:Value) {M:Model} {A:Around} {E:Value→Shared→Prop} {Q:Unit→Shared→Prop} (e:s.heap=h') (q:Q () s):wpAny M A (letOwnedTupleGo t (.ref it) v) Q E s:=by
 subst e
 unfold letOwnedTupleGo
 have key:∃ o n vs,s.heap.get? it=some o∧o.cls=.type n∧o.data=.fields vs∧["enumerate","zip","dict_itemiterator","dict_reverseitemiterator","odict_iterator","itertools.zip_longest","itertools.pairwise"].contains n=false:=by
  cases T
  ·obtain ⟨o,e1,e2,e3⟩:=x;exact ⟨o,_,_,e1,e2,e3,by decide⟩
  ·obtain ⟨o,e1,e2,e3⟩:=x;exact ⟨o,_,_,e1,e2,e3,by decide⟩
 obtain ⟨o,n,vs,e1,e2,e3,e4⟩:=key
 induction t using PySem.Expr.casesOn <;> try exact wpAny_pure q
 all_goals
  cases v <;> try exact wpAny_pure q
  refine wpAny_bind (wpAny_load e1 ?_)
  simp only [e2,e3,e4,Bool.false_and,Bool.false_eq_true,if_false]
  exact wpAny_pure q
section
variable {w:World} {A:Around} {R:Result→Shared→Prop}
theorem ZH {elt target iter:Expr} {scope:Scope} {pos:Pos} {it acc:Value} {env:Env} (I:Nat→Shared→Prop)
  (turn:∀ n s,I n s→wpAny (model pw w) A (pyNext it) (fun r s₁=>match r with
   | none=>R (.ok .next) s₁
   | some v=>wpAny (model pw w) A (letOwnedTupleGo target it v) (fun _ s₁=>wpAny (model pw w) A (assign target env v) (fun _ s₂=>wpAny (model pw w) A (eval elt env) (fun x s₃=>
     wpAny (model pw w) A (call (.builtin "list.append") [acc,x]) (fun _ s₄=>∃ m,m < n∧I m s₄) (fun _ _=>False) s₃)
     (fun _ _=>False) s₂) (fun _ _=>False) s₁) (fun _ _=>False) s₁) (fun _ _=>False) s)
  (n:Nat) (s:Shared) (h:I n s):
  codeAny (model pw w) A (.compLoop (.ListComp elt [⟨target,iter,[],0⟩] scope pos) 0 it acc env) R s:=by
 refine codeAny_loop rfl I (fun n s hI=>?_) n h
 show wpAny _ _ ((compTurn (.ListComp elt [⟨target,iter,[],0⟩] scope pos) 0 it acc env).onRaise (fun x=>do noteFrame x env;theTreesLotGoes x)) _ _ s
 refine wpAny_noted ?_
 rw [compTurn_list1]
 refine wpAny_bind (wpAny_standAt (wpAny_bind (wpAny_mono (turn n s hI) (fun r s₁ h₁=>?_) fun _ _ h'=>h'.elim)))
 cases r with
 | none=>exact wpAny_pure h₁
 | some v=>
  exact wpAny_bind (wpAny_mono h₁ (fun _ s₁ h₁=>wpAny_bind (wpAny_mono h₁ (fun _ s₂ h₂=>wpAny_bind (wpAny_bind (wpAny_mono h₂ (fun x s₃ h₃=>wpAny_bind (wpAny_mono h₃
   (fun _ s₄ h₄=>wpAny_pure (wpAny_pure ⟨rfl,h₄⟩)) fun _ _ h'=>h'.elim)) fun _ _ h'=>h'.elim))) fun _ _ h'=>h'.elim)) fun _ _ h'=>h'.elim)
end
end
theorem zA {h:Heap}:h.get? h.objs.size=none:=by
 cases q:h.get? h.objs.size with
 | none=>rfl
 | some o=>exact absurd (Heap.lt_size q) (Nat.lt_irrefl _)
theorem Cur.Ext.fresh {fr fk:List Addr} {c c':Cur} (E:c.Ext fr fk c') {a:Addr} (h:c'.h.get? a=none):c.h.get? a=none:=by
 cases q:c.h.get? a with
 | none=>rfl
 | some o=>obtain ⟨o',e⟩:=E.al a o q;rw [h] at e;cases e
theorem Fc.LX.no {K:Fc} {c:Cur} {s:Shared} {m:Str→Option Value} {e:Value} {s':Shared} (x:K.LX c s m (fun _ _=>False) e s'):False:=by
 obtain ⟨_,_,_,_,_,h,_⟩:=x;exact h
section
variable {K:Fc} {d:Nat} {sc:List (Str×NameKind)} {c c':Cur} {m m':Str→Option Value} {s s':Shared} {Q:V→St→Prop} {X:String→St→Prop} {v u x:Value} {mv mu mx:V}
theorem In.comp (I:(K.add it).In c m s) {C:Addr} {env:Env} {h':Heap} {m':Str→Option Value} (k:∀ b o,c.h.get? b=some o→h'.get? b=some o) (ha:c.h.get? C=none) (hn:h'.Ns C m') (tk:Nat):
  (K.comp it C env).In ⟨c.σ,c.ρ,h'⟩ m' {s with heap:=h',toks:=tk}∧(∀ {v mv},c.RV (K.add it).fr v mv→Cur.RV (K.comp it C env).fr ⟨c.σ,c.ρ,h'⟩ v mv)∧c.Ext (K.add it).fr (K.add it).fk ⟨c.σ,c.ρ,h'⟩:=by
 obtain ⟨W,r⟩:=WS.more I.ws k ha
 obtain ⟨I',E⟩:=I.grow k tk
 refine ⟨⟨rfl,W,hn,I'.stk,fun b hb=>.tail _ (I.sub b hb),fun z=>?_,fun b hb=>?_⟩,r,E⟩
 ·obtain ⟨o,e⟩:=I.there C z
  rw [ha] at e;cases e
 ·rcases List.mem_cons.mp hb with rfl | hb
  ·obtain ⟨o,_,_,e,_⟩:=hn;exact ⟨o,e⟩
  ·exact I'.there b hb
theorem J8 {σ σ':St} {mv:V} (h:∀ l,mv=.ref l→σ'.m l=σ.m l):zX σ' mv=zX σ mv:=by
 induction mv using Mine.V.casesOn with
 | ref l=>exact show bd (σ'.m l) _=bd (σ.m l) _ by rw [h l rfl]
 | _=>rfl
theorem Kb {σ:St} {l:Loc} {cl:zu} {mv:V} (h:mv≠.ref l):zX (σ.set l cl) mv=zX σ mv:=J8 fun l' e=>if_neg fun (z:l'=l)=>h (e.trans (congrArg _ z))
theorem Ko {K2:Fc} (O2:K2.Ok (d+1)) (hh:K.A.handled=none) (wK:K2.w=K.w) (AK:K2.A=K.A) (stK:K2.st=K.st) {it C a D:Addr} {T:Bool} (NC:K2.N=C) (sub2:∀ b∈K.fr,b∈K2.fr) (new2:∀ b∈K2.fr,b∈K.fr∨c.h.get? b=none) (fk2:∀ b∈K.fk,b∈K2.fk)
  (itf:it∈K2.fk) (Nf:K.N∈K2.fk) (itn:it∉K.fr) (Cn:C∉K.fr) (itn0:c.h.get? it=none) (Cn0:c.h.get? C=none) (sub:∀ b∈frs K.st,b∈K.fr) (apart:K.N∉K.fk) (thr:jr K.fr c.h)
  {e:E} {tg:List String} {elt t i:Expr} {scope:Scope} {pos:Pos} (ihe:SE K2 (RC d) e elt) (ht:okT K2.env.scope.names tg t=true) {vs:List V} {l:Loc} (hne:mv≠.ref l) (hT:yG mv=T) {k:Nat}
  (c1:Cur) (m1:Str→Option Value) (s1:Shared) (I1:K2.In c1 m1 s1) (x1:y3 s1.heap it a T 0) (E1:c.Ext K.fr K.fk c1) (g1:s1.gens=s.gens) (o1:s1.os=s.os) (n1:s1.heap.Ns K.N m) (rv1:c1.RV K2.fr (.ref a) mv) (v1:zX c1.σ mv=some vs)
  (l1:c1.σ.m l=some (.lst [])) (ρ1:c1.ρ l=(D,D)) (lx:l.2.2 < c1.σ.nx)
  (w1:jl (fun F' Q' σ'=>wpE (RC d) F' e Q' (fun _ _=>False) σ') tg l (fun σ'=>zX σ' mv=some vs) vs [] (fun σ'=>Q (.ref l) σ') c1.σ) {E:Value→Shared→Prop}:
  codeAny (model pw K.w) K.A (.compLoop (.ListComp elt [⟨t,i,[],0⟩] scope pos) 0 (.ref it) (.ref D) K2.env) (fun r s'=>∃ mc,s'.heap.Ns C mc∧∀ h',Heap.SameBut C s'.heap h'→
   match r with | .ok _=>K.LQ c s m Q (.ref D) {s' with heap:=h'} | .error x=>E x {s' with heap:=h'}) s1:=by
 let W:=jl (fun F' Q' σ'=>wpE (RC d) F' e Q' (fun _ _=>False) σ') tg l (fun σ'=>zX σ' mv=some vs)
 refine ZH (fun n s'=>∃ c' m' j acc,n=vs.length - j∧j≤vs.length∧K2.In c' m' s'∧y3 s'.heap it a T j∧c.Ext K.fr K.fk c'∧s'.gens=s.gens∧s'.os=s.os∧s'.heap.Ns K.N m∧c'.RV K2.fr (.ref a) mv∧zX c'.σ mv=some vs∧
  c'.σ.m l=some (.lst acc)∧c'.ρ l=(D,D)∧l.2.2 < c'.σ.nx∧W (vs.drop j) acc (fun σ'=>Q (.ref l) σ') c'.σ) ?_ (vs.length - 0) s1 ⟨c1,m1,0,[],rfl,Nat.zero_le _,I1,x1,E1,g1,o1,n1,rv1,v1,l1,ρ1,lx,w1⟩
 rintro n s' ⟨c',m',j,acc,rfl,hj,I',x',E',g',o',n',rv',v',l',ρ',lx',w'⟩
 obtain ⟨a',items,ea,hit,hrv⟩:=jE I' rv' v'
 cases ea
 rw [hT] at hit
 have hln:vs.length=items.size:=by have:=hrv.len;rw [Array.length_toList] at this;exact this.symm
 have hh2:K.A.handled=none:=hh
 have heq:=I'.heap
 rw [← wK,← AK]
 by_cases hjl:j < vs.length
 ·have hd:vs.drop j=vs[j]::vs.drop (j+1):=List.drop_eq_getElem_cons hjl
  rw [hd] at w'
  obtain ⟨F',hb,w'⟩:=zd w'
  obtain ⟨y,hy,ry⟩:=hrv.get (List.getElem?_eq_getElem hjl)
  refine qD x' hit (by rw [← Array.getElem?_toList];exact hy) fun h1 x2 hs1=>?_
  obtain ⟨I2,r2⟩:=In.step I' itf x' x2 hs1
  have hs1':Heap.SameBut it c'.h h1:=heq▸hs1
  have E2:c.Ext K.fr K.fk ⟨c'.σ,c'.ρ,h1⟩:=Ext.later E' itn0 hs1'
  have n2:h1.Ns K.N m:=n'.sameBut hs1 fun z=>itn (z▸.head _)
  refine UQ ht x2 y rfl ?_
  refine wpAny_mono (qI O2 rfl ht hb I2 (fun _ _ z=>by cases z) (r2 ry)) (fun _ s3 z'=>z'.el fun c3 m3 q1 I3 FR3 E3 g3 o3=>?_) fun _ _ x=>x
  refine wpAny_mono (ihe F' c3 m3 s3 _ _ I3 FR3 (q1▸w')) (fun xv s4 z'=>z'.el fun mu c4 q4 I4 E4 rv4 g4 o4=>?_) fun _ _ x=>x.no.elim
  obtain ⟨l4,v4,z4,w4⟩:=q4
  have E34:=E3.trans E4
  have ρ4:c4.ρ l=(D,D):=(E34.ag l lx').trans ρ'
  have lx4:l.2.2 < c4.σ.nx:=Nat.lt_of_lt_of_le lx' E34.nx
  have rD:c4.RV K2.fr (.ref D) (.ref l):=by
   have:(Value.ref D)=.ref (c4.ρ l).1:=by rw [ρ4]
   rw [this];exact .ref lx4
  have hm:=zx (n:="append") l4 (.inl rfl)
  have ap:=GX (X:=fun _ _=>False) (Q:=fun w σ=>w=.none∧σ=c4.σ.set l (.lst (acc++[mu]))) (k:=k) O2 I4 rD (.cons rv4 .nil) hm (by unfold meW;show op (lsA c4.σ l) _;rw [zJ l4];exact .inl ⟨rfl,z4,rfl,rfl⟩)
  refine wpAny_mono ap (fun _ s5 ⟨mn,c5,⟨_,q5⟩,I5,E5,_,g5,o5⟩=>?_) fun _ _ x=>x.no.elim
  have E35:=E34.trans E5
  have EK:c.Ext K.fr K.fk c5:=Ext.leave E2 E35 sub2 new2 fk2
  refine ⟨vs.length - (j+1),by omega,c5,m3,j+1,acc++[mu],rfl,hjl,I5,?_,EK,(g5.trans g4).trans (g3.trans g'),(o5.trans o4).trans (o3.trans o'),?_,E35.rv (r2 rv'),?_,?_,(E5.ag l lx4).trans ρ4,Nat.lt_of_lt_of_le lx4 E5.nx,?_⟩
  ·rw [I5.heap];exact x2.same fun o q=>E35.frk it itf o q
  ·rw [I5.heap];exact wz n2 fun o q=>E35.frk K.N Nf o q
  ·rw [q5,Kb hne];exact v4
  ·rw [q5];exact if_pos rfl
  ·rw [q5];exact w4
 ·have hjv:j=vs.length:=by omega
  refine Yv (by rw [AK];exact hh) x' hit (by rw [← Array.getElem?_toList,List.getElem?_eq_none];rw [Array.length_toList];omega) fun h1 hs1=>?_
  rw [hjv,List.drop_length] at w'
  have cne:C≠it:=fun z=>by
   have:=I'.apart
   rw [NC] at this
   exact this (z▸itf)
  have nC:h1.Ns C m':=(NC▸I'.ns:s'.heap.Ns C m').extBut hs1 cne
  refine ⟨m',nC,fun h2 hs2=>?_⟩
  have keep:∀ b o,b∉[it,C]→c'.h.get? b=some o→h2.get? b=some o:=fun b o nb q=>by
   have b1:b≠it:=fun z=>nb (z▸.head _)
   have b2:b≠C:=fun z=>nb (z▸.tail _ (.head _))
   exact (hs2.2 b b2).trans (hs1 b o b1 (heq▸q))
  have gone:∀ b∈[it,C],b∉K.fr:=fun b hb=>by
   rcases List.mem_cons.mp hb with rfl | hb
   ·exact itn
   ·rcases List.mem_cons.mp hb with rfl | hb
    ·exact Cn
    ·cases hb
  have Wf:WS K.w c'.σ c'.ρ K.fr h2:=by
   rw [← wK]
   refine WS.leaves I'.ws sub2 [it,C] (fun b hb=>?_) gone keep
   rcases List.mem_cons.mp hb with rfl | hb
   ·exact .tail _ itf
   ·rcases List.mem_cons.mp hb with rfl | hb
    ·exact NC▸.head _
    ·cases hb
  refine ⟨.ref l,⟨c'.σ,c'.ρ,h2⟩,w',⟨rfl,Wf,?_,fun p hp=>?_,sub,apart,thr.up (Ext.laters E' [it,C] (fun b hb=>by
   rcases List.mem_cons.mp hb with rfl | hb
   ·exact itn0
   ·rcases List.mem_cons.mp hb with rfl | hb
    ·exact Cn0
    ·cases hb) keep).al⟩,Ext.laters E' [it,C] (fun b hb=>?_) keep,?_,g',o'⟩
  ·exact n'.at fun o q=>keep _ o (fun z=>gone _ z (.head _)) (heq▸q)
  ·obtain ⟨p1,L,o,q1,q2,q3⟩:=I'.stk p (stK▸hp)
   have:L∈K.fr:=sub L (List.mem_filterMap.mpr ⟨p,hp,q1⟩)
   exact ⟨p1,L,o,q1,keep L o (fun z=>gone _ z this) (heq▸q2),q3⟩
  ·rcases List.mem_cons.mp hb with rfl | hb
   ·exact itn0
   ·rcases List.mem_cons.mp hb with rfl | hb
    ·exact Cn0
    ·cases hb
  ·have:(Value.ref D)=.ref (c'.ρ l).1:=by rw [ρ']
   show RV _ _ _ _ (Value.ref D) _
   rw [this];exact .ref lx'
theorem JC {k₀:Nat} {e:E} {tg:List String} {it:E} {P:Expr→Prop} (k:∀ elt t i scope pos,Wv scope=true→okT scope.names tg t=true→okE sc it i=true→okE scope.names e elt=true→P (.ListComp elt [⟨t,i,[],0⟩] scope pos)) {x:Expr} (h:okE sc (.comp k₀ e tg it) x=true):P x:=by
 refine U8.el (fun elt g scope pos h=>?_) h
 obtain ⟨h,h4⟩:=zb h
 obtain ⟨h1,h2⟩:=zb h
 refine yE.el (P:=fun g=>P (.ListComp elt g scope pos)) (fun g h=>?_) h2
 obtain ⟨t,i,fs,as⟩:=g
 obtain ⟨h,h3⟩:=zb h
 obtain ⟨h,h2⟩:=zb h
 obtain ⟨h,h0⟩:=zb h
 rw [show fs=[] from List.isEmpty_iff.mp h,show as=0 from beq_iff_eq.mp h0]
 exact k elt t i scope pos h1 h2 h3 h4
theorem qM (O:K.Ok (d+1)) (hs:sc=K.env.scope.names) {k:Nat} {e:E} {tg:List String} {it:E} {elt t i:Expr} {scope:Scope} {pos:Pos} (h1:Wv scope=true) (h2:okT scope.names tg t=true) (h3:okE sc it i=true) (h4:okE scope.names e elt=true) (ihi:∀ y,okE sc it y=true→SE K (RC d) it y)
  (ihe:∀ K':Fc,K'.Ok (d+1)→∀ y,okE K'.env.scope.names e y=true→SE K' (RC d) e y) {F:List (String×V)} (I:K.In c m s) (FR:FrR K c m F) (hw:wpE (RC d) F (.comp k e tg it) Q X c.σ) {EE:Value→Shared→Prop} (hE:∀ x s',K.LX c s m X x s'→EE x s') {P:Value→Env→Result→Shared→Prop}
  (hP:∀ (D:Value) (C:Addr) (cenv:Env) (r:Result) (s':Shared),cenv={newEnv scope C K.env.globals [] K.env.qual none .none (some K.env) K.env.builtins with scope:=scope}→(∃ mc,s'.heap.Ns C mc∧∀ h',Heap.SameBut C s'.heap h'→
   match r with | .ok _=>K.LQ c s m Q D {s' with heap:=h'} | .error _=>False)→C≠K.N→P D cenv r s'):
  wpAny (model pw K.w) K.A (eval i K.env) (fun x s₁=>wpAny (model pw K.w) K.A (pyIter x) (fun it s₂=>wpAny (model pw K.w) K.A (newList []) (fun acc s₃=>
   wpAny (model pw K.w) K.A (newFunctionEnv scope K.env.globals [] [] K.env.qual none .none (some K.env)) (fun cenv s₄=>
    codeAny (model pw K.w) K.A (.compStart (.ListComp elt [⟨t,i,[],0⟩] scope pos) 0 it acc {cenv with scope:=scope}) (P acc {cenv with scope:=scope}) s₄) EE s₃) EE s₂) EE s₁) EE s:=by
 obtain ⟨p1,p2,p3,p4⟩:=kR h1
 refine wpAny_mono (ihi _ h3 F c m s _ X I FR hw) (fun v s1 z'=>z'.el fun mv c1 e1 e2 e3 e4 e5 e6=>?_) hE
 obtain ⟨vs,hvs,e1⟩:=zd e1
 ·obtain ⟨a,items,ev,hit,hrv⟩:=jE e2 e4 hvs
  rw [ev] at e4 ⊢
  clear ev
  refine Jw hit ?_
  have itn:c1.h.get? s1.heap.objs.size=none:=e2.heap▸zA
  have k1:∀ b o,c1.h.get? b=some o→(s1.heap.push (jV (yG mv) a)).get? b=some o:=fun b o q=>Heap.get?_push_of_some _ (e2.heap▸q)
  obtain ⟨I2,r2,E2⟩:=In.add e2 k1 itn ⟨_,Heap.get?_push_size _ (by cases yG mv <;> rfl)⟩ s1.toks
  have hln:vs.length=items.size:=by have:=hrv.len;rw [Array.length_toList] at this;exact this.symm
  have new:=XK (X:=fun _ _=>False) I2 k (vs:=[]) .nil (Nat.zero_le _) (Q:=fun w σ=>w=.ref (c1.σ.loc k)∧σ=c1.σ.new k (.lst [])) ⟨rfl,rfl⟩
  refine wpAny_mono new (fun acc s3 ⟨macc,c3,⟨q1,q2⟩,I3,E3,racc,g3,o3⟩=>?_) fun _ _ x=>x.no.elim
  subst q1
  generalize hl:c1.σ.loc k=l at racc
  have hcell:c3.σ.m l=some (.lst []):=by rw [q2,← hl];exact if_pos rfl
  have lnx:l.2.2=c1.σ.nx:=by rw [← hl];rfl
  (first | (rcases RV.s racc with ⟨_,rfl⟩) | (rcases RV.s racc with ⟨rfl,_⟩) | (rcases RV.s racc with rfl) | cases racc)
  obtain ⟨eqD,-⟩:=(I3.ws.cells _ _ hcell).2
  have hρ:c3.ρ l=((c3.ρ l).1,(c3.ρ l).1):=Prod.ext rfl eqD.symm
  generalize (c3.ρ l).1=D at hρ
  refine wpAny_newFunctionEnv (hc:=p3) (hl:=nofun) (hk:=p1) (fun h' hn hsb=>?_)
  have Cn:c3.h.get? s3.heap.objs.size=none:=I3.heap▸zA
  have k3:∀ b o,c3.h.get? b=some o→h'.get? b=some o:=fun b o q=>by
   have ne:b≠s3.heap.objs.size:=fun z=>by rw [z,Cn] at q;cases q
   exact (hsb.2 b ne).trans (Heap.get?_push_of_some _ (I3.heap▸q))
  generalize hC:s3.heap.objs.size=C at hn hsb Cn
  generalize hit':s1.heap.objs.size=it' at *
  let cenv:Env:={newEnv scope C K.env.globals [] K.env.qual none .none (some K.env) K.env.builtins with scope:=scope}
  obtain ⟨I4,r4,E4⟩:=In.comp (env:=cenv) I3 k3 Cn hn (s3.toks+([]:List (Str×Value)).length)
  generalize hK2:K.comp it' C cenv=K2 at I4 r4
  have O2:K2.Ok (d+1):=by rw [← hK2];exact ⟨p1,rfl,O.glob,O.blt,O.frames,O.hand,O.room⟩
  have itn0:c.h.get? it'=none:=e3.fresh itn
  have E0:c.Ext K.fr K.fk ⟨c3.σ,c3.ρ,h'⟩:=by
   have:=Ext.leave (E2:Ext _ _ _ _ _ _ _ _) (E3.trans E4) (fun a ha=>?_) (fun a ha=>?_) (fun a ha=>.tail _ ha)
   ·exact e3.trans this
   ·rcases List.mem_cons.mp ha with rfl | ha
    ·exact .head _
    ·exact .tail _ (.tail _ ha)
   ·rcases List.mem_cons.mp ha with rfl | ha
    ·exact .inl (.head _)
    ·rcases List.mem_cons.mp ha with rfl | ha
     ·exact .inr itn
     ·exact .inl (.tail _ ha)
  have Cn0:c.h.get? C=none:=by
   have:c1.h.get? C=none:=by
    have E13:c1.Ext K.fr K.fk c3:=by
     refine Ext.leave (E2:Ext _ _ _ _ _ _ _ _) E3 (fun a ha=>?_) (fun a ha=>?_) (fun a ha=>.tail _ ha)
     ·rcases List.mem_cons.mp ha with rfl | ha
      ·exact .head _
      ·exact .tail _ (.tail _ ha)
     ·rcases List.mem_cons.mp ha with rfl | ha
      ·exact .inl (.head _)
      ·rcases List.mem_cons.mp ha with rfl | ha
       ·exact .inr itn
       ·exact .inl (.tail _ ha)
    exact E13.fresh Cn
   exact e3.fresh this
  have sub2:∀ b∈K.fr,b∈K2.fr:=fun b hb=>by
   rw [← hK2]
   rcases List.mem_cons.mp hb with rfl | hb
   ·exact .tail _ (.head _)
   ·exact .tail _ (.tail _ (.tail _ hb))
  have new2:∀ b∈K2.fr,b∈K.fr∨c.h.get? b=none:=fun b hb=>by
   rw [← hK2] at hb
   rcases List.mem_cons.mp hb with rfl | hb
   ·exact .inr Cn0
   ·rcases List.mem_cons.mp hb with rfl | hb
    ·exact .inl (.head _)
    ·rcases List.mem_cons.mp hb with rfl | hb
     ·exact .inr itn0
     ·exact .inl (.tail _ hb)
  have fk2:∀ b∈K.fk,b∈K2.fk:=fun b hb=>by rw [← hK2];exact .tail _ (.tail _ hb)
  have itf:it'∈K2.fk:=by rw [← hK2];exact .tail _ (.head _)
  have Nf:K.N∈K2.fk:=by rw [← hK2];exact .head _
  have wK:K2.w=K.w:=by rw [← hK2];rfl
  have AK:K2.A=K.A:=by rw [← hK2];rfl
  have NC:K2.N=C:=by rw [← hK2];rfl
  have envK:K2.env=cenv:=by rw [← hK2];rfl
  have stK:K2.st=K.st:=by rw [← hK2];rfl
  have Cne:C∉K.fr:=fun z=>by
   have:=I4.apart
   rw [NC] at this
   refine this ?_
   rw [← hK2]
   rcases List.mem_cons.mp z with rfl | z
   ·exact .head _
   ·exact .tail _ (.tail _ z)
  have itne:it'∉K.fr:=fun z=>by
   obtain ⟨o,q⟩:=e2.there it' z
   rw [itn] at q;cases q
  have hne:mv≠.ref l:=fun z=>by
   rw [z] at hvs
   have:=(e2.ws.cells _ _ (xw (show lsA c1.σ l=_ from hvs))).1
   rw [lnx] at this;exact Nat.lt_irrefl _ this
  have E13:(⟨c1.σ,c1.ρ,s1.heap.push (jV (yG mv) a)⟩:Cur).Ext (K.add it').fr (K.add it').fk ⟨c3.σ,c3.ρ,h'⟩:=E3.trans E4
  have x4:y3 h' it' a (yG mv) 0:=by
   have:y3 (s1.heap.push (jV (yG mv) a)) it' a (yG mv) 0:=hit'▸gw
   exact this.same fun o q=>E13.frk it' (.head _) o q
  have n4:h'.Ns K.N m:=(I3.ns:s3.heap.Ns K.N m).keeps fun b o q=>k3 b o (I3.heap▸q)
  have l4:(⟨c3.σ,c3.ρ,h'⟩:Cur).σ.m l=some (.lst []):=hcell
  have v4:zX c3.σ mv=some vs:=by
   rw [q2,← hvs]
   exact J8 fun l' e=>if_neg fun z=>hne (e.trans (congrArg _ (z.trans hl)))
  have loop:=Ko (Q:=Q) (k:=k) (c:=c) (s:=s) (m:=m) (D:=D) (elt:=elt) (i:=i) (scope:=scope) (pos:=pos) (E:=fun _ _=>False)
   O2 O.hand wK AK stK NC sub2 new2 fk2 itf Nf itne Cne itn0 Cn0 e2.sub e2.apart I.there (ihe K2 O2 _ (by rw [envK];exact h4)) (by rw [envK];exact h2) hne rfl ⟨c3.σ,c3.ρ,h'⟩ _ _ I4 x4 E0 (g3.trans e5) (o3.trans e6) n4 (r4 (E3.rv (r2 e4))) v4 l4 hρ (by rw [lnx];show _ < c3.σ.nx;rw [q2];exact Nat.lt_succ_self _) (by
    have:c3.σ=c1.σ.new k (.lst []):=q2
    show jl _ _ _ _ _ _ _ c3.σ
    rw [this,← hl];exact e1)
  rw [envK] at loop
  have loop':=codeAny_mono loop fun r s' hr=>hP (.ref D) C cenv r s' rfl hr fun z=>Cne (z▸.head _)
  exact codeAny_compStart_list loop' (XB x4 loop')
theorem Uy (O:K.Ok (d+1)) (hs:sc=K.env.scope.names) {k:Nat} {e:E} {tg:List String} {it:E} {x:Expr} (h:okE sc (.comp k e tg it) x=true) (ihi:∀ y,okE sc it y=true→SE K (RC d) it y)
  (ihe:∀ K':Fc,K'.Ok (d+1)→∀ y,okE K'.env.scope.names e y=true→SE K' (RC d) e y):SE K (RC d) (.comp k e tg it) x:=by
 refine JC (fun elt t i scope pos h1 h2 h3 h4=>?_) h
 intro F c mm s Q X I FR hw
 obtain ⟨p1,p2,p3,p4⟩:=kR h1
 refine wpAny_ListComp p2 p1 p4 (qM (P:=fun acc cenv r s'=>∃ m,s'.heap.Ns cenv.locals m∧∀ h',Heap.SameBut cenv.locals s'.heap h'→match r with | .ok _=>K.LQ c s mm Q acc {s' with heap:=h'} | .error x=>wpAny (model pw K.w) K.A (passOn "comprehension.variables-let-go" x cenv) (K.LQ c s mm Q) (K.LX c s mm X) {s' with heap:=h'}) O hs h1 h2 h3 h4 ihi ihe I FR hw (fun _ _ z=>z) (fun D C cenv r s' ec hr ne=>?_)) (fun x=>WC h3 K.env x)
 subst ec
 obtain ⟨mc,nC,hr⟩:=hr
 refine ⟨mc,nC,fun h' hs=>?_⟩
 cases r with
 | ok _=>exact hr h' hs
 | error _=>exact (hr h' hs).elim
end
noncomputable def E.isVal (e:E):Bool:=by induction e using E.casesOn with
 | and=>exact false
 | or=>exact false
 | not=>exact false
 | ite=>exact false
 | cmp=>exact false
 | cmp2=>exact false
 | _=>exact true
theorem y8 {sc:List (Str×NameKind)} {e:E} {x:Expr} {env:Env} (hv:e.isVal=true) (h:okE sc e x=true):∀ whole,isTrue x env whole=(do let v ← whole;standAt x.pos;holding [v] (truthy v)):=by
 induction x using PySem.Expr.casesOn with
 | BoolOp=>exact zk (by induction e using Mine.E.casesOn <;> first | exact h | exact hv)
 | Compare=>exact zk (by induction e using Mine.E.casesOn <;> first | exact h | exact hv)
 | IfExp=>exact zk (by induction e using Mine.E.casesOn <;> first | exact h | exact hv)
 | UnaryOp op y p=>
  cases op with
  | Not=>exact zk (by induction e using Mine.E.casesOn <;> first | exact h | exact hv)
  | _=>exact fun _=>rfl
 | _=>exact fun _=>rfl
mutual
theorem zh {d:Nat}:∀ (e:E) {K:Fc} {sc:List (Str×NameKind)},K.Ok (d+1)→sc=K.env.scope.names→(∀ y,okE sc e y=true→SE K (RC d) e y)∧(∀ y,okE sc e y=true→SB K (RC d) e y)
 | .k v,K,sc,O,hs=>have g:=fun y (h:okE sc (.k v) y=true)=>Om (K:=K) (R:=RC d) h
  ⟨g,fun y h=>y9 (y8 rfl h) (g y h)⟩
 | .neg i,K,sc,O,hs=>have g:=fun y (h:okE sc (.neg i) y=true)=>Qm (K:=K) (R:=RC d) h
  ⟨g,fun y h=>y9 (y8 rfl h) (g y h)⟩
 | .x n,K,sc,O,hs=>have g:=fun y (h:okE sc (.x n) y=true)=>Ol (R:=RC d) O hs h
  ⟨g,fun y h=>y9 (y8 rfl h) (g y h)⟩
 | .g n,K,sc,O,hs=>have g:=fun y (h:okE sc (.g n) y=true)=>Oo (R:=RC d) O hs h
  ⟨g,fun y h=>y9 (y8 rfl h) (g y h)⟩
 | .at e n,K,sc,O,hs=>have g:=fun y (h:okE sc (.at e n) y=true)=>N4 (R:=RC d) O h (zh e O hs).1
  ⟨g,fun y h=>y9 (y8 rfl h) (g y h)⟩
 | .ix e i,K,sc,O,hs=>have g:=fun y (h:okE sc (.ix e i) y=true)=>N2 (R:=RC d) h (zh e O hs).1 (zh i O hs).1
  ⟨g,fun y h=>y9 (y8 rfl h) (g y h)⟩
 | .sl k e l u,K,sc,O,hs=>have g:=fun y (h:okE sc (.sl k e l u) y=true)=>HX (R:=RC d) h (zh e O hs).1 (zh l O hs).1 (zh u O hs).1
  ⟨g,fun y h=>y9 (y8 rfl h) (g y h)⟩
 | .bin k o a b,K,sc,O,hs=>have g:=fun y (h:okE sc (.bin k o a b) y=true)=>Qr (R:=RC d) O h (zh a O hs).1 (zh b O hs).1 (fun I r r' q=>He I r r' q)
  ⟨g,fun y h=>y9 (y8 rfl h) (g y h)⟩
 | .cmp o a b,K,sc,O,hs=>⟨fun y h=>Qq O h (zh a O hs).1 (zh b O hs).1,fun y h=>Qv O h (zh a O hs).1 (zh b O hs).1⟩
 | .cmp2 o p a b e,K,sc,O,hs=>⟨fun y h=>Uz O h (zh a O hs).1 (zh b O hs).1 (zh e O hs).1,fun y h=>UC O h (zh a O hs).1 (zh b O hs).1 (zh e O hs).1⟩
 | .and a b,K,sc,O,hs=>⟨fun y h=>Qs h (zh a O hs).1 (zh b O hs).1,fun y h=>Qw h (zh a O hs).2 (zh b O hs).2⟩
 | .or a b,K,sc,O,hs=>⟨fun y h=>HY h (zh a O hs).1 (zh b O hs).1,fun y h=>N5 h (zh a O hs).2 (zh b O hs).2⟩
 | .not a,K,sc,O,hs=>⟨fun y h=>Qk h (zh a O hs).1,fun y h=>Qt h (zh a O hs).2⟩
 | .ite t a b,K,sc,O,hs=>⟨fun y h=>Qo h (zh t O hs).2 (zh a O hs).1 (zh b O hs).1,fun y h=>Qu h (zh t O hs).2 (zh a O hs).2 (zh b O hs).2⟩
 | .tup es,K,sc,O,hs=>have g:=fun y (h:okE sc (.tup es) y=true)=>Qj (R:=RC d) h (yT es O hs)
  ⟨g,fun y h=>y9 (y8 rfl h) (g y h)⟩
 | .lst k es,K,sc,O,hs=>have g:=fun y (h:okE sc (.lst k es) y=true)=>Qn (R:=RC d) h (yT es O hs)
  ⟨g,fun y h=>y9 (y8 rfl h) (g y h)⟩
 | .dct k b es,K,sc,O,hs=>have g:=fun y (h:okE sc (.dct k b es) y=true)=>Qp (R:=RC d) h (yT es O hs)
  ⟨g,fun y h=>y9 (y8 rfl h) (g y h)⟩
 | .call f es,K,sc,O,hs=>have g:=fun y (h:okE sc (.call f es) y=true)=>UA O hs h (yT es O hs)
  ⟨g,fun y h=>y9 (y8 rfl h) (g y h)⟩
 | .new k C es,K,sc,O,hs=>have g:=fun y (h:okE sc (.new k C es) y=true)=>Ql O hs h (yT es O hs)
  ⟨g,fun y h=>y9 (y8 rfl h) (g y h)⟩
 | .bi k f es,K,sc,O,hs=>have g:=fun y (h:okE sc (.bi k f es) y=true)=>N3 (R:=RC d) O hs h (yT es O hs)
  ⟨g,fun y h=>y9 (y8 rfl h) (g y h)⟩
 | .me k o n es,K,sc,O,hs=>have g:=fun y (h:okE sc (.me k o n es) y=true)=>HZ O h (zh o O hs).1 (yT es O hs)
  ⟨g,fun y h=>y9 (y8 rfl h) (g y h)⟩
 | .comp k e tg it,K,sc,O,hs=>have g:=fun y (h:okE sc (.comp k e tg it) y=true)=>Uy O hs h (zh it O hs).1 (fun K' O'=>(zh e O' rfl).1)
  ⟨g,fun y h=>y9 (y8 rfl h) (g y h)⟩
theorem yT {d:Nat}:∀ (es:List E) {K:Fc} {sc:List (Str×NameKind)},K.Ok (d+1)→sc=K.env.scope.names→∀ e∈es,∀ y,okE sc e y=true→SE K (RC d) e y
 | [],_,_,_,_,_,h=>absurd h List.not_mem_nil
 | e::es,_,_,O,hs,e',h=>by
  rcases List.mem_cons.mp h with q | q
  ·rw [q];exact (zh e O hs).1
  ·exact yT es O hs e' q
end
inductive Fl where
 | next | brk | cont | ret (v:V)
inductive Md where
 | made | fly | held
inductive Hd where
 | asg (n:String) (v:V) | ret (v:V)
inductive S where
 | asg (tg:List String) (e:E)
 | asgA (o:E) (n:String) (e:E)
 | asgI (o i e:E)
 | augX (n:String) (o:Bop) (e:E)
 | augA (b:E) (n:String) (o:Bop) (e:E)
 | augI (b i:E) (o:Bop) (e:E)
 | ex (e:E)
 | ret (e:E)
 | iff (t:E) (a b:List S)
 | whl (t:E) (b:List S)
 | forr (n:String) (it:E) (b:List S)
 | forR (n:String) (cnt:E) (b:List S)
 | brk
 | cont
 | rais (C:String) (es:List E)
 | tr (b:List S) (hs:List (String×Hd))
noncomputable def uc (f:List Expr→Expr→Pos→Bool) (x:PySem.Stmt):Bool:=by induction x using PySem.Stmt.casesOn with | Assign t x p=>exact f t x p | _=>exact false
theorem uc.el {f:List Expr→Expr→Pos→Bool} {P:PySem.Stmt→Prop} (k:∀ (t:List Expr) (x:Expr) (p:Pos),f t x p=true→P (.Assign t x p)) {x:PySem.Stmt}:uc f x=true→P x:=by induction x using PySem.Stmt.casesOn with | Assign=>exact k _ _ _ | _=>exact zk
noncomputable def Y0 (f:Expr→Operator→Expr→Pos→Bool) (x:PySem.Stmt):Bool:=by induction x using PySem.Stmt.casesOn with | AugAssign t o x p=>exact f t o x p | _=>exact false
theorem Y0.el {f:Expr→Operator→Expr→Pos→Bool} {P:PySem.Stmt→Prop} (k:∀ (t:Expr) (o:Operator) (x:Expr) (p:Pos),f t o x p=true→P (.AugAssign t o x p)) {x:PySem.Stmt}:Y0 f x=true→P x:=by induction x using PySem.Stmt.casesOn with | AugAssign=>exact k _ _ _ _ | _=>exact zk
noncomputable def UH (f:Expr→Pos→Bool) (x:PySem.Stmt):Bool:=by induction x using PySem.Stmt.casesOn with | Expr x p=>exact f x p | _=>exact false
theorem UH.el {f:Expr→Pos→Bool} {P:PySem.Stmt→Prop} (k:∀ (x:Expr) (p:Pos),f x p=true→P (.Expr x p)) {x:PySem.Stmt}:UH f x=true→P x:=by induction x using PySem.Stmt.casesOn with | Expr=>exact k _ _ | _=>exact zk
noncomputable def JX (f:Option Expr→Pos→Bool) (x:PySem.Stmt):Bool:=by induction x using PySem.Stmt.casesOn with | Return x p=>exact f x p | _=>exact false
theorem JX.el {f:Option Expr→Pos→Bool} {P:PySem.Stmt→Prop} (k:∀ (x:Option Expr) (p:Pos),f x p=true→P (.Return x p)) {x:PySem.Stmt}:JX f x=true→P x:=by induction x using PySem.Stmt.casesOn with | Return=>exact k _ _ | _=>exact zk
noncomputable def sIf (f:Expr→List Stmt→List Stmt→Pos→Bool) (x:PySem.Stmt):Bool:=by induction x using PySem.Stmt.casesOn with | If t a b p=>exact f t a b p | _=>exact false
theorem sIf.el {f:Expr→List Stmt→List Stmt→Pos→Bool} {P:PySem.Stmt→Prop} (k:∀ (t:Expr) (a:List Stmt) (b:List Stmt) (p:Pos),f t a b p=true→P (.If t a b p)) {x:PySem.Stmt}:sIf f x=true→P x:=by induction x using PySem.Stmt.casesOn with | If=>exact k _ _ _ _ | _=>exact zk
noncomputable def UD (f:Expr→List Stmt→List Stmt→Pos→Bool) (x:PySem.Stmt):Bool:=by induction x using PySem.Stmt.casesOn with | While t a b p=>exact f t a b p | _=>exact false
theorem UD.el {f:Expr→List Stmt→List Stmt→Pos→Bool} {P:PySem.Stmt→Prop} (k:∀ (t:Expr) (a:List Stmt) (b:List Stmt) (p:Pos),f t a b p=true→P (.While t a b p)) {x:PySem.Stmt}:UD f x=true→P x:=by induction x using PySem.Stmt.casesOn with | While=>exact k _ _ _ _ | _=>exact zk
noncomputable def JY (f:Expr→Expr→List Stmt→List Stmt→Pos→Bool) (x:PySem.Stmt):Bool:=by induction x using PySem.Stmt.casesOn with | For t x a b p=>exact f t x a b p | _=>exact false
theorem JY.el {f:Expr→Expr→List Stmt→List Stmt→Pos→Bool} {P:PySem.Stmt→Prop} (k:∀ (t:Expr) (x:Expr) (a:List Stmt) (b:List Stmt) (p:Pos),f t x a b p=true→P (.For t x a b p)) {x:PySem.Stmt}:JY f x=true→P x:=by induction x using PySem.Stmt.casesOn with | For=>exact k _ _ _ _ _ | _=>exact zk
noncomputable def UJ (f:Pos→Bool) (x:PySem.Stmt):Bool:=by induction x using PySem.Stmt.casesOn with | Break p=>exact f p | _=>exact false
theorem UJ.el {f:Pos→Bool} {P:PySem.Stmt→Prop} (k:∀ (p:Pos),f p=true→P (.Break p)) {x:PySem.Stmt}:UJ f x=true→P x:=by induction x using PySem.Stmt.casesOn with | Break=>exact k _ | _=>exact zk
noncomputable def UI (f:Pos→Bool) (x:PySem.Stmt):Bool:=by induction x using PySem.Stmt.casesOn with | Continue p=>exact f p | _=>exact false
theorem UI.el {f:Pos→Bool} {P:PySem.Stmt→Prop} (k:∀ (p:Pos),f p=true→P (.Continue p)) {x:PySem.Stmt}:UI f x=true→P x:=by induction x using PySem.Stmt.casesOn with | Continue=>exact k _ | _=>exact zk
noncomputable def UG (f:Option Expr→Option Expr→Pos→Bool) (x:PySem.Stmt):Bool:=by induction x using PySem.Stmt.casesOn with | Raise x y p=>exact f x y p | _=>exact false
theorem UG.el {f:Option Expr→Option Expr→Pos→Bool} {P:PySem.Stmt→Prop} (k:∀ (x:Option Expr) (y:Option Expr) (p:Pos),f x y p=true→P (.Raise x y p)) {x:PySem.Stmt}:UG f x=true→P x:=by induction x using PySem.Stmt.casesOn with | Raise=>exact k _ _ _ | _=>exact zk
noncomputable def UE (f:List Stmt→List ExceptHandler→List Stmt→List Stmt→Pos→Bool) (x:PySem.Stmt):Bool:=by induction x using PySem.Stmt.casesOn with | Try a h b c p=>exact f a h b c p | _=>exact false
theorem UE.el {f:List Stmt→List ExceptHandler→List Stmt→List Stmt→Pos→Bool} {P:PySem.Stmt→Prop} (k:∀ (a:List Stmt) (h:List ExceptHandler) (b:List Stmt) (c:List Stmt) (p:Pos),f a h b c p=true→P (.Try a h b c p)) {x:PySem.Stmt}:UE f x=true→P x:=by induction x using PySem.Stmt.casesOn with | Try=>exact k _ _ _ _ _ | _=>exact zk
noncomputable def E.isComp (e:E):Bool:=by induction e using E.casesOn with | comp=>exact true | _=>exact false
noncomputable def E.isTup (e:E):Bool:=by induction e using E.casesOn with | tup=>exact true | _=>exact false
noncomputable def jk (C:String):Bool:=C=="ParseStop"||C=="TooDeep"||C=="HostFault"
noncomputable def nmT (sc:List (Str×NameKind)) (n:String):Expr→Bool:=yK fun s _=>zB sc .local n s
noncomputable def atT (sc:List (Str×NameKind)) (o:E) (n:String):Expr→Bool:=uw fun y s _=>s==Str.ofString n&&okE sc o y
noncomputable def ixT (sc:List (Str×NameKind)) (o i:E):Expr→Bool:=qX fun y j _=>okE sc o y&&okE sc i j
noncomputable def okH (sc:List (Str×NameKind)) (h:Hd):List Stmt→Bool:=Hd.casesOn h (fun n v=>yE (uc fun ts x _=>yE (nmT sc n) ts&&w7 (fun c _ _=>okC v c) x)) fun v=>yE (JX fun x _=>jA (w7 fun c _ _=>okC v c) x)
noncomputable def gi (sc:List (Str×NameKind)):List (String×Hd)→List ExceptHandler→Bool
 | []=>List.isEmpty
 | p::hs=>zQ fun x xs=>(ExceptHandler.casesOn x fun t nm b _=>jk p.1&&jA (yK fun s _=>zB sc .globalImplicit p.1 s) t&&nm.isNone&&okH sc p.2 b)&&gi sc hs xs
theorem gi.el {sc:List (Str×NameKind)} {p:String×Hd} {hs:List (String×Hd)} {P:List ExceptHandler→Prop} (k:∀ s q pos b xs,jk p.1=true→zB sc .globalImplicit p.1 s=true→okH sc p.2 b=true→gi sc hs xs=true→P (.ExceptHandler (some (.Name s q)) none b pos::xs)) {xs:List ExceptHandler} (h:gi sc (p::hs) xs=true):P xs:=by
 refine zQ.el (P:=P) (fun x xs h=>?_) h
 obtain ⟨h,h5⟩:=Bool.and_eq_true_iff.mp h
 obtain ⟨t,nm,b,pos⟩:=x
 obtain ⟨h,h4⟩:=Bool.and_eq_true_iff.mp h
 obtain ⟨h,h3⟩:=Bool.and_eq_true_iff.mp h
 obtain ⟨h1,h2⟩:=Bool.and_eq_true_iff.mp h
 rw [Option.isNone_iff_eq_none.mp h3]
 refine jA.el (P:=fun t=>P (.ExceptHandler t none b pos::xs)) (fun t h2=>?_) h2
 exact yK.el (P:=fun t=>P (.ExceptHandler (some t) none b pos::xs)) (fun s q h2=>k s q pos b xs h1 h2 h4 h5) h2
theorem okH.el {sc:List (Str×NameKind)} {P:Hd→List Stmt→Prop} (ka:∀ n v s q c k p1 p2,zB sc .local n s=true→okC v c=true→P (.asg n v) [.Assign [.Name s q] (.Constant c k p1) p2]) (kr:∀ v c k p1 p2,okC v c=true→P (.ret v) [.Return (some (.Constant c k p1)) p2]) {h:Hd} {b:List Stmt} (hb:okH sc h b=true):P h b:=by
 cases h with
 | asg n v=>
  refine yE.el (P:=P (.asg n v)) (fun x h=>?_) hb
  refine uc.el (P:=fun x=>P (.asg n v) [x]) (fun ts x p h=>?_) h
  obtain ⟨h1,h2⟩:=Bool.and_eq_true_iff.mp h
  refine yE.el (P:=fun ts=>P (.asg n v) [.Assign ts x p]) (fun t h1=>?_) h1
  refine yK.el (P:=fun t=>P (.asg n v) [.Assign [t] x p]) (fun s q h1=>?_) h1
  exact w7.el (P:=fun x=>P (.asg n v) [.Assign [.Name s q] x p]) (fun c k p1 h2=>ka _ _ _ _ _ _ _ _ h1 h2) h2
 | ret v=>
  refine yE.el (P:=P (.ret v)) (fun x h=>?_) hb
  refine JX.el (P:=fun x=>P (.ret v) [x]) (fun o p h=>?_) h
  refine jA.el (P:=fun o=>P (.ret v) [.Return o p]) (fun x h=>?_) h
  exact w7.el (P:=fun x=>P (.ret v) [.Return (some x) p]) (fun c k p1 h=>kr _ _ _ _ _ h) h
mutual
noncomputable def okS (sc:List (Str×NameKind)):S→Stmt→Bool
 | .asg tg e=>uc fun ts x _=>!e.isComp&&(!e.isTup||Nat.beq tg.length 1)&&yE (okT sc tg) ts&&okE sc e x
 | .asgA o n e=>uc fun ts x _=>!e.isComp&&yE (atT sc o n) ts&&okE sc e x
 | .asgI o i e=>uc fun ts x _=>!e.isComp&&yE (ixT sc o i) ts&&okE sc e x
 | .augX n o e=>Y0 fun t p x _=>o.op==p&&nmT sc n t&&okE sc e x
 | .augA b n o e=>Y0 fun t p x _=>o.op==p&&atT sc b n t&&okE sc e x
 | .augI b i o e=>Y0 fun t p x _=>o.op==p&&ixT sc b i t&&okE sc e x
 | .ex e=>UH fun x _=>!e.isComp&&okE sc e x
 | .ret e=>JX fun x _=>Option.casesOn x e.isNone fun x=>okE sc e x
 | .iff t a b=>sIf fun x y z _=>okE sc t x&&jt sc a y&&jt sc b z
 | .whl t b=>UD fun x y z _=>z.isEmpty&&okE sc t x&&jt sc b y
 | .forr n it b=>JY fun t x y z _=>z.isEmpty&&nmT sc n t&&okE sc it x&&jt sc b y
 | .forR n c b=>JY fun t x y z _=>z.isEmpty&&nmT sc n t&&jf sc "range" (yE (okE sc c)) x&&jt sc b y
 | .brk=>UJ fun _=>true
 | .cont=>UI fun _=>true
 | .rais C es=>UG fun x y _=>y.isNone&&jk C&&jA (jf sc C (wy sc es)) x
 | .tr b hs=>UE fun y xs z u _=>!hs.isEmpty&&z.isEmpty&&u.isEmpty&&jt sc b y&&gi sc hs xs
noncomputable def jt (sc:List (Str×NameKind)):List S→List Stmt→Bool
 | []=>List.isEmpty
 | s::ss=>zQ fun x xs=>okS sc s x&&jt sc ss xs
end
abbrev Frm:=List (String×V)
abbrev XP:=Md→String→Frm→St→Prop
abbrev XP.loop (X:XP):XP:=fun md C F σ=>match md with
 | .made=>False
 | _=>X .held C F σ
abbrev Fq (K:Frm→St→Prop) (Q:Fl→Frm→St→Prop):Fl→Frm→St→Prop
 | .next,F,σ=>∃ k,K (F.take k) σ
 | .cont,F,σ=>∃ k,K (F.take k) σ
 | .brk,F,σ=>Q .next F σ
 | .ret v,F,σ=>Q (.ret v) F σ
noncomputable def vu (f:Frm→(Fl→Frm→St→Prop)→St→Prop) (bind:V→Frm→Option Frm) (keep:St→Prop) (Q:Fl→Frm→St→Prop):List V→Frm→St→Prop
 | [],F,σ=>Q .next F σ
 | v::r,F,σ=>Option.rec (motive:=fun _=>Prop) False (fun F'=>f F' (Fq (fun F σ=>keep σ∧vu f bind keep Q r F σ) Q) σ) (bind v F)
@[irreducible] noncomputable def zw (v i u:V) (σ:St) (Q:St→Prop):Prop:=op (asR v) fun l=>
 (op (asI i) fun i=>(op (lsA σ l) fun xs=>op (ym i xs.length) fun j=>Q (σ.set l (.lst (xs.set j u))))∨op (diA σ l) fun d=>d.length < 100∧Q (σ.set l (.di (if (d.lookup i).isSome then d.map (fun p=>if p.1=i then (p.1,u) else p) else d++[(i,u)]))))∨
 op (asS i) fun k=>op (dsA σ l) fun d=>d.length < 100∧Q (σ.set l (.ds (if (d.lookup k).isSome then d.map (fun p=>if p.1=k then (p.1,u) else p) else d++[(k,u)])))
noncomputable def hdW (h:Hd) (F:Frm) (Q:Fl→Frm→St→Prop) (σ:St):Prop:=Hd.casesOn h (fun n v=>Q .next (yo n v F) σ) fun v=>Q (.ret v) F σ
noncomputable def gz (o:Bop) (a b:V) (σ:St) (Q:V→St→Prop):Prop:=Bop.casesOn o (Option.rec (motive:=fun _=>Prop) False (fun x=>Option.rec (motive:=fun _=>Prop) False (fun y=>Q (.int (x+y)) σ) (asI b)) (asI a)) (Option.rec (motive:=fun _=>Prop) False (fun x=>Option.rec (motive:=fun _=>Prop) False (fun y=>Q (.int (x - y)) σ) (asI b)) (asI a)) False False
abbrev Sq (K:Frm→St→Prop) (Q:Fl→Frm→St→Prop):Fl→Frm→St→Prop
 | .next,F,σ=>K F σ
 | f,F,σ=>Q f F σ
abbrev Lq (I:Nat→Frm→St→Prop) (n:Nat) (Q:Fl→Frm→St→Prop):Fl→Frm→St→Prop
 | .next,F,σ=>∃ m k,m < n∧I m (F.take k) σ
 | .cont,F,σ=>∃ m k,m < n∧I m (F.take k) σ
 | .brk,F,σ=>Q .next F σ
 | .ret v,F,σ=>Q (.ret v) F σ
noncomputable def Tx (hs:List (String×Hd)) (Q:Fl→Frm→St→Prop):XP:=fun md C F σ=>match md with
 | .fly=>Option.rec (motive:=fun _=>Prop) False (fun h=>hdW h F Q σ) (hs.lookup C)
 | _=>False
noncomputable def KN (R:Rel) (t:E) (b:Frm→(Fl→Frm→St→Prop)→XP→St→Prop) (F0:Frm) (Q:Fl→Frm→St→Prop) (X:XP) (σ0:St):Prop:=
 ∃ (I:Nat→Frm→St→Prop) (n k:Nat),I n (F0.take k) σ0∧∀ n F σ,I n F σ→wpB R F t (fun t σ=>Bool.rec (motive:=fun _=>Prop) (Q .next F σ) (b F (Lq I n Q) X.loop σ) t) (fun C σ=>X .held C F σ) σ
abbrev SM:=Rel→Frm→(Fl→Frm→St→Prop)→XP→St→Prop
noncomputable def wpS (R:Rel) (s:S) (F:Frm) (Q:Fl→Frm→St→Prop) (X:XP) (σ:St):Prop:=S.rec (motive_1:=fun _=>SM) (motive_2:=fun _=>SM)
 (fun tg e R F Q X σ=>wpE R F e (fun v σ=>Option.rec (motive:=fun _=>Prop) False (fun F'=>Q .next F' σ) (yn tg v F)) (fun C σ=>X .fly C F σ) σ)
 (fun o n e R F Q X σ=>wpE R F e (fun u σ=>wpE R F o (fun v σ=>Option.rec (motive:=fun _=>Prop) False (fun σ'=>Q .next F σ') (zO σ v n u)) (fun C σ=>X .fly C F σ) σ) (fun C σ=>X .fly C F σ) σ)
 (fun o i e R F Q X σ=>wpE R F e (fun u σ=>wpE R F o (fun v σ=>wpE R F i (fun j σ=>zw v j u σ (fun σ=>Q .next F σ)) (fun C σ=>X .fly C F σ) σ) (fun C σ=>X .fly C F σ) σ) (fun C σ=>X .fly C F σ) σ)
 (fun n o e R F Q X σ=>Option.rec (motive:=fun _=>Prop) False (fun a=>wpE R F e (fun b σ=>gz o a b σ (fun u σ=>Q .next (yo n u F) σ)) (fun C σ=>X .fly C F σ) σ) (F.lookup n))
 (fun b n o e R F Q X σ=>wpE R F b (fun v σ=>Option.rec (motive:=fun _=>Prop) False (fun a=>wpE R F e (fun b σ=>gz o a b σ (fun u σ=>Option.rec (motive:=fun _=>Prop) False (fun σ'=>Q .next F σ') (zO σ v n u))) (fun C σ=>X .fly C F σ) σ) (zm σ v n)) (fun C σ=>X .fly C F σ) σ)
 (fun b i o e R F Q X σ=>wpE R F b (fun v σ=>wpE R F i (fun j σ=>Option.rec (motive:=fun _=>Prop) False (fun a=>wpE R F e (fun b σ=>gz o a b σ (fun u σ=>zw v j u σ (fun σ=>Q .next F σ))) (fun C σ=>X .fly C F σ) σ) (zD σ v j)) (fun C σ=>X .fly C F σ) σ) (fun C σ=>X .fly C F σ) σ)
 (fun e R F Q X σ=>wpE R F e (fun _ σ=>Q .next F σ) (fun C σ=>X .fly C F σ) σ)
 (fun e R F Q X σ=>wpE R F e (fun v σ=>Q (.ret v) F σ) (fun C σ=>X .fly C F σ) σ)
 (fun t _ _ a b R F Q X σ=>wpB R F t (fun t σ=>Bool.rec (motive:=fun _=>Prop) (b R F Q X σ) (a R F Q X σ) t) (fun C σ=>X .fly C F σ) σ)
 (fun t _ b R F Q X σ=>KN R t (b R) F Q X σ)
 (fun n it _ b R F Q X σ=>wpE R F it (fun v σ=>Option.rec (motive:=fun _=>Prop) False (fun vs=>vu (fun F' Q' σ'=>b R F' Q' X.loop σ') (yn [n]) (fun σ'=>zX σ' v=some vs) Q vs F σ) (zX σ v)) (fun C σ=>X .fly C F σ) σ)
 (fun n c _ b R F Q X σ=>wpE R F c (fun v σ=>Option.rec (motive:=fun _=>Prop) False (fun i=>0≤i∧i < 1000∧vu (fun F' Q' σ'=>b R F' Q' X.loop σ') (yn [n]) (fun _=>True) Q ((List.range i.toNat).map fun (j:Nat)=>V.int (j:Int)) F σ) (asI v)) (fun C σ=>X .fly C F σ) σ)
 (fun _ F Q _ σ=>Q .brk F σ)
 (fun _ F Q _ σ=>Q .cont F σ)
 (fun C es R F _ X σ=>(C=="ParseStop"||C=="HostFault")=true∧qY R F es (fun vs σ=>vs.length=1∧X .made C F σ) (fun C σ=>X .fly C F σ) σ)
 (fun _ hs b R F Q _ σ=>b R F Q (Tx hs Q) σ)
 (fun _ F Q _ σ=>Q .next F σ)
 (fun _ _ s ss R F Q X σ=>s R F (Sq (fun F σ=>ss R F Q X σ) Q) X σ) s R F Q X σ
noncomputable def jv (R:Rel) (ss:List S) (F:Frm) (Q:Fl→Frm→St→Prop) (X:XP) (σ:St):Prop:=S.rec_1 (motive_1:=fun _=>SM) (motive_2:=fun _=>SM)
 (fun tg e R F Q X σ=>wpE R F e (fun v σ=>Option.rec (motive:=fun _=>Prop) False (fun F'=>Q .next F' σ) (yn tg v F)) (fun C σ=>X .fly C F σ) σ)
 (fun o n e R F Q X σ=>wpE R F e (fun u σ=>wpE R F o (fun v σ=>Option.rec (motive:=fun _=>Prop) False (fun σ'=>Q .next F σ') (zO σ v n u)) (fun C σ=>X .fly C F σ) σ) (fun C σ=>X .fly C F σ) σ)
 (fun o i e R F Q X σ=>wpE R F e (fun u σ=>wpE R F o (fun v σ=>wpE R F i (fun j σ=>zw v j u σ (fun σ=>Q .next F σ)) (fun C σ=>X .fly C F σ) σ) (fun C σ=>X .fly C F σ) σ) (fun C σ=>X .fly C F σ) σ)
 (fun n o e R F Q X σ=>Option.rec (motive:=fun _=>Prop) False (fun a=>wpE R F e (fun b σ=>gz o a b σ (fun u σ=>Q .next (yo n u F) σ)) (fun C σ=>X .fly C F σ) σ) (F.lookup n))
 (fun b n o e R F Q X σ=>wpE R F b (fun v σ=>Option.rec (motive:=fun _=>Prop) False (fun a=>wpE R F e (fun b σ=>gz o a b σ (fun u σ=>Option.rec (motive:=fun _=>Prop) False (fun σ'=>Q .next F σ') (zO σ v n u))) (fun C σ=>X .fly C F σ) σ) (zm σ v n)) (fun C σ=>X .fly C F σ) σ)
 (fun b i o e R F Q X σ=>wpE R F b (fun v σ=>wpE R F i (fun j σ=>Option.rec (motive:=fun _=>Prop) False (fun a=>wpE R F e (fun b σ=>gz o a b σ (fun u σ=>zw v j u σ (fun σ=>Q .next F σ))) (fun C σ=>X .fly C F σ) σ) (zD σ v j)) (fun C σ=>X .fly C F σ) σ) (fun C σ=>X .fly C F σ) σ)
 (fun e R F Q X σ=>wpE R F e (fun _ σ=>Q .next F σ) (fun C σ=>X .fly C F σ) σ)
 (fun e R F Q X σ=>wpE R F e (fun v σ=>Q (.ret v) F σ) (fun C σ=>X .fly C F σ) σ)
 (fun t _ _ a b R F Q X σ=>wpB R F t (fun t σ=>Bool.rec (motive:=fun _=>Prop) (b R F Q X σ) (a R F Q X σ) t) (fun C σ=>X .fly C F σ) σ)
 (fun t _ b R F Q X σ=>KN R t (b R) F Q X σ)
 (fun n it _ b R F Q X σ=>wpE R F it (fun v σ=>Option.rec (motive:=fun _=>Prop) False (fun vs=>vu (fun F' Q' σ'=>b R F' Q' X.loop σ') (yn [n]) (fun σ'=>zX σ' v=some vs) Q vs F σ) (zX σ v)) (fun C σ=>X .fly C F σ) σ)
 (fun n c _ b R F Q X σ=>wpE R F c (fun v σ=>Option.rec (motive:=fun _=>Prop) False (fun i=>0≤i∧i < 1000∧vu (fun F' Q' σ'=>b R F' Q' X.loop σ') (yn [n]) (fun _=>True) Q ((List.range i.toNat).map fun (j:Nat)=>V.int (j:Int)) F σ) (asI v)) (fun C σ=>X .fly C F σ) σ)
 (fun _ F Q _ σ=>Q .brk F σ)
 (fun _ F Q _ σ=>Q .cont F σ)
 (fun C es R F _ X σ=>(C=="ParseStop"||C=="HostFault")=true∧qY R F es (fun vs σ=>vs.length=1∧X .made C F σ) (fun C σ=>X .fly C F σ) σ)
 (fun _ hs b R F Q _ σ=>b R F Q (Tx hs Q) σ)
 (fun _ F Q _ σ=>Q .next F σ)
 (fun _ _ s ss R F Q X σ=>s R F (Sq (fun F σ=>ss R F Q X σ) Q) X σ) ss R F Q X σ
structure FOk (K:Fc) (d:Nat):Prop extends K.Ok d where
 top:∃ outs,K.st=K.env::outs
 fr:K.env.frame=some K.N
inductive FlR (K:Fc) (c:Cur):Flow→Fl→Prop
 | next:FlR K c .next .next
 | brk:FlR K c .brk .brk
 | cont:FlR K c .cont .cont
 | ret {v:Value} {mv:V}:c.RV K.fr v mv→FlR K c (.ret v) (.ret mv)
inductive Fc.LF (K:Fc) (c:Cur) (s:Shared) (Q:Fl→Frm→St→Prop) (f:Flow) (s':Shared):Prop
 | mk (fl:Fl) (F:Frm) (c':Cur) (m':Str→Option Value):FlR K c' f fl→Q fl F c'.σ→K.In c' m' s'→FrR K c' m' F→c.Ext K.fr K.fk c'→s'.gens=s.gens→s'.os=s.os→Fc.LF K c s Q f s'
theorem Fc.LF.el {K:Fc} {c:Cur} {s:Shared} {Q:Fl→Frm→St→Prop} {f:Flow} {s':Shared} {P:Prop} (x:Fc.LF K c s Q f s') (k:∀ (fl:Fl) (F:Frm) (c':Cur) (m':Str→Option Value),FlR K c' f fl→Q fl F c'.σ→K.In c' m' s'→FrR K c' m' F→c.Ext K.fr K.fk c'→s'.gens=s.gens→s'.os=s.os→P):P:=x.casesOn k
noncomputable def ExS (K:Fc) (g:Heap) (ea:Addr) (C:String) (h:Heap):Md→Prop
 | .fly=>∃ a0,Heap.FlyingW g K.st ea (.ref (CA C)) a0 h
 | .held=>∃ a0,Heap.HeldW g K.st ea (.ref (CA C)) a0 K.N h
 | .made=>g.StaysIn h∧g.get? ea=none∧h.FunFrames g K.st∧∃ oe vs a0,h.get? ea=some oe∧oe.cls=.ref (CA C)∧oe.data=.fields vs∧vs[1]?=some .none∧vs[0]?=some a0
inductive Fc.LXS (K:Fc) (c:Cur) (s:Shared) (X:XP) (e:Value) (s':Shared):Prop
 | mk (C:String) (md:Md) (ea:Addr) (F:Frm) (m':Str→Option Value) (c':Cur):e=.ref ea→X md C F c'.σ→ExS K c'.h ea C s'.heap md→c'.WS K.w K.fr→xu K.fr c.σ c.ρ c.h c'.σ c'.ρ c'.h→y7 (frs K.st) K.fk c.h c'.h→yD K.fk c.h s'.heap→s'.heap.Ns K.N m'→FrR K c' m' F→s'.gens=s.gens→s'.os=s.os→Fc.LXS K c s X e s'
theorem Fc.LXS.el {K:Fc} {c:Cur} {s:Shared} {X:XP} {e:Value} {s':Shared} {P:Prop} (x:Fc.LXS K c s X e s') (k:∀ (C:String) (md:Md) (ea:Addr) (F:Frm) (m':Str→Option Value) (c':Cur),e=.ref ea→X md C F c'.σ→ExS K c'.h ea C s'.heap md→c'.WS K.w K.fr→xu K.fr c.σ c.ρ c.h c'.σ c'.ρ c'.h→y7 (frs K.st) K.fk c.h c'.h→yD K.fk c.h s'.heap→s'.heap.Ns K.N m'→FrR K c' m' F→s'.gens=s.gens→s'.os=s.os→P):P:=x.casesOn k
noncomputable def SS (K:Fc) (R:Rel) (t:S) (x:Stmt):Prop:=∀ F c m s Q X,K.In c m s→FrR K c m F→wpS R t F Q X c.σ→wpAny (model pw K.w) K.A (exec x K.env) (K.LF c s Q) (K.LXS c s X) s
section
variable {K:Fc} {d:Nat} {R:Rel} {sc:List (Str×NameKind)} {c c':Cur} {m m':Str→Option Value} {s s':Shared} {Q:Fl→Frm→St→Prop} {X:XP} {F F':Frm} {v u:Value} {mv mu:V}
theorem FrR.core (x:FrR K c m F) (E:xu K.fr c.σ c.ρ c.h c'.σ c'.ρ c'.h):FrR K c' m F:=fun n mv h=>by
 obtain ⟨v,a,b⟩:=x n mv h;exact ⟨v,a,RV.mono E.nx E.ag E.sound b⟩
theorem Fc.LF.from {f:Flow} {s'':Shared} (x:K.LF c' s' Q f s'') (E:c.Ext K.fr K.fk c') (g:s'.gens=s.gens) (o:s'.os=s.os):K.LF c s Q f s'':=by
 obtain ⟨fl,F,c2,m2,e1,e2,e3,e4,e5,e6,e7⟩:=x
 exact ⟨fl,F,c2,m2,e1,e2,e3,e4,E.trans e5,e6.trans g,e7.trans o⟩
theorem Fc.LXS.from {e:Value} {s'':Shared} (x:K.LXS c' s' X e s'') (E:c.Ext K.fr K.fk c') (g:s'.gens=s.gens) (o:s'.os=s.os):K.LXS c s X e s'':=by
 obtain ⟨C,md,ea,F,m2,c2,e1,e2,e3,e4,e5,e6,e7,e8,e9,e10,e11⟩:=x
 exact ⟨C,md,ea,F,m2,c2,e1,e2,e3,e4,(Ext.core E).trans e5,y7.before e6 E,yD.trans E.frk e7,e8,e9,e10.trans g,e11.trans o⟩
theorem Fc.LX.stm {e:Value} {s':Shared} (FR:FrR K c m F) (x:K.LX c s m (fun C σ=>X .fly C F σ) e s'):K.LXS c s X e s':=by
 obtain ⟨C,a0,ea,c2,e1,e2,e3,e4,e5,ea',e6,e7,e8,e9⟩:=x
 exact ⟨C,.fly,ea,F,m,c2,e1,e2,⟨a0,e3⟩,e4,e5,ea',e6,e7,FR.core e5,e8,e9⟩
theorem WD {e:E} {x:Expr} (hc:e.isComp=false) (h:okE sc e x=true) (t:Option Expr) (n:Nat) (env:Env):swapsWith x t n env=pure false:=by
 induction x using PySem.Expr.casesOn with
 | ListComp=>exact zk (by induction e using Mine.E.casesOn <;> first | exact h | exact hc.symm)
 | SetComp=>exact zk (by induction e using Mine.E.casesOn <;> exact h)
 | DictComp=>exact zk (by induction e using Mine.E.casesOn <;> exact h)
 | _=>rfl
theorem Ms {e:E} {x:Expr} (hc:e.isTup=false) (h:okE sc e x=true) (t:Expr) (env:Env):swappedStores [t] x env=pure none:=by
 have no:∀ {P:Prop} {a k p},okE sc e (.Tuple a k p)=true→P:=fun h=>zk (by induction e using Mine.E.casesOn <;> first | exact h | exact hc.symm)
 induction t using PySem.Expr.casesOn with
 | Tuple=>induction x using PySem.Expr.casesOn with | Tuple=>exact no h | _=>rfl
 | List=>induction x using PySem.Expr.casesOn with | Tuple=>exact no h | _=>rfl
 | _=>rfl
theorem QJ {tg:List String} {t x:Expr} (hl:tg.length=1) (ht:okT sc tg t=true) (env:Env):swappedStores [t] x env=pure none:=by
 rcases tg with _ | ⟨n,_ | ⟨_,_⟩⟩
 ·cases hl
 ·exact yK.el (P:=fun t=>swappedStores [t] x env=pure none) (fun _ _ _=>rfl) ht
 ·cases hl
theorem jw (t x:Expr) (n:Nat) (env:Env):swapsWithSole [t] x n env=swapsWith x (some t) n env:=by unfold swapsWithSole;rfl
theorem ya {a:Bool} (h:(!a)=true):a=false:=by cases a <;> first | rfl | cases h
theorem Ud {tg:List String} {t:Expr} (ht:okT sc tg t=true) (ts:List Expr) (env:Env):assignEach (t::ts) env=(false,assign t env)::assignEach ts env:=by
 rcases tg with _ | ⟨n,_ | ⟨_,_⟩⟩
 ·exact zk ht
 ·exact yK.el (P:=fun t=>assignEach (t::ts) env=(false,assign t env)::assignEach ts env) (fun _ _ _=>rfl) ht
 ·exact X8.el (P:=fun t=>assignEach (t::ts) env=(false,assign t env)::assignEach ts env) (fun _ _ _ _=>rfl) ht
theorem HF (O:K.Ok (d+1)) (hs:sc=K.env.scope.names) {e:E} {t x:Expr} {pos:Pos} (hc:(!e.isComp)=true) (he:okE sc e x=true) (noT:swappedStores [t] x K.env=pure none) (hn:assignEach [t] K.env=[(false,assign t K.env)]) (I:K.In c m s) (FR:FrR K c m F) {W:V→St→Prop}
  (hw:wpE (RC d) F e W (fun C σ=>X .fly C F σ) c.σ) (k:∀ {v mv c1 s1},W mv c1.σ→K.In c1 m s1→c.Ext K.fr K.fk c1→FrR K c1 m F→c1.RV K.fr v mv→wpAny (model pw K.w) K.A (assign t K.env v) (fun _=>K.LF c1 s1 Q .next) (K.LXS c1 s1 X) s1):
  wpAny (model pw K.w) K.A (exec (.Assign [t] x pos) K.env) (K.LF c s Q) (K.LXS c s X) s:=by
 refine wpAny_Assign_stores ?_ ((jw _ _ _ _).trans (WD (ya hc) he _ _ _)) noT
 refine wpAny_mono ((zh e O hs).1 _ he F c m s _ _ I FR hw) (fun v s1 z'=>z'.el fun mv c1 e1 e2 e3 e4 e5 e6=>?_) fun _ _ x=>x.stm FR
 rw [hn]
 exact wpAny_mono (k e1 e2 e3 (FR.ext e3) e4) (fun _ _ x=>x.from e3 e5 e6) fun _ _ x=>x.from e3 e5 e6
theorem Qf (O:K.Ok (d+1)) (hs:sc=K.env.scope.names) {tg:List String} {e:E} {x:Stmt} (h:okS sc (.asg tg e) x=true):SS K (RC d) (.asg tg e) x:=by
 refine uc.el (fun ts x pos h=>?_) h
 obtain ⟨h,h4⟩:=zb h
 obtain ⟨h,h3⟩:=zb h
 obtain ⟨h1,h2⟩:=zb h
 refine yE.el (P:=fun ts=>SS K (RC d) (.asg tg e) (.Assign ts x pos)) (fun t h5=>?_) h3
 have noT:swappedStores [t] x K.env=pure none:=(Bool.or_eq_true_iff.mp h2).elim (fun q=>Ms (ya q) h4 _ _) fun q=>QJ (Nat.eq_of_beq_eq_true q) h5 _
 refine fun F c m s Q X I FR hw=>HF O hs h1 h4 noT (Ud h5 _ _) I FR hw fun e1 e2 e3 FR e4=>?_
 obtain ⟨F',hb,e1⟩:=zd e1
 exact wpAny_mono (qI O hs h5 hb e2 FR e4) (fun _ s2 z'=>z'.el fun c2 m2 f1 f2 f3 f4 f5 f6=>⟨.next,F',c2,m2,.next,f1▸e1,f2,f3,f4,f5,f6⟩) fun _ _ x=>x
theorem Ur (O:K.Ok (d+1)) (hs:sc=K.env.scope.names) {o e:E} {n:String} {x:Stmt} (h:okS sc (.asgA o n e) x=true):SS K (RC d) (.asgA o n e) x:=by
 refine uc.el (fun ts x pos h=>?_) h
 obtain ⟨h,h4⟩:=zb h
 obtain ⟨h2,h3⟩:=zb h
 refine yE.el (P:=fun ts=>SS K (RC d) (.asgA o n e) (.Assign ts x pos)) (fun t h5=>?_) h3
 refine uw.el (P:=fun t=>SS K (RC d) (.asgA o n e) (.Assign [t] x pos)) (fun y S p h5=>?_) h5
 obtain ⟨h5,h6⟩:=zb h5
 cases beq_iff_eq.mp h5
 refine fun F c m s Q X I FR hw=>HF O hs h2 h4 rfl rfl I FR hw fun {v mv c1 s1} e1 e2 e3 FR e4=>?_
 rw [arm_assign_Attribute]
 refine wpAny_bind (wpAny_holding (wpAny_mono ((zh o O hs).1 _ h6 F c1 m s1 _ _ e2 FR e1) (fun u s2 z'=>z'.el fun mu c2 f1 f2 f3 f4 f5 f6=>?_) fun _ _ x=>x.stm FR))
 obtain ⟨σ',hu,f1⟩:=zd f1
 refine wpAny_bind (wpAny_standAt (wpAny_bind (wpAny_holding (wpAny_mono (gD (X:=fun C σ=>X .fly C F σ) f2 f4 (f3.rv e4) hu f1) (fun _ s3 z'=>z'.el fun c3 g1 g2 g3 g5 g6=>?_) fun _ _ x=>(x.stm (FR.ext f3)).from f3 f5 f6))))
 exact wpAny_release' ⟨.next,F,c3,m,.next,g1,g2,(FR.ext f3).ext g3,f3.trans g3,g5.trans f5,g6.trans f6⟩
end
theorem RVs.set {ρ n h S} {v:Value} {u:V} (r:RV ρ n h S v u) (i:Nat) {vs:List Value} {l:List V} (rs:RVs ρ n h S vs l):RVs ρ n h S (vs.set i v) (l.set i u):=
 rs.ind (P:=fun vs l=>∀ i,RVs ρ n h S (vs.set i v) (l.set i u)) (fun _=>.nil) (fun _ _ _ _ x xs ih i=>Nat.casesOn i (.cons r xs) fun i=>.cons x (ih i)) i
section
variable {K₁ K':Type} [DecidableEq K₁] [DecidableEq K'] [BEq K'] [LawfulBEq K'] {f:K'→K₁} {ρ:Loc→Addr×Addr} {n:Nat} {h:Heap} {S:Addr→Prop} {v:Value} {u:V} {kvs:List (K₁×Value)} {d:List (K'×V)}
theorem Xy (fi:∀ a b,f a=f b→a=b) (x:K') (rs:RKs f ρ n h S kvs d):(kvs.any fun kv=>kv.1=f x)=(d.lookup x).isSome:=by
 induction rs with
 | nil=>rfl
 | @cons k v mv kvs d r rs ih=>
  rw [List.any_cons,List.lookup_cons,ih]
  by_cases q:x=k
  ·rw [q,beq_self_eq_true,decide_eq_true rfl];rfl
  ·rw [beq_eq_false_iff_ne.mpr q,decide_eq_false fun z=>q (fi _ _ z).symm,Bool.false_or]
theorem RKs.put (fi:∀ a b,f a=f b→a=b) (r:RV ρ n h S v u) (x:K') (rs:RKs f ρ n h S kvs d):RKs f ρ n h S (kvs.map fun kv=>if kv.1=f x then (kv.1,v) else kv) (d.map fun p=>if p.1=x then (p.1,u) else p):=by
 induction rs with
 | nil=>exact .nil
 | @cons k w mw kvs d r' rs ih=>
  rw [List.map_cons,List.map_cons]
  by_cases q:k=x
  ·rw [if_pos q,if_pos (congrArg f q)];exact .cons r ih
  ·rw [if_neg q,if_neg fun z=>q (fi _ _ z)];exact .cons r' ih
theorem RKs.snoc (r:RV ρ n h S v u) (x:K') (rs:RKs f ρ n h S kvs d):RKs f ρ n h S (kvs++[(f x,v)]) (d++[(x,u)]):=by
 induction rs with
 | nil=>exact .cons r .nil
 | cons r' _ ih=>exact .cons r' ih
theorem RKs.stored (fi:∀ a b,f a=f b→a=b) (r:RV ρ n h S v u) (x:K') (rs:RKs f ρ n h S kvs d):RKs f ρ n h S (PySem.stored kvs (f x) v) (if (d.lookup x).isSome then d.map (fun p=>if p.1=x then (p.1,u) else p) else d++[(x,u)]):=by
 unfold PySem.stored
 rw [Xy fi x rs]
 split
 ·exact rs.put fi r x
 ·exact rs.snoc r x
end
section
variable {K:Fc} {d:Nat} {R:Rel} {sc:List (Str×NameKind)} {c c':Cur} {m m':Str→Option Value} {s s':Shared} {Q:St→Prop} {X:String→St→Prop} {F F':Frm} {v u x:Value} {mv mu mx:V}
theorem Y7 {K₁ K':Type} [DecidableEq K₁] [DecidableEq K'] [BEq K'] [LawfulBEq K'] {knd:KeyKind pw K.w K₁} {f:K'→K₁} (fi:∀ a b,f a=f b→a=b) {mk:List (K'×V)→zu} (hk:∀ ρ n h S p d,yi K.w ρ n h S p (mk d)=(p.1=p.2∧∃ kvs,h.DictOf knd p.2 kvs∧RKs f ρ n h S kvs d))
  (I:K.In c m s) {l:Loc} {dd:List (K'×V)} (hd:c.σ.m l=some (mk dd)) {k:K'} (hu:knd.is (f k) u=true) (rx:c.RV K.fr x mx) (hz:dd.length < 100) (q:Q (c.σ.set l (mk (if (dd.lookup k).isSome then dd.map (fun p=>if p.1=k then (p.1,mx) else p) else dd++[(k,mx)])))):K.EU (setItem (.ref (c.ρ l).1) u x) c m s Q X:=by
 have cl:=(I.ws.cells _ _ hd).2
 rw [hk] at cl
 obtain ⟨e,kvs,e1,e2⟩:=cl
 rw [e]
 refine wpAny_setItem_pairs hu (I.heap▸e1) (fun h' hm hs=>?_) (by rw [e2.len,sizeLine_eq];omega)
 rw [I.heap] at hs
 refine I.turn hd hs ?_ _ q
 rw [hk]
 exact ⟨e,_,hm,(RKs.stored fi rx k e2).mono (Nat.le_refl _) (fun _ _=>rfl) fun b o ob nn=>⟨(hs.2 b fun z=>nn (z▸.inl ⟨_,_,hd,rfl⟩)).trans ob,nn⟩⟩
theorem gE (I:K.In c m s) (r:c.RV K.fr v mv) (ri:c.RV K.fr u mu) (rx:c.RV K.fr x mx) (h:zw mv mu mx c.σ Q):K.EU (setItem v u x) c m s Q X:=by
 unfold zw at h
 obtain ⟨l,hl,h⟩:=zd h
 rw [(r.r hl).1]
 rcases h with h | h
 ·obtain ⟨i,hi,h⟩:=zd h
  obtain ⟨t,eu⟩:=ri.i hi
  rw [eu]
  rcases h with h | h
  ·obtain ⟨xs,hc,h⟩:=zd h
   obtain ⟨j,hj,q⟩:=zd h
   obtain ⟨h0,h1,h2,ej⟩:=gy hj
   obtain ⟨e,items,k,e1,e2⟩:=I.ws.ls hc
   rw [← e2.len,Array.length_toList] at h1
   rw [e]
   refine ki_setAt (n:=k) (I.heap▸e1) h0 (by omega) (by omega) ?_
   have hs:Heap.SameBut (c.ρ l).2 c.h (c.h.update (c.ρ l).2 (Obj.mapSeq (·.setIfInBounds i.toNat x))):=Heap.SameBut.update ..
   have g:=Heap.get?_update_self (Obj.mapSeq (·.setIfInBounds i.toNat x)) e1 rfl
   rw [I.heap]
   refine I.turn (xw hc) (cl':=.lst (xs.set i.toNat mx)) hs ⟨e,items.setIfInBounds i.toNat x,_,g,?_⟩ s.toks (ej▸q)
   rw [Array.toList_setIfInBounds]
   exact (RVs.set rx i.toNat e2).mono (Nat.le_refl _) (fun _ _=>rfl) fun b o ob nn=>⟨(hs.2 b fun z=>nn (z▸.inl ⟨_,_,xw hc,rfl⟩)).trans ob,nn⟩
  ·obtain ⟨dd,hd,hz,q⟩:=zd h
   exact Y7 (f:=id) (mk:=.di) (fun _ _ e=>e) (fun _ _ _ _ _ _=>rfl) I (jX hd) (intKind_is pw K.w _ _) rx hz q
 ·obtain ⟨k,hk,h⟩:=zd h
  obtain ⟨t,eu⟩:=ri.st hk
  obtain ⟨dd,hd,hz,q⟩:=zd h
  rw [eu]
  exact Y7 (mk:=.ds) (fun _ _=>uD) (fun _ _ _ _ _ _=>rfl) I (wJ hd) (strKind_is pw K.w _ _) rx hz q
end
section
variable {K:Fc} {d:Nat} {R:Rel} {sc:List (Str×NameKind)} {c c':Cur} {m m':Str→Option Value} {s s':Shared} {F F':Frm} {v u x:Value} {mv mu mx:V}
theorem ZF {Q:V→St→Prop} {X:String→St→Prop} (I:K.In c m s) (r:c.RV K.fr v mv) (r':c.RV K.fr u mu) {o:Bop} (h:gz o mv mu c.σ Q):K.EV (inplaceOp o.op v u) c m s Q X:=by
 have go:∀ {f:Int→Int→Int},(op (asI mv) fun x=>op (asI mu) fun y=>Q (.int (f x y)) c.σ)→∃ x t y t',v=.int x t∧u=.int y t'∧Q (.int (f x y)) c.σ:=fun h=>by
  obtain ⟨x,hx,h⟩:=zd h
  obtain ⟨y,hy,q⟩:=zd h
  obtain ⟨t,e⟩:=r.i hx
  obtain ⟨t',e'⟩:=r'.i hy
  exact ⟨x,t,y,t',e,e',q⟩
 induction o using Bop.casesOn with
 | add=>obtain ⟨x,t,y,t',e,e',q⟩:=go (f:=(·+·)) h;rw [e,e'];exact P.iadd_int (I.stay q (.int _ _))
 | sub=>obtain ⟨x,t,y,t',e,e',q⟩:=go (f:=(· - ·)) h;rw [e,e'];exact P.isub_int (I.stay q (.int _ _))
 | _=>exact h.elim
theorem Up (O:K.Ok (d+1)) (hs:sc=K.env.scope.names) {o i e:E} {x:Stmt} (h:okS sc (.asgI o i e) x=true):SS K (RC d) (.asgI o i e) x:=by
 refine uc.el (fun ts x pos h=>?_) h
 obtain ⟨h,h4⟩:=zb h
 obtain ⟨h2,h3⟩:=zb h
 refine yE.el (P:=fun ts=>SS K (RC d) (.asgI o i e) (.Assign ts x pos)) (fun t h5=>?_) h3
 refine qX.el (P:=fun t=>SS K (RC d) (.asgI o i e) (.Assign [t] x pos)) (fun y j p h5=>?_) h5
 obtain ⟨h6,h7⟩:=zb h5
 refine fun F c m s Q X I FR hw=>HF O hs h2 h4 rfl rfl I FR hw fun {v mv c1 s1} e1 e2 e3 FR e4=>?_
 rw [arm_assign_Subscript]
 refine wpAny_bind (wpAny_holding (wpAny_mono ((zh o O hs).1 _ h6 F c1 m s1 _ _ e2 FR e1) (fun u s2 z'=>z'.el fun mu c2 f1 f2 f3 f4 f5 f6=>?_) fun _ _ x=>x.stm FR))
 refine wpAny_bind (wpAny_holding (wpAny_mono ((zh i O hs).1 _ h7 F c2 m s2 _ _ f2 (FR.ext f3) f1) (fun iv s3 z'=>z'.el fun mi c3 g1 g2 g3 g4 g5 g6=>?_) fun _ _ x=>(x.stm (FR.ext f3)).from f3 f5 f6))
 refine wpAny_bind (wpAny_standAt (wpAny_bind (wpAny_holding (wpAny_mono (gE (X:=fun C σ=>X .fly C F σ) g2 (g3.rv f4) g4 (g3.rv (f3.rv e4)) g1) (fun _ s4 z'=>z'.el fun c4 k1 k2 k3 k5 k6=>?_) fun _ _ x=>((x.stm ((FR.ext f3).ext g3)).from g3 g5 g6).from f3 f5 f6))))
 exact wpAny_release' ⟨.next,F,c4,m,.next,k1,k2,((FR.ext f3).ext g3).ext k3,(f3.trans g3).trans k3,(k5.trans g5).trans f5,(k6.trans g6).trans f6⟩
theorem Um (O:K.Ok (d+1)) (hs:sc=K.env.scope.names) {n:String} {o:Bop} {e:E} {x:Stmt} (h:okS sc (.augX n o e) x=true):SS K (RC d) (.augX n o e) x:=by
 refine Y0.el (fun t o' x pos h=>?_) h
 obtain ⟨h,h3⟩:=zb h
 obtain ⟨h1,h2⟩:=zb h
 cases beq_iff_eq.mp h1
 refine yK.el (P:=fun t=>SS K (RC d) (.augX n o e) (.AugAssign t o.op x pos)) (fun S p hn=>?_) h2
 obtain ⟨eS,k2,k3⟩:=zF hn
 cases eS
 intro F c m s Q X I FR hw
 obtain ⟨a,ha,hw⟩:=zd hw
 obtain ⟨av,q1,q2⟩:=FR n a ha
 refine wpAny_AugAssign_Name (wpAny_loadName_local O.kind (zy hs k3) (O.loc▸I.ns) q1 ?_)
 refine wpAny_mono ((zh e O hs).1 _ h3 F c m s _ _ I FR hw) (fun v s1 z'=>z'.el fun mv c1 e1 e2 e3 e4 e5 e6=>?_) fun _ _ x=>x.stm FR
 refine wpAny_mono (ZF (X:=fun C σ=>X .fly C F σ) e2 (e3.rv q2) e4 e1) (fun w s2 z'=>z'.el fun mw c2 f1 f2 f3 f4 f5 f6=>?_) fun _ _ x=>(x.stm (FR.ext e3)).from e3 e5 e6
 refine wpAny_mono (wI O f2 ((FR.ext e3).ext f3) f4 (zy hs k3)) (fun _ s3 z'=>z'.el fun c3 m3 g1 g2 g3 g4 g5 g6=>?_) fun _ _ x=>x
 exact ⟨.next,_,c3,m3,.next,g1▸f1,g2,g3,(e3.trans f3).trans g4,(g5.trans f5).trans e5,(g6.trans f6).trans e6⟩
end
section
variable {K:Fc} {d:Nat} {R:Rel} {sc:List (Str×NameKind)} {c c':Cur} {m m':Str→Option Value} {s s':Shared} {F F':Frm} {v u x:Value} {mv mu mx:V}
theorem Uo (O:K.Ok (d+1)) (hs:sc=K.env.scope.names) {b e:E} {n:String} {o:Bop} {x:Stmt} (h:okS sc (.augA b n o e) x=true):SS K (RC d) (.augA b n o e) x:=by
 refine Y0.el (fun t o' x pos h=>?_) h
 obtain ⟨h,h3⟩:=zb h
 obtain ⟨h1,h2⟩:=zb h
 cases beq_iff_eq.mp h1
 refine uw.el (P:=fun t=>SS K (RC d) (.augA b n o e) (.AugAssign t o.op x pos)) (fun y S p h2=>?_) h2
 obtain ⟨h2,h4⟩:=zb h2
 cases beq_iff_eq.mp h2
 intro F c m s Q X I FR hw
 refine wpAny_AugAssign_AttributeAny (wpAny_mono ((zh b O hs).1 _ h4 F c m s _ _ I FR hw) (fun v s1 z'=>z'.el fun mv c1 e1 e2 e3 e4 e5 e6=>?_) fun _ _ x=>x.stm FR)
 obtain ⟨a,ha,e1⟩:=zd e1
 have up1:∀ {z s''},K.LXS c1 s1 X z s''→K.LXS c s X z s'':=fun x=>x.from e3 e5 e6
 refine wpAny_mono (gG (X:=fun C σ=>X .fly C F σ) (Q:=fun w σ=>w=a∧σ=c1.σ) e2 e4 ha ⟨rfl,rfl⟩) (fun av s2 z'=>z'.el fun mav c2 q f2 f3 f4 f5 f6=>?_) fun _ _ x=>up1 (x.stm (FR.ext e3))
 rw [q.1] at f4
 have FR2:=(FR.ext e3).ext f3
 have up2:∀ {z s''},K.LXS c2 s2 X z s''→K.LXS c s X z s'':=fun x=>up1 (x.from f3 f5 f6)
 refine wpAny_mono ((zh e O hs).1 _ h3 F c2 m s2 _ _ f2 FR2 (q.2▸e1)) (fun w s3 z'=>z'.el fun mw c3 g1 g2 g3 g4 g5 g6=>?_) fun _ _ x=>up2 (x.stm FR2)
 have FR3:=FR2.ext g3
 have up3:∀ {z s''},K.LXS c3 s3 X z s''→K.LXS c s X z s'':=fun x=>up2 (x.from g3 g5 g6)
 refine wpAny_mono (ZF (X:=fun C σ=>X .fly C F σ) g2 (g3.rv f4) g4 g1) (fun r s4 z'=>z'.el fun mr c4 k1 k2 k3 k4 k5 k6=>?_) fun _ _ x=>up3 (x.stm FR3)
 have FR4:=FR3.ext k3
 obtain ⟨σ',hu,k1⟩:=zd k1
 refine wpAny_mono (gD (X:=fun C σ=>X .fly C F σ) k2 (k3.rv (g3.rv (f3.rv e4))) k4 hu k1) (fun _ s5 z'=>z'.el fun c5 l1 l2 l3 l5 l6=>?_) fun _ _ x=>up3 ((x.stm FR4).from k3 k5 k6)
 exact ⟨.next,F,c5,m,.next,l1,l2,FR4.ext l3,(((e3.trans f3).trans g3).trans k3).trans l3,(((l5.trans k5).trans g5).trans f5).trans e5,(((l6.trans k6).trans g6).trans f6).trans e6⟩
theorem Un (O:K.Ok (d+1)) (hs:sc=K.env.scope.names) {b i e:E} {o:Bop} {x:Stmt} (h:okS sc (.augI b i o e) x=true):SS K (RC d) (.augI b i o e) x:=by
 refine Y0.el (fun t o' x pos h=>?_) h
 obtain ⟨h,h3⟩:=zb h
 obtain ⟨h1,h2⟩:=zb h
 cases beq_iff_eq.mp h1
 refine qX.el (P:=fun t=>SS K (RC d) (.augI b i o e) (.AugAssign t o.op x pos)) (fun y j p h2=>?_) h2
 obtain ⟨h4,h5⟩:=zb h2
 intro F c m s Q X I FR hw
 refine wpAny_AugAssign_SubscriptAny (wpAny_mono ((zh b O hs).1 _ h4 F c m s _ _ I FR hw) (fun v s1 z'=>z'.el fun mv c1 e1 e2 e3 e4 e5 e6=>?_) fun _ _ x=>x.stm FR) ?_
 ·have up1:∀ {z s''},K.LXS c1 s1 X z s''→K.LXS c s X z s'':=fun x=>x.from e3 e5 e6
  refine wpAny_mono ((zh i O hs).1 _ h5 F c1 m s1 _ _ e2 (FR.ext e3) e1) (fun iv s2 z'=>z'.el fun mi c2 f1 f2 f3 f4 f5 f6=>?_) fun _ _ x=>up1 (x.stm (FR.ext e3))
  have FR2:=(FR.ext e3).ext f3
  have up2:∀ {z s''},K.LXS c2 s2 X z s''→K.LXS c s X z s'':=fun x=>up1 (x.from f3 f5 f6)
  obtain ⟨a,ha,f1⟩:=zd f1
  refine wpAny_mono (V4 (X:=fun C σ=>X .fly C F σ) (Q:=fun w σ=>w=a∧σ=c2.σ) f2 (f3.rv e4) f4 ha ⟨rfl,rfl⟩).1 (fun av s3 z'=>z'.el fun mav c3 q g2 g3 g4 g5 g6=>?_) fun _ _ x=>up2 (x.stm FR2)
  rw [q.1] at g4
  have FR3:=FR2.ext g3
  have up3:∀ {z s''},K.LXS c3 s3 X z s''→K.LXS c s X z s'':=fun x=>up2 (x.from g3 g5 g6)
  refine wpAny_mono ((zh e O hs).1 _ h3 F c3 m s3 _ _ g2 FR3 (q.2▸f1)) (fun w s4 z'=>z'.el fun mw c4 k1 k2 k3 k4 k5 k6=>?_) fun _ _ x=>up3 (x.stm FR3)
  have FR4:=FR3.ext k3
  have up4:∀ {z s''},K.LXS c4 s4 X z s''→K.LXS c s X z s'':=fun x=>up3 (x.from k3 k5 k6)
  refine wpAny_mono (ZF (X:=fun C σ=>X .fly C F σ) k2 (k3.rv g4) k4 k1) (fun r s5 z'=>z'.el fun mr c5 l1 l2 l3 l4 l5 l6=>?_) fun _ _ x=>up4 (x.stm FR4)
  have FR5:=FR4.ext l3
  refine wpAny_mono (gE (X:=fun C σ=>X .fly C F σ) l2 (l3.rv (k3.rv (g3.rv (f3.rv e4)))) (l3.rv (k3.rv (g3.rv f4))) l4 l1) (fun _ s6 z'=>z'.el fun c6 n1 n2 n3 n5 n6=>?_) fun _ _ x=>up4 ((x.stm FR5).from l3 l5 l6)
  exact ⟨.next,F,c6,m,.next,n1,n2,FR5.ext n3,((((e3.trans f3).trans g3).trans k3).trans l3).trans n3,((((n5.trans l5).trans k5).trans g5).trans f5).trans e5,((((n6.trans l6).trans k6).trans g6).trans f6).trans e6⟩
 ·intro ov iv new
  clear hw
  induction j using PySem.Expr.casesOn with
  | Slice=>exact zk (by induction i using Mine.E.casesOn <;> exact h5)
  | _=>rfl
theorem HR (O:K.Ok (d+1)) (hs:sc=K.env.scope.names) (hi:interactive K.env=false) {e:E} {x:Stmt} (h:okS sc (.ex e) x=true):SS K (RC d) (.ex e) x:=by
 refine UH.el (fun x pos h=>?_) h
 obtain ⟨h1,h2⟩:=zb h
 intro F c m s Q X I FR hw
 rw [exec_Expr K.env x pos hi (WD (ya h1) h2 _ _ _)]
 refine wpAny_bind (wpAny_standAt (wpAny_bind (wpAny_mono ((zh e O hs).1 _ h2 F c m s _ _ I FR hw) (fun v s1 z'=>z'.el fun mv c1 e1 e2 e3 e4 e5 e6=>wpAny_dropValue ?_) fun _ _ x=>x.stm FR)))
 exact ⟨.next,F,c1,m,.next,e1,e2,FR.ext e3,e3,e5,e6⟩
theorem Qb (O:K.Ok (d+1)) (hs:sc=K.env.scope.names) {e:E} {x:Stmt} (h:okS sc (.ret e) x=true):SS K (RC d) (.ret e) x:=by
 refine JX.el (fun x pos h=>?_) h
 intro F c m s Q X I FR hw
 cases x with
 | none=>
  rw [gx h] at hw
  exact wpAny_Return_none ⟨.ret .none,F,c,m,.ret .none,hw,I,FR,.refl,rfl,rfl⟩
 | some y=>
  refine wpAny_Return_some (wpAny_mono ((zh e O hs).1 y h F c m s _ _ I FR hw) (fun v s1 z'=>z'.el fun mv c1 e1 e2 e3 e4 e5 e6=>?_) fun _ _ x=>x.stm FR)
  exact ⟨.ret mv,F,c1,m,.ret e4,e1,e2,FR.ext e3,e3,e5,e6⟩
end
noncomputable def SSs (K:Fc) (R:Rel) (t:List S) (x:List Stmt):Prop:=∀ F c m s Q X,K.In c m s→FrR K c m F→jv R t F Q X c.σ→wpAny (model pw K.w) K.A (execs x K.env) (K.LF c s Q) (K.LXS c s X) s
section
variable {K:Fc} {d:Nat} {R:Rel} {sc:List (Str×NameKind)} {c c':Cur} {m m':Str→Option Value} {s s':Shared} {F F':Frm} {v u x:Value} {mv mu mx:V}
theorem Ue:SSs K R [] []:=fun F c m s Q X I FR hw=>wpAny_execs_nil ⟨.next,F,c,m,.next,hw,I,FR,.refl,rfl,rfl⟩
theorem wd {t:S} {ts:List S} {x:Stmt} {xs:List Stmt} (h:SS K R t x) (hs:SSs K R ts xs):SSs K R (t::ts) (x::xs):=by
 intro F c m s Q X I FR hw
 refine wpAny_execs_cons (wpAny_mono (h F c m s _ X I FR hw) (fun f s1 z'=>z'.el fun fl F1 c1 m1 e0 e1 e2 e3 e4 e5 e6=>?_) fun _ _ x=>x)
 cases e0 with
 | next=>exact wpAny_mono (hs F1 c1 m1 s1 Q X e2 e3 e1) (fun _ _ x=>x.from e4 e5 e6) fun _ _ x=>x.from e4 e5 e6
 | brk=>exact ⟨.brk,F1,c1,m1,.brk,e1,e2,e3,e4,e5,e6⟩
 | cont=>exact ⟨.cont,F1,c1,m1,.cont,e1,e2,e3,e4,e5,e6⟩
 | ret r=>exact ⟨_,F1,c1,m1,.ret r,e1,e2,e3,e4,e5,e6⟩
theorem Qd (O:K.Ok (d+1)) (hs:sc=K.env.scope.names) {t:E} {a b:List S} {x:Stmt} (h:okS sc (.iff t a b) x=true) (iha:∀ y,jt sc a y=true→SSs K (RC d) a y) (ihb:∀ y,jt sc b y=true→SSs K (RC d) b y):SS K (RC d) (.iff t a b) x:=by
 refine sIf.el (fun x y z pos h=>?_) h
 obtain ⟨h,h3⟩:=zb h
 obtain ⟨h1,h2⟩:=zb h
 refine fun F c m s Q X I FR hw=>wpAny_If (wpAny_mono ((zh t O hs).2 _ h1 F c m s _ _ I FR hw) (fun b s1 z'=>z'.el fun c1 e1 e2 e3 e5 e6=>?_) fun _ _ x=>x.stm FR)
 cases b
 ·exact wpAny_mono (ihb _ h3 F c1 m s1 Q X e2 (FR.ext e3) e1) (fun _ _ x=>x.from e3 e5 e6) fun _ _ x=>x.from e3 e5 e6
 ·exact wpAny_mono (iha _ h2 F c1 m s1 Q X e2 (FR.ext e3) e1) (fun _ _ x=>x.from e3 e5 e6) fun _ _ x=>x.from e3 e5 e6
theorem Qe {x:Stmt} (h:okS sc .brk x=true):SS K R .brk x:=
 UJ.el (fun _ _ F c m _ _ _ I FR hw=>wpAny_Break ⟨.brk,F,c,m,.brk,hw,I,FR,.refl,rfl,rfl⟩) h
theorem Ul {x:Stmt} (h:okS sc .cont x=true):SS K R .cont x:=
 UI.el (fun _ _ F c m _ _ _ I FR hw=>wpAny_Continue ⟨.cont,F,c,m,.cont,hw,I,FR,.refl,rfl,rfl⟩) h
end
section
variable {M:Model} {A:Around} {E:Value→Shared→Prop} {s:Shared}
theorem uM {base:Heap} {l:List Env} {e L:Addr} {cls a0:Value} {Q:Unit→Shared→Prop} (hh:Heap.HeldW base l e cls a0 L s.heap)
  (hQ:∀ h',Heap.HeldW base l e cls a0 L h'→s.heap.UpToSlots h'→Q () {s with heap:=h'}):wpAny M A (setFlight (.ref e) (some L)) Q E s:=by
 obtain ⟨f1,f2,f3,oe,vs,T,oT,ts,he,hcls,hd,h1,hnT,hTe,hT,hdT,h3⟩:=hh
 have hsz3:3 < ts.size:=(Array.getElem?_eq_some_iff.mp h3).1
 have other:∀ b,b≠T→(s.heap.update T (Obj.mapFields (·.setIfInBounds 3 ((some L:Option Addr).elim Value.none fun f=>rawInt f)))).get? b=s.heap.get? b:=
  fun b hb=>Heap.get?_update_other _ _ (Ne.symm hb)
 have noRecord:∀ b o,s.heap.get? b=some o→(∀ vs,o.data≠.fields vs)→b≠T:=fun b o hb hnf q=>by
  rw [q,hT] at hb;injection hb with hb;subst hb;exact hnf ts hdT
 unfold setFlight
 refine wpAny_bind (wpAny_field he hd h1 ?_)
 rw [if_pos (show (Value.ref T != Value.none)=true from by simp)]
 refine wpAny_setField hT hdT hsz3 (hQ _ ⟨fun b o hbo=>(other b fun q=>by rw [q,hnT] at hbo;cases hbo).trans (f1 b o hbo),f2,f3.of_keeps fun b o hb hnf=>⟨o,(other b (noRecord b o hb hnf)).trans hb,rfl⟩,?_⟩ fun b o hb hn=>⟨o.slots,(other b (noRecord b o hb hn)).trans hb⟩)
 exact ⟨oe,vs,T,_,_,(other e (Ne.symm hTe)).trans he,hcls,hd,h1,hnT,hTe,Heap.get?_update_self _ hT (Obj.isFreed_of_fields (Obj.data_mapFields hdT _)),Obj.data_mapFields hdT _,by simp [hsz3]⟩
end
noncomputable def XP.held (X:XP):XP:=fun md C F σ=>md=.held∧X .held C F σ
section
variable {K:Fc} {d:Nat} {c c':Cur} {s s':Shared} {X:XP} {e:Value}
theorem Gg {st:List Env} {b:Addr} (h:b∈frs st):b∈st.filterMap (·.frame):=h
theorem xO {g h h' h0:Heap} {st:List Env} {fk:List Addr} (ff:h.FunFrames g st) (u:h.UpToSlots h') (sl:yD fk h0 h) (al:y7 (frs st) fk h0 g) (stay:g.StaysIn h'):yD fk h0 h':=fun b hb o eo=>by
 by_cases z:b∈frs st
 ·obtain ⟨sl1,e1⟩:=sl b hb o eo
  obtain ⟨_,o2,e2,n2⟩:=ff.mem (Gg z)
  rw [e1] at e2;cases e2
  obtain ⟨sl2,e3⟩:=u b _ e1 n2
  exact ⟨sl2,e3⟩
 ·obtain ⟨sl1,e1⟩:=al.2 b hb z o eo
  exact ⟨sl1,stay _ _ e1⟩
theorem gj (FO:FOk K d) (x:K.LXS c s (XP.loop X) e s') {E:Value→Shared→Prop} {M:Model}:
  wpAny M K.A (noteFrame e K.env) (fun _=>K.LXS c s X.held e) E s':=by
 obtain ⟨C,md,ea,F,m',c',rfl,e2,e3,e4,e5,e6,e7,e8,e9,e10,e11⟩:=x
 obtain ⟨outs,ht⟩:=FO.top
 cases md with
 | made=>exact e2.elim
 | fly=>
  obtain ⟨a0,fl⟩:=e3
  have ff:=fl.2.2.1
  rw [ht] at fl
  refine wpAny_looks_onW (ht▸FO.frames) FO.fr fl fun h' hh u=>?_
  rw [← ht] at hh
  exact ⟨C,.held,ea,F,m',c',rfl,⟨rfl,e2⟩,⟨a0,hh⟩,e4,e5,e6,xO ff u e7 e6 hh.1,u.ns e8,e9,e10,e11⟩
 | held=>
  obtain ⟨a0,hh⟩:=e3
  exact wpAny_noteFrame_againW FO.fr hh.2.2.2 ⟨C,.held,ea,F,m',c',rfl,⟨rfl,e2⟩,⟨a0,hh⟩,e4,e5,e6,e7,e8,e9,e10,e11⟩
theorem qQ (FO:FOk K d) (x:K.LXS c s X.held e s') {M:Model}:cameBackBy M K.A K.env (K.LXS c s X) e s':=by
 obtain ⟨C,md,ea,F,m',c',rfl,⟨rfl,e2⟩,⟨a0,hh⟩,e4,e5,e6,e7,e8,e9,e10,e11⟩:=x
 have ff:=hh.2.2.1
 obtain ⟨f1,f2,f3,oe,vs,T,oT,ts,he,hcls,hd,h1,hnT,hTe,hT,hdT,h3⟩:=id hh
 unfold cameBackBy
 refine wpAny_bind (wpAny_field he hd h1 ?_)
 rw [if_neg (show ¬ ((Value.ref T==Value.none)=true) from Bool.false_ne_true)]
 rw [FO.fr]
 exact uM hh fun h' hh' u=>⟨C,.held,ea,F,m',c',rfl,e2,⟨a0,hh'⟩,e4,e5,e6,xO ff u e7 e6 hh'.1,u.ns e8,e9,e10,e11⟩
end
section
variable {K:Fc} {d:Nat} {R:Rel} {sc:List (Str×NameKind)} {c c':Cur} {m m':Str→Option Value} {s s':Shared} {F F':Frm}
theorem Fc.LX.loop {X:XP} {e:Value} {s':Shared} (FR:FrR K c m F) (x:K.LX c s m (fun C σ=>X .held C F σ) e s'):K.LXS c s X.loop e s':=by
 obtain ⟨C,a0,ea,c2,e1,e2,e3,e4,e5,ea',e6,e7,e8,e9⟩:=x
 exact ⟨C,.fly,ea,F,m,c2,e1,e2,⟨a0,e3⟩,e4,e5,ea',e6,e7,FR.core e5,e8,e9⟩
theorem qt {n:String} {mv:V}:∀ {k:Nat} {F:Frm},(F.take k).lookup n=some mv→F.lookup n=some mv
 | 0,_,h=>zL (List.take_zero▸h)
 | _+1,[],h=>h
 | k+1,p::F,h=>by
  rw [List.take_succ_cons,List.lookup_cons] at h
  rw [List.lookup_cons]
  revert h
  cases n==p.1
  ·exact qt
  ·exact id
theorem FrR.take {k:Nat} (FR:FrR K c m F):FrR K c m (F.take k):=fun n mv h=>FR n mv (qt h)
theorem Yr (FO:FOk K d) {X:XP} {e:Value} {s':Shared} (x:K.LXS c s X.loop e s'):notedBy (model pw K.w) K.A K.env (fun e s'=>cameBackBy (model pw K.w) K.A K.env (K.LXS c s X) e s') e s':=
 wpAny_mono (gj FO x (E:=fun e s'=>cameBackBy (model pw K.w) K.A K.env (K.LXS c s X) e s')) (fun _ _ y=>qQ FO y) fun _ _ y=>y
theorem Qa (FO:FOk K (d+1)) (hs:sc=K.env.scope.names) {t:E} {b:List S} {x:Stmt} (h:okS sc (.whl t b) x=true) (ihb:∀ y,jt sc b y=true→SSs K (RC d) b y):SS K (RC d) (.whl t b) x:=by
 refine UD.el (fun x y z pos h=>?_) h
 obtain ⟨h,h2⟩:=zb h
 obtain ⟨h0,h1⟩:=zb h
 rw [List.isEmpty_iff.mp h0]
 intro F c m s Q X I FR hw
 obtain ⟨Inv,n,k,i0,step⟩:=hw
 refine wpAny_While (codeAny_whileLoop (fun n s'=>∃ F' c' m',Inv n F' c'.σ∧K.In c' m' s'∧FrR K c' m' F'∧c.Ext K.fr K.fk c'∧s'.gens=s.gens∧s'.os=s.os) (fun n s1 h=>?_) n ⟨F.take k,c,m,i0,I,FR.take,.refl,rfl,rfl⟩)
 obtain ⟨F1,c1,m1,j1,I1,FR1,E1,g1,o1⟩:=h
 refine wpAny_mono ((zh t FO.toOk hs).2 _ h1 F1 c1 m1 s1 _ _ I1 FR1 (step n F1 c1.σ j1)) (fun b' s2 z'=>z'.el fun c2 e1 e2 e3 e5 e6=>?_) fun _ _ x=>Yr FO ((x.loop FR1).from E1 g1 o1)
 have FR2:=FR1.ext e3
 cases b' with
 | false=>exact wpAny_execs_nil ⟨.next,F1,c2,m1,.next,e1,e2,FR2,E1.trans e3,e5.trans g1,e6.trans o1⟩
 | true=>
  refine wpAny_mono (ihb _ h2 F1 c2 m1 s2 (Lq Inv n Q) X.loop e2 FR2 e1) (fun f s3 z'=>z'.el fun fl F3 c3 m3 k0 k1 k2 k3 k4 k5 k6=>?_) fun _ _ x=>Yr FO ((x.from e3 e5 e6).from E1 g1 o1)
  have E3:=(E1.trans e3).trans k4
  have g3:=(k5.trans e5).trans g1
  have o3:=(k6.trans e6).trans o1
  have again:(∃ n' k,n' < n∧Inv n' (F3.take k) c3.σ)→∃ n',n' < n∧∃ F' c' m',Inv n' F' c'.σ∧K.In c' m' s3∧FrR K c' m' F'∧c.Ext K.fr K.fk c'∧s3.gens=s.gens∧s3.os=s.os:=fun k1=>by
   obtain ⟨n',k,hn,j⟩:=k1
   exact ⟨n',hn,F3.take k,c3,m3,j,k2,k3.take,E3,g3,o3⟩
  cases k0 with
  | next=>exact again k1
  | cont=>exact again k1
  | brk=>exact ⟨.next,F3,c3,m3,.next,k1,k2,k3,E3,g3,o3⟩
  | ret r=>exact ⟨_,F3,c3,m3,.ret r,k1,k2,k3,E3,g3,o3⟩
end
section
variable {K:Fc} {d:Nat} {R:Rel} {sc:List (Str×NameKind)} {c c':Cur} {m m':Str→Option Value} {s s':Shared} {F F':Frm} {X:XP}
theorem yJ {a b:Addr} (hb:b∈K.fr):b∈(K.add a).fr:=by
 rcases List.mem_cons.mp hb with rfl | hb
 ·exact .head _
 ·exact .tail _ (.tail _ hb)
theorem JO {a b:Addr} (hb:b∈(K.add a).fr):b∈K.fr∨b=a:=by
 rcases List.mem_cons.mp hb with rfl | hb
 ·exact .inl (.head _)
 ·rcases List.mem_cons.mp hb with rfl | hb
  ·exact .inr rfl
  ·exact .inl (.tail _ hb)
theorem FOk.add (FO:FOk K d) (a:Addr):FOk (K.add a) d:=⟨FO.toOk.add a,FO.top,FO.fr⟩
theorem FrR.less {a:Addr} (x:FrR (K.add a) c m F):FrR K c m F:=fun n mv h=>by
 obtain ⟨v,p,q⟩:=x n mv h
 exact ⟨v,p,RV.mono (Nat.le_refl _) (fun _ _=>rfl) (fun b o e nn=>⟨e,fun z=>nn (Mut.sub (fun _ h=>yJ h) z)⟩) q⟩
theorem In.less {a:Addr} (I:(K.add a).In c m s) (sub:∀ b∈frs K.st,b∈K.fr):K.In c m s:=
 ⟨I.heap,WS.less I.ws fun _ h=>yJ h,I.ns,I.stk,sub,fun z=>I.apart (.tail _ z),fun b hb=>I.there b (yJ hb)⟩
theorem Ext.lessK {a:Addr} (E:c.Ext K.fr K.fk c') {c2:Cur} (E2:c'.Ext (K.add a).fr (K.add a).fk c2) (ha:c.h.get? a=none):c.Ext K.fr K.fk c2:=
 Ext.leave E E2 (fun _ h=>yJ h) (fun b hb=>(JO hb).imp id (fun (z:b=a)=>z▸ha)) fun b hb=>.tail _ hb
theorem xu.leave {fr fk fr₁:List Addr} {σ₀ σ σ':St} {ρ₀ ρ ρ':Loc→Addr×Addr} {h₀ h h':Heap} (E₀:Ext fr fk σ₀ ρ₀ h₀ σ ρ h) (E:xu fr₁ σ ρ h σ' ρ' h') (k:∀ a∈fr,a∈fr₁) (n:∀ a∈fr₁,a∈fr∨h₀.get? a=none):xu fr σ₀ ρ₀ h₀ σ' ρ' h':=by
 refine ⟨Nat.le_trans E₀.nx E.nx,fun l hl=>(E.ag l (Nat.lt_of_lt_of_le hl E₀.nx)).trans (E₀.ag l hl),fun b o e m=>?_,fun a x=>?_⟩
 ·obtain ⟨e1,m1⟩:=E₀.sound b o e m
  refine E.keep b o e1 fun x=>?_
  rcases x with x | x
  ·exact m1 (.inl x)
  ·rcases n b x with x | x
   ·exact m1 (.inr x)
   ·rw [x] at e;cases e
 ·have later:h.get? a=none→Mut σ₀ ρ₀ fr a∨h₀.get? a=none:=fun q=>by
   by_cases z:Mut σ₀ ρ₀ fr a
   ·exact .inl z
   ·refine .inr ?_
    cases e:h₀.get? a with
    | none=>rfl
    | some o=>rw [E₀.keep a o e z] at q;cases q
  rcases E.mt a (x.sub k) with y | y
  ·rcases y with y | y
   ·exact E₀.mt a (.inl y)
   ·rcases n a y with y | y
    ·exact .inl (.inr y)
    ·exact .inr y
  ·exact later y
theorem Fc.LXS.out {a:Addr} {e:Value} {s'':Shared} (x:(K.add a).LXS c' s' X e s'') (E:c.Ext K.fr K.fk c') (g:s'.gens=s.gens) (o:s'.os=s.os) (ha:c.h.get? a=none):K.LXS c s X e s'':=by
 obtain ⟨C,md,ea,F,m2,c2,e1,e2,e3,e4,e5,e6,e7,e8,e9,e10,e11⟩:=x
 have ex:ExS K c2.h ea C s''.heap md:=by cases md <;> exact e3
 exact ⟨C,md,ea,F,m2,c2,e1,e2,ex,WS.less e4 fun _ h=>yJ h,xu.leave E e5 (fun _ h=>yJ h) (fun b hb=>(JO hb).imp id (fun (z:b=a)=>z▸ha)),
  y7.before ⟨e6.1,fun b hb=>e6.2 b (.tail _ hb)⟩ E,yD.trans E.frk fun b hb=>e7 b (.tail _ hb),e8,FrR.less e9,e10.trans g,e11.trans o⟩
end
structure HI (K1:Fc) (it:Addr) (vs:List V) (It:Heap→Nat→Prop) (av:Value) (amv:V) (keep:St→Prop):Prop where
 data:∀ h j,It h j→∃ o f,h.get? it=some o∧o.data=.fields f
 same:∀ h h' j,It h j→(∀ o,h.get? it=some o→∃ sl,h'.get? it=some {o with slots:=sl})→It h' j
 next:∀ (c:Cur) (m:Str→Option Value) (s:Shared) (j:Nat) (hj:j < vs.length),K1.In c m s→c.RV K1.fr av amv→keep c.σ→It s.heap j→∀ {Q:Option Value→Shared→Prop} {E:Value→Shared→Prop},
  (∀ h' y tk,It h' (j+1)→Heap.SameBut it s.heap h'→c.RV K1.fr y vs[j]→Q (some y) {s with heap:=h',toks:=tk})→wpAny (model pw K1.w) K1.A (pyNext (.ref it)) Q E s
 last:∀ (c:Cur) (m:Str→Option Value) (s:Shared) (j:Nat),vs.length≤j→K1.In c m s→c.RV K1.fr av amv→keep c.σ→It s.heap j→∀ {Q:Option Value→Shared→Prop} {E:Value→Shared→Prop},
  (∀ h',Heap.ExtBut it s.heap h'→Q none {s with heap:=h'})→wpAny (model pw K1.w) K1.A (pyNext (.ref it)) Q E s
section
variable {K:Fc} {d:Nat} {R:Rel} {sc:List (Str×NameKind)} {c c':Cur} {m m':Str→Option Value} {s s':Shared} {F F':Frm} {X:XP}
theorem In.stepG (I:K.In c m s) {it:Addr} (hit:it∈K.fk) {h':Heap} (x:∃ o f,s.heap.get? it=some o∧o.data=.fields f) (x':∃ o f,h'.get? it=some o∧o.data=.fields f) (hs:Heap.SameBut it s.heap h') (tk:Nat):
  K.In ⟨c.σ,c.ρ,h'⟩ m {s with heap:=h',toks:=tk}∧(∀ {v mv},c.RV K.fr v mv→Cur.RV K.fr ⟨c.σ,c.ρ,h'⟩ v mv):=by
 have hs':Heap.SameBut it c.h h':=I.heap▸hs
 obtain ⟨o,vs,e1,e2⟩:=x
 obtain ⟨o',vs',e1',e2'⟩:=x'
 have ne:K.N≠it:=fun z=>I.apart (z▸hit)
 refine ⟨⟨rfl,WS.turn I.ws (.tail _ hit) hs',I.ns.sameBut hs ne,fun e he=>?_,I.sub,I.apart,fun b hb=>?_⟩,fun r=>RV.mono (Nat.le_refl _) (fun _ _=>rfl) (fun b o e n=>⟨(hs'.2 b fun z=>n (z▸.inr (.tail _ hit))).trans e,n⟩) r⟩
 rotate_left
 ·by_cases z:b=it
  ·exact ⟨o',z▸e1'⟩
  ·obtain ⟨q,e⟩:=I.there b hb
   exact ⟨q,(hs'.2 b z).trans e⟩
 ·obtain ⟨p1,L,o2,q1,q2,q3⟩:=I.stk e he
  by_cases z:L=it
  ·subst z;rw [e1] at q2;cases q2;exact absurd e2 (q3 _)
  ·exact ⟨p1,L,o2,q1,(hs.2 L z).trans q2,q3⟩
theorem UK {a:Addr} {v:Value} {mv:V} (r:c.RV (K.add a).fr v mv):c.RV K.fr v mv:=
 RV.mono (Nat.le_refl _) (fun _ _=>rfl) (fun b o e nn=>⟨e,fun z=>nn (Mut.sub (fun _ h=>yJ h) z)⟩) r
theorem UR {n:String} {t:Expr} (h:nmT sc n t=true):∃ p,t=.Name (Str.ofString n) p∧(Str.ofString n==("__debug__":Str))=false∧sc.lookup (Str.ofString n)=some .local:=
 yK.el (P:=fun t=>∃ p,t=.Name (Str.ofString n) p∧(Str.ofString n==("__debug__":Str))=false∧sc.lookup (Str.ofString n)=some .local) (fun s p h=>by
  obtain ⟨e,h2,h3⟩:=zF h
  rw [e] at h2 h3
  exact ⟨p,congrArg (fun s=>Expr.Name s p) e,h2,h3⟩) h
noncomputable def Fc.At (K:Fc) (c:Cur) (s:Shared) (it:Addr) (vs:List V) (It:Heap→Nat→Prop) (av:Value) (amv:V) (keep:St→Prop) (W:List V→Frm→St→Prop) (n:Nat) (s':Shared):Prop:=
 ∃ c' m' F' j,n=vs.length - j∧j≤vs.length∧(K.add it).In c' m' s'∧FrR (K.add it) c' m' F'∧It s'.heap j∧c.Ext K.fr K.fk c'∧s'.gens=s.gens∧s'.os=s.os∧c'.RV (K.add it).fr av amv∧keep c'.σ∧W (vs.drop j) F' c'.σ
theorem YD (FO:FOk K (d+1)) (hs:sc=K.env.scope.names) {n:String} {b:List S} {t:Expr} {y:List Stmt} (ht:nmT sc n t=true) (h2:jt sc b y=true) (ihb:∀ K':Fc,FOk K' (d+1)→K'.env=K.env→SSs K' (RC d) b y)
  {it:Addr} {vs:List V} {It:Heap→Nat→Prop} {av:Value} {amv:V} {keep:St→Prop} {Q:Fl→Frm→St→Prop} (T:HI (K.add it) it vs It av amv keep) (itn0:c.h.get? it=none) (sub:∀ b∈frs K.st,b∈K.fr) (itn:it∉K.fr)
  (c1:Cur) (m1:Str→Option Value) (s1:Shared) (I1:(K.add it).In c1 m1 s1) (FR1:FrR (K.add it) c1 m1 F) (x1:It s1.heap 0) (E1:c.Ext K.fr K.fk c1) (g1:s1.gens=s.gens) (o1:s1.os=s.os) (rv1:c1.RV (K.add it).fr av amv) (v1:keep c1.σ)
  (w1:vu (fun F' Q' σ'=>jv (RC d) b F' Q' X.loop σ') (yn [n]) keep Q vs F c1.σ):
  codeAny (model pw K.w) K.A (.forLoop t (.ref it) y [] K.env) (fun r s'=>match r with | .ok f=>K.LF c s Q f s' | .error e=>cameBackBy (model pw K.w) K.A K.env (K.LXS c s X) e s') s1:=by
 obtain ⟨pos,et,h3,h4⟩:=UR ht
 rw [et]
 have itf:it∈(K.add it).fk:=.head _
 refine codeAny_forLoop (K.At c s it vs It av amv keep (vu (fun F' Q' σ'=>jv (RC d) b F' Q' X.loop σ') (yn [n]) keep Q)) ?_ (vs.length - 0) ⟨c1,m1,F,0,rfl,Nat.zero_le _,I1,FR1,x1,E1,g1,o1,rv1,v1,w1⟩ (fun _=>rfl)
 intro n' s' h
 obtain ⟨c',m',F',j,ej,hj,I',FR',x',E',g',o',rv',v',w'⟩:=h
 rw [ej]
 by_cases hjl:j < vs.length
 ·have hd:vs.drop j=vs[j]::vs.drop (j+1):=List.drop_eq_getElem_cons hjl
  rw [hd] at w'
  refine T.next c' m' s' j hjl I' rv' v' x' fun h1 z tk x2 hs1 rz=>?_
  obtain ⟨I2,r2⟩:=In.stepG I' itf (T.data _ _ x') (T.data _ _ x2) hs1 tk
  have hs1':Heap.SameBut it c'.h h1:=I'.heap▸hs1
  have E2:c.Ext K.fr K.fk ⟨c'.σ,c'.ρ,h1⟩:=Ext.later E' itn0 hs1'
  have FR2:FrR (K.add it) ⟨c'.σ,c'.ρ,h1⟩ m' F':=fun k mv h=>by
   obtain ⟨v,p,q⟩:=FR' k mv h
   exact ⟨v,p,r2 q⟩
  refine wpAny_assign_Name (wpAny_mono (wI (FO.add it).toOk I2 FR2 (r2 rz) (zy hs h4)) (fun _ s3 z'=>z'.el fun c3 m3 q1 I3 FR3 E3 g3 o3=>?_) fun _ _ x=>x)
  have E3':c.Ext K.fr K.fk c3:=Ext.lessK E2 E3 itn0
  refine wpAny_mono (ihb (K.add it) (FO.add it) rfl (yo n vs[j] F') c3 m3 s3 _ _ I3 FR3 (q1▸w')) (fun f s4 z'=>z'.el fun fl F4 c4 m4 k0 k1 k2 k3 k4 k5 k6=>?_) fun _ _ x=>?_
  ·have E4:c.Ext K.fr K.fk c4:=Ext.lessK E3' k4 itn0
   have g4:=(k5.trans g3).trans g'
   have o4:=(k6.trans o3).trans o'
   have again:(∃ k,keep c4.σ∧vu (fun F' Q' σ'=>jv (RC d) b F' Q' X.loop σ') (yn [n]) keep Q (vs.drop (j+1)) (F4.take k) c4.σ)→∃ mm,mm < vs.length - j∧K.At c s it vs It av amv keep (vu (fun F' Q' σ'=>jv (RC d) b F' Q' X.loop σ') (yn [n]) keep Q) mm s4:=fun q=>by
    obtain ⟨k,q1,q2⟩:=q
    refine ⟨vs.length - (j+1),Nat.sub_lt_sub_left hjl (Nat.lt_succ_self j),c4,m4,F4.take k,j+1,rfl,hjl,k2,k3.take,?_,E4,g4,o4,k4.rv (E3.rv (r2 rv')),q1,q2⟩
    rw [k2.heap]
    exact T.same _ _ _ x2 fun o q=>(E3.trans k4).frk it itf o q
   cases k0 with
   | next=>exact again k1
   | cont=>exact again k1
   | brk=>exact ⟨.next,F4,c4,m4,.next,k1,In.less k2 sub,FrR.less k3,E4,g4,o4⟩
   | ret r=>exact ⟨_,F4,c4,m4,.ret (UK r),k1,In.less k2 sub,FrR.less k3,E4,g4,o4⟩
  ·refine wpAny_mono (gj (FO.add it) x (E:=fun e s'=>cameBackBy (model pw K.w) K.A K.env (K.LXS c s X) e s')) (fun _ _ y=>?_) fun _ _ y=>y
   exact qQ FO (y.out E3' ((g3.trans g')) (o3.trans o') itn0)
 ·have hjv:j=vs.length:=Nat.le_antisymm hj (Nat.not_lt.mp hjl)
  refine T.last c' m' s' j (Nat.not_lt.mp hjl) I' rv' v' x' fun h1 hs1=>?_
  rw [hjv,List.drop_length] at w'
  refine wpAny_execs_nil ?_
  have heq:=I'.heap
  have keepg:∀ b o,b∉[it]→c'.h.get? b=some o→h1.get? b=some o:=fun b o nb q=>hs1 b o (fun z=>nb (z▸.head _)) (heq▸q)
  have gone:∀ b∈[it],b∉K.fr:=fun b hb=>by
   cases List.mem_singleton.mp hb;exact itn
  have Wf:WS K.w c'.σ c'.ρ K.fr h1:=WS.leaves I'.ws (fun _ h=>yJ h) [it] (fun b hb=>by cases List.mem_singleton.mp hb;exact .tail _ itf) gone keepg
  have Ef:c.Ext K.fr K.fk ⟨c'.σ,c'.ρ,h1⟩:=Ext.laters E' [it] (fun b hb=>by cases List.mem_singleton.mp hb;exact itn0) keepg
  have ne:∀ b∈K.fr,b∉[it]:=fun b hb z=>gone b z hb
  refine ⟨.next,F',⟨c'.σ,c'.ρ,h1⟩,m',.next,w',⟨rfl,Wf,I'.ns.at fun o q=>keepg _ o (ne _ (.head _)) (heq▸q),fun p hp=>?_,sub,fun z=>I'.apart (.tail _ z),fun b hb=>?_⟩,fun k mv h=>?_,Ef,g',o'⟩
  ·obtain ⟨p1,L,o,q1,q2,q3⟩:=I'.stk p hp
   exact ⟨p1,L,o,q1,keepg L o (ne _ (sub L (List.mem_filterMap.mpr ⟨p,hp,q1⟩))) (heq▸q2),q3⟩
  ·obtain ⟨o,q⟩:=I'.there b (yJ hb)
   exact ⟨o,keepg b o (ne b hb) q⟩
  ·obtain ⟨v,p,q⟩:=FR' k mv h
   exact ⟨v,p,RV.mono (Nat.le_refl _) (fun _ _=>rfl) (fun b o e nn=>⟨keepg b o (fun z=>nn (by cases List.mem_singleton.mp z;exact .inr (.tail _ itf))) e,fun z=>nn (Mut.sub (fun _ h=>yJ h) z)⟩) q⟩
end
noncomputable def GN (h:Heap) (it:Addr) (x left step:Int):Prop:=∃ sl,h.get? it=some {cls:=.type "range_iterator",dict:=none,data:=.fields #[rawInt x,rawInt left,rawInt step],slots:=sl}
section
variable {prog:Program} {w:World} {A:Around} {E:Value→Shared→Prop} {s:Shared}
theorem UL {it:Addr} {x left step:Int} {Q:Option Value→Shared→Prop} (H:GN s.heap it x left step) (hleft:0 < left)
  (hQ:∀ h' tk t,GN h' it (x+step) (left - 1) step→Heap.SameBut it s.heap h'→Q (some (.int x t)) {s with heap:=h',toks:=tk}):
  wpAny (model prog w) A (pyNext (.ref it)) Q E s:=by
 obtain ⟨sl,hit⟩:=H
 have hT:s.TypeIs (.ref it) "range_iterator":=⟨_,hit,rfl⟩
 unfold pyNext
 refine wpAny_bind (wpAny_attempt (wpAny_callSpecial?_slot (name:=Str.ofString "__next__") hT F.slot_range_iterator_next
  (wpAny_call_entry F.slot_range_iterator_next hT F.entry_range_iterator_next ?_ (F.args_range_iterator_next_1 _))))
 show wpAny _ _ (field (.ref it) 0 >>= _) _ _ s
 refine wpAny_bind (wpAny_field hit rfl (x:=rawInt x) rfl ?_)
 show wpAny _ _ (field (.ref it) 1 >>= _) _ _ s
 refine wpAny_bind (wpAny_field hit rfl (x:=rawInt left) rfl ?_)
 show wpAny _ _ (field (.ref it) 2 >>= _) _ _ s
 refine wpAny_bind (wpAny_field hit rfl (x:=rawInt step) rfl ?_)
 show wpAny _ _ (if left≤0 then _ else _) _ _ s
 rw [if_neg (by omega)]
 dsimp only
 refine wpAny_bind (wpAny_setField hit rfl (by simp) ?_)
 have h1:=Heap.get?_update_self (Obj.mapFields (·.setIfInBounds 0 (rawInt (x+step)))) hit rfl
 refine wpAny_bind (wpAny_setField h1 rfl (by simp) ?_)
 have h2:=Heap.get?_update_self (Obj.mapFields (·.setIfInBounds 1 (rawInt (left - 1)))) h1 rfl
 refine wpAny_bind (wpAny_mkInt (wpAny_pure ?_))
 exact ⟨_,rfl,wpAny_pure (hQ _ _ _ ⟨sl,h2⟩ ((Heap.SameBut.update ..).trans (Heap.SameBut.update ..)))⟩
theorem Qx {it:Addr} {x left step:Int} {Q:Option Value→Shared→Prop} (hh:A.handled=none) (H:GN s.heap it x left step) (hleft:left≤0)
  (hQ:∀ h',Heap.ExtBut it s.heap h'→Q none {s with heap:=h'}):wpAny (model prog w) A (pyNext (.ref it)) Q E s:=by
 obtain ⟨sl,hit⟩:=H
 have hT:s.TypeIs (.ref it) "range_iterator":=⟨_,hit,rfl⟩
 unfold pyNext
 refine wpAny_bind (wpAny_attempt (wpAny_callSpecial?_slot (name:=Str.ofString "__next__") hT F.slot_range_iterator_next
  (wpAny_call_entry F.slot_range_iterator_next hT F.entry_range_iterator_next ?_ (F.args_range_iterator_next_1 _))))
 show wpAny _ _ (field (.ref it) 0 >>= _) _ _ s
 refine wpAny_bind (wpAny_field hit rfl (x:=rawInt x) rfl ?_)
 show wpAny _ _ (field (.ref it) 1 >>= _) _ _ s
 refine wpAny_bind (wpAny_field hit rfl (x:=rawInt left) rfl ?_)
 show wpAny _ _ (field (.ref it) 2 >>= _) _ _ s
 refine wpAny_bind (wpAny_field hit rfl (x:=rawInt step) rfl ?_)
 show wpAny _ _ (if left≤0 then _ else _) _ _ s
 rw [if_pos hleft]
 refine wpAny_bind (wpAny_rule ?_)
 refine wpAny_bind ?_
 show wpAny _ _ (newExc (.type "StopIteration") [] >>= _) _ _ _
 refine wpAny_bind ?_
 simp only [newExc,newTuple]
 refine wpAny_bind (wpAny_newObj_type ?_ (by size_fits))
 refine wpAny_bind (m:=firstArgMember _ _) (wpAny_of_eq (a:=Value.none) (by first | rfl | (simp only [firstArgMember];rfl)) ?_)
 refine wpAny_newObj_type ?_ (by size_fits)
 simp only [raiseNew]
 refine wpAny_bind (wpAny_handled ?_)
 first | rw [show A.in1.handled=none from hh] | rw [hh]
 refine wpAny_bind (wpAny_pure (wpAny_throw ?_))
 refine wpAny_bind (wpAny_isInstance (T:="StopIteration") (b:=true) ⟨_,Heap.get?_push_size _ rfl,rfl⟩ isSubtype_stop ?_)
 exact wpAny_pure (hQ _ (((Heap.ExtBut.refl it s.heap).push _).push _))
end
section
variable {K:Fc} {d:Nat} {sc:List (Str×NameKind)} {c c':Cur} {m m':Str→Option Value} {s s':Shared} {F F':Frm}
theorem G4 (hh:K.A.handled=none) {it a:Addr} {vs:List V} {mv:V}:HI (K.add it) it vs (fun h j=>y3 h it a (yG mv) j) (.ref a) mv (fun σ=>zX σ mv=some vs) where
 data h j x:=x.data
 same h h' j x e:=x.same e
 next c m s j hj I rv hv x Q E q:=by
  obtain ⟨a',items,ea,hit,hrv⟩:=jE I rv hv
  cases ea
  obtain ⟨y,hy,ry⟩:=hrv.get (List.getElem?_eq_getElem hj)
  exact qD x hit (by rw [← Array.getElem?_toList];exact hy) fun h1 x2 hs1=>q h1 y s.toks x2 hs1 ry
 last c m s j hj I rv hv x Q E q:=by
  obtain ⟨a',items,ea,hit,hrv⟩:=jE I rv hv
  cases ea
  have hln:vs.length=items.size:=by have:=hrv.len;rw [Array.length_toList] at this;exact this.symm
  exact Yv hh x hit (by rw [← Array.getElem?_toList,List.getElem?_eq_none];rw [Array.length_toList];omega) q
noncomputable def JS (n:Nat):List V:=(List.range n).map fun (j:Nat)=>V.int (j:Int)
theorem QX (hh:K.A.handled=none) {it:Addr} {n:Nat}:HI (K.add it) it (JS n) (fun h j=>GN h it (j:Int) ((n:Int) - j) 1) .none .none (fun _=>True) where
 data h j x:=x.elim fun sl e=>⟨_,_,e,rfl⟩
 same h h' j x e:=by
  obtain ⟨sl,x⟩:=x
  obtain ⟨sl',y⟩:=e _ x
  exact ⟨sl',y⟩
 next c m s j hj I rv hv x Q E q:=by
  have hj':j < n:=by simpa [JS] using hj
  refine UL x (by omega) fun h' tk t x2 hs=>q h' _ tk ?_ hs ?_
  ·have e1:((j+1:Nat):Int)=(j:Int)+1:=by push_cast;rfl
   have e2:(n:Int) - ((j+1:Nat):Int)=(n:Int) - j - 1:=by push_cast;omega
   rw [e1,← e1,e2,e1]
   exact x2
  ·have:(JS n)[j]=V.int (j:Int):=by simp [JS]
   rw [this]
   exact .int _ _
 last c m s j hj I rv hv x Q E q:=by
  have hj':n≤j:=by simpa [JS] using hj
  exact Qx hh x (by omega) q
theorem Ve {it:Addr} {c2:Cur} (FR:FrR K c m F) (r:∀ {v mv},c.RV K.fr v mv→c2.RV (K.add it).fr v mv):FrR (K.add it) c2 m F:=fun k mv h=>by
 obtain ⟨v,p,q⟩:=FR k mv h
 exact ⟨v,p,r q⟩
theorem qu (I:K.In c m s) {it:Addr} (e:c.h.get? it=none):it∉K.fr:=fun z=>by
 obtain ⟨o,q⟩:=I.there _ z
 rw [e] at q;cases q
theorem Uj (FO:FOk K (d+1)) (hs:sc=K.env.scope.names) {n:String} {it:E} {b:List S} {x:Stmt} (h:okS sc (.forr n it b) x=true) (ihb:∀ y,jt sc b y=true→∀ K':Fc,FOk K' (d+1)→K'.env=K.env→SSs K' (RC d) b y):SS K (RC d) (.forr n it b) x:=by
 refine JY.el (fun t i y z pos h=>?_) h
 obtain ⟨h,h3⟩:=zb h
 obtain ⟨h,h2⟩:=zb h
 obtain ⟨h0,h1⟩:=zb h
 rw [List.isEmpty_iff.mp h0]
 intro F c m s Q X I FR hw
 refine wpAny_For (wpAny_mono ((zh it FO.toOk hs).1 _ h2 F c m s _ _ I FR hw) (fun v s1 z'=>z'.el fun mv c1 e1 e2 e3 e4 e5 e6=>?_) fun _ _ x=>x.stm FR) (fun x=>WC h2 K.env x)
 obtain ⟨vs,hvs,e1⟩:=zd e1
 obtain ⟨a,items,ev,hit,hrv⟩:=jE e2 e4 hvs
 rw [ev] at e4 ⊢
 have itn:c1.h.get? s1.heap.objs.size=none:=e2.heap▸zA
 obtain ⟨I2,r2,E2⟩:=In.add e2 (fun b o q=>Heap.get?_push_of_some _ (e2.heap▸q)) itn ⟨jV (yG mv) a,Heap.get?_push_size _ (by cases yG mv <;> rfl)⟩ s1.toks
 exact Jw hit (YD FO hs h1 h3 (ihb _ h3) (G4 FO.hand) (e3.fresh itn) e2.sub (qu e2 itn) ⟨c1.σ,c1.ρ,_⟩ m _ I2 (Ve (FR.ext e3) r2) gw (e3.trans E2) e5 e6 (r2 e4) hvs e1)
theorem N6 {iv:Int} (h:0≤iv):Builtin.Range.rangeSize 0 iv 1=iv:=by
 rw [rangeSize_one]
 split <;> omega
theorem Uk (FO:FOk K (d+1)) (hs:sc=K.env.scope.names) {n:String} {cnt:E} {b:List S} {x:Stmt} (h:okS sc (.forR n cnt b) x=true) (ihb:∀ y,jt sc b y=true→∀ K':Fc,FOk K' (d+1)→K'.env=K.env→SSs K' (RC d) b y):SS K (RC d) (.forR n cnt b) x:=by
 refine JY.el (fun t i y z pos h=>?_) h
 obtain ⟨h,h3⟩:=zb h
 obtain ⟨h,h2⟩:=zb h
 obtain ⟨h0,h1⟩:=zb h
 rw [List.isEmpty_iff.mp h0]
 refine jf.el (P:=fun i=>SS K (RC d) (.forR n cnt b) (.For t i y [] pos)) (fun S q xs p hn h=>?_) h2
 refine yE.el (P:=fun xs=>SS K (RC d) (.forR n cnt b) (.For t (.Call (.Name S q) xs [] p) y [] pos)) (fun x hx=>?_) h
 intro F c m s Q X I FR hw
 obtain ⟨e,h4,h5⟩:=zF hn
 obtain ⟨b1,b2⟩:=zb (List.all_eq_true.mp (ZO K.w.params) ("range",.type "range") (zz (by unfold bis;rfl)))
 refine wpAny_For (ux (es:=[cnt]) hs hn (show wy sc [cnt] [x]=true from Bool.and_eq_true_iff.mpr ⟨hx,rfl⟩) (fun e he y hy=>by rw [List.mem_singleton.mp he] at hy;exact List.mem_singleton.mp he▸(zh cnt FO.toOk hs).1 y hy) I FR (QL:=fun vs σ=>op (one vs) fun v=>op (asI v) fun i=>0≤i∧i < 1000∧vu (fun F' Q' σ'=>jv (RC d) b F' Q' X.loop σ') (yn [n]) (fun _=>True) Q (JS i.toNat) F σ) hw
  (fun p=>Name_function_global FO.kind (zy hs h5) (loadGlobal_builtin (In.gns FO.toOk I) (e▸zH b1) (In.bns FO.toOk I) (e▸zH b2) p) h4) (H:=fun _=>True)
  (fun h _=>⟨.machine,.inr (.inl rfl),Looks.of_pure rfl⟩) (fun _ _ _ _ _=>trivial) (fun _ _ x=>x.stm FR) fun {c1 s1 vs mvs} I1 e3 e4 e1 e5 e6=>?_) (fun x=>rfl)
 obtain ⟨v,hv,e1⟩:=zd e1
 obtain ⟨iv,hi,p1,p2,w1⟩:=zd e1
 obtain ⟨u,eu,r⟩:=RVs.one e4 hv
 obtain ⟨tk,ei⟩:=r.i hi
 rw [eu,ei]
 refine call_range_1 ?_
 obtain ⟨I1,E1⟩:=I1.grow (h':=s1.heap.push {cls:=.type "range",data:=.fields #[.int 0 s1.toks,.int iv tk,.int 1 (s1.toks+1)]}) (fun b o q=>Heap.get?_push_of_some _ (I1.heap▸q)) (s1.toks+1+1)
 refine wpAny_pyIter_range (IsRange.new s1.heap 0 iv 1 _ _ _) (small_one (by decide) (by decide) (Int.le_trans (by decide) p1) (Int.lt_trans p2 (by decide))) ?_
 rw [N6 p1]
 generalize s1.heap.push {cls:=.type "range",data:=.fields #[.int 0 s1.toks,.int iv tk,.int 1 (s1.toks+1)]}=hp at I1 E1 ⊢
 obtain ⟨I2,r2,E2⟩:=In.add I1 (a:=hp.objs.size) (h':=hp.push {cls:=.type "range_iterator",data:=.fields #[rawInt 0,rawInt iv,rawInt 1]}) (fun b o q=>Heap.get?_push_of_some _ q) zA ⟨_,Heap.get?_push_size _ rfl⟩ (s1.toks+1+1)
 have E01:=e3.trans E1
 refine YD FO hs h1 h3 (ihb _ h3) (QX (n:=iv.toNat) FO.hand) (Cur.Ext.fresh E01 zA) I1.sub (qu I1 zA) ⟨c1.σ,c1.ρ,_⟩ m _ I2 (Ve (FR.ext E01) r2) ⟨#[],?_⟩ (E01.trans E2) e5 e6 .none trivial w1
 rw [Int.toNat_of_nonneg p1,show iv - ((0:Nat):Int)=iv from Int.sub_zero iv]
 exact Heap.get?_push_size _ rfl
end
noncomputable def ZE:List String:=["ParseStop","TooDeep","HostFault"]
theorem Vi (P:Params):(ZE.all fun C=>(vz.lookup C).isSome&&ZE.all fun D=>exmOne (KF P) (.ref (CA C)) (.ref (CA D))==some (decide (C=D)))=true:=by kernel_rfl
theorem vx {C:String} (h:jk C=true):C∈ZE:=by
 unfold jk at h
 simp only [Bool.or_eq_true,beq_iff_eq] at h
 rcases h with (rfl | rfl) | rfl <;> simp [ZE]
theorem Gi (P:Params) {C D:String} (h:jk C=true) (h':jk D=true):exmOne (KF P) (.ref (CA C)) (.ref (CA D))=some (decide (C=D)):=by
 have:=List.all_eq_true.mp (Vi P) C (vx h)
 simp only [Bool.and_eq_true] at this
 have:=List.all_eq_true.mp this.2 D (vx h')
 exact beq_iff_eq.mp this
theorem Ju (P:Params) {C:String} (h:jk C=true):(vz.lookup C).isSome=true:=by
 have:=List.all_eq_true.mp (Vi P) C (vx h)
 simp only [Bool.and_eq_true] at this
 exact this.1
section
variable {K:Fc} {d:Nat} {sc:List (Str×NameKind)} {c c':Cur} {m m':Str→Option Value} {s s' s₀:Shared} {F F':Frm}
theorem Mz (I:K.In c m s) {ea:Addr} {cls a0:Value} (hf:Heap.FlyingW c'.h K.st ea cls a0 s'.heap) (W:c'.WS K.w K.fr) (x:xu K.fr c.σ c.ρ c.h c'.σ c'.ρ c'.h) (al:y7 (frs K.st) K.fk c.h c'.h) (sl:yD K.fk c.h s'.heap) (n:s'.heap.Ns K.N m'):
  K.In ⟨c'.σ,c'.ρ,s'.heap⟩ m' s'∧c.Ext K.fr K.fk ⟨c'.σ,c'.ρ,s'.heap⟩∧c'.Ext K.fr K.fk ⟨c'.σ,c'.ρ,s'.heap⟩:=by
 have k:∀ b o,c'.h.get? b=some o→s'.heap.get? b=some o:=hf.1
 have alive:∀ a o,c.h.get? a=some o→∃ o',s'.heap.get? a=some o':=fun a o e=>by
  by_cases z:a∈frs K.st
  ·rcases List.mem_cons.mp (I.sub a z) with rfl | q
   ·obtain ⟨o',_,_,e',_⟩:=n;exact ⟨o',e'⟩
   ·obtain ⟨sl',e'⟩:=sl a q o e;exact ⟨_,e'⟩
  ·obtain ⟨o',e'⟩:=al.1 a o e z;exact ⟨o',k _ _ e'⟩
 refine ⟨⟨rfl,WS.up W k,n,?_,I.sub,I.apart,fun b hb=>?_⟩,⟨x.nx,x.ag,fun b o e nn=>k b o (x.keep b o e nn),x.mt,fun b hb o e=>sl b hb o e,alive⟩,Ext.up k⟩
 ·exact (I.stk.upd I.sub n fun b hb o e=>sl b hb o (I.heap▸e))
 ·obtain ⟨o,e⟩:=I.there b hb;exact alive b o e
noncomputable def Fc.Caught (K:Fc) (c c':Cur) (C:String) (ea:Addr) (m':Str→Option Value) (s':Shared):Prop:=
 (∃ a0,Heap.FlyingW c'.h K.st ea (.ref (CA C)) a0 s'.heap)∧yD K.fk c.h s'.heap∧s'.heap.Ns K.N m'
theorem qL {v:V} {x:Const} {M:Model} {A:Around} {env:Env} {Q:Value→Shared→Prop} {E:Value→Shared→Prop} (h:okC v x=true) (q:∀ y tk,(∀ (K:Fc) (c:Cur),c.RV K.fr y v)→Q y {s with toks:=tk}):wpAny M A (constValue env x) Q E s:=
 okC.el (P:=fun v x=>(∀ y tk,(∀ (K:Fc) (c:Cur),c.RV K.fr y v)→Q y {s with toks:=tk})→wpAny M A (constValue env x) Q E s) (fun q=>wpAny_pure (q .none s.toks fun _ _=>.none)) (fun _ q=>wpAny_pure (q (.bool _) s.toks fun _ _=>.bool _)) (fun _ q _ _ _=>q _ _ fun _ _=>.int _ _) (fun _ q _ _ _=>q _ _ fun _ _=>.str _ _) h q
theorem KT (O:K.Ok (d+1)) (hs:sc=K.env.scope.names) {h:Hd} {b:List Stmt} (hb:okH sc h b=true) {Q:Fl→Frm→St→Prop} {A:Around} {E:Value→Shared→Prop} (I:K.In c m s) (FR:FrR K c m F):hdW h F Q c.σ→wpAny (model pw K.w) A (execs b K.env) (K.LF c s Q) E s:=by
 refine okH.el (P:=fun h b=>hdW h F Q c.σ→wpAny (model pw K.w) A (execs b K.env) (K.LF c s Q) E s) (fun n v S q' cc k p1 p2 hn hx q=>?_) (fun v cc k p1 p2 hx q=>?_) hb
 ·obtain ⟨e,h3,h4⟩:=zF hn
  rw [e] at h4 ⊢
  refine wpAny_execs_cons (wpAny_Assign_stores ?_ (jw _ _ _ _) rfl)
  refine qL hx fun y tk r=>?_
  refine wpAny_assign_Name (wpAny_storeName_local (zy hs h4) (O.loc▸I.ns) (fun h' hn hs'=>?_) (by rw [O.kind];rfl))
  rw [O.loc] at hn hs'
  obtain ⟨c2,m2,f1,f2,f3,f4,f5,f6⟩:=In.store O I FR (r K c) (h':=h') (tk:=tk+1) hn hs'
  exact wpAny_execs_nil ⟨.next,_,c2,m2,.next,f1▸q,f2,f3,f4,f5,f6⟩
 ·refine wpAny_execs_cons (wpAny_Return_some (qL hx fun y tk r=>?_))
  obtain ⟨mv,c2,f1,f2,f3,f4,f5,f6⟩:=I.stay (tk:=tk) (Q:=fun v σ=>Q (.ret v) F σ) q (r K c)
  exact ⟨.ret _,F,c2,m,.ret f4,f1,f2,FR.ext f3,f3,f5,f6⟩
theorem QH {h:Hd} {b:List Stmt} (hb:okH sc h b=true):b≠[]:=okH.el (P:=fun _ b=>b≠[]) (fun _ _ _ _ _ _ _ _ _ _ q=>nomatch q) (fun _ _ _ _ _ _ q=>nomatch q) hb
theorem H0 (FO:FOk K (d+1)) (hsc:sc=K.env.scope.names) (I:K.In c m s) {C:String} {ea:Addr} {Q:Fl→Frm→St→Prop} {X:XP} (W:c'.WS K.w K.fr) (x:xu K.fr c.σ c.ρ c.h c'.σ c'.ρ c'.h) (al:y7 (frs K.st) K.fk c.h c'.h) (FR:FrR K c' m' F) {h:Hd} (hC:jk C=true) (q:hdW h F Q c'.σ) {hs:List (String×Hd)}:
  ∀ {xs:List ExceptHandler},gi sc hs xs=true→hs.lookup C=some h→∀ {s':Shared},K.Caught c c' C ea m' s'→s'.gens=s.gens→s'.os=s.os→
   wpAny (model pw K.w) K.A (handleBy (.ref ea) K.env xs) (K.LF c s Q) (K.LXS c s X) s':=by
 induction hs with
 | nil=>exact fun _ hl=>zL hl
 | cons p hs ih=>
  intro xs ho hl s' ca g o
  refine gi.el (P:=fun xs=>wpAny (model pw K.w) K.A (handleBy (.ref ea) K.env xs) (K.LF c s Q) (K.LXS c s X) s') (fun S p' pos b xs hD hn hb ho=>?_) ho
  obtain ⟨⟨a0,fl⟩,sl,n⟩:=id ca
  obtain ⟨e,h2,h3⟩:=zF hn
  have ff:=fl.2.2.1
  obtain ⟨I1,E1,E1'⟩:=Mz I fl W x al sl n
  obtain ⟨b0,bs,eb⟩:=List.exists_cons_of_ne_nil (QH hb)
  rw [eb] at hb ⊢
  refine wpAny_handleBy_cons (codeAny_handlers_test ?_) (fun q=>nomatch q)
  refine Name_function_global FO.kind (zy hsc h3) (loadGlobal_global (In.gns FO.toOk I1) (e▸ZI (Ju K.w.params hD) _) ?_) h2
  have LT:Looks (model pw K.w) s'.heap (typeOf (.ref ea)) (.ref (CA C)):=by
   obtain ⟨oe,ws,e1,e2,_⟩:=fl.first
   exact e2▸(Looks.ld e1).andThen .now
  refine (exm_one (ua I1.ws.base) LT (Gi K.w.params hC hD)).here ?_
  by_cases z:C=p.1
  ·rw [decide_eq_true z]
   rw [List.lookup_cons,z,beq_self_eq_true] at hl
   rw [← Option.some.inj hl] at q
   refine codeAny_handlers_suite (lands_againW fl fun h6 fl6 u6=>?_)
   obtain ⟨I6,E6,E6'⟩:=Mz (s':={s' with heap:=h6}) I fl6 W x al (xO ff u6 sl al fl6.1) (u6.ns n)
   exact wpAny_mono (KT FO.toOk hsc hb I6 (FR.ext E6') q) (fun f s7 L=>L.from E6 g o) fun _ _ x=>x
  ·rw [decide_eq_false z]
   rw [List.lookup_cons,beq_eq_false_iff_ne.mpr z] at hl
   exact ih ho hl ca g o
end
theorem Ww {sc:List (Str×NameKind)} {C:String} {h:Hd} {hs:List (String×Hd)}:∀ {xs:List ExceptHandler},gi sc hs xs=true→hs.lookup C=some h→jk C=true:=by
 induction hs with
 | nil=>exact fun _ hl=>zL hl
 | cons p hs ih=>
  intro xs ho
  exact gi.el (P:=fun _=>(p::hs).lookup C=some h→jk C=true) (fun _ _ _ _ _ hD _ _ ho hl=>(xR hl).elim (fun e=>e.1▸hD) (ih ho)) ho
section
variable {K:Fc} {d:Nat} {sc:List (Str×NameKind)} {c c':Cur} {m m':Str→Option Value} {s s' s₀:Shared} {F F':Frm}
theorem HQ (FO:FOk K (d+1)) (hsc:sc=K.env.scope.names) {b:List S} {hs:List (String×Hd)} {x:Stmt} (h:okS sc (.tr b hs) x=true) (ihb:∀ y,jt sc b y=true→SSs K (RC d) b y):SS K (RC d) (.tr b hs) x:=by
 refine UE.el (fun y xs z u pos h=>?_) h
 obtain ⟨h,h2⟩:=zb h
 obtain ⟨h,h1⟩:=zb h
 obtain ⟨h,h4⟩:=zb h
 obtain ⟨h0,h3⟩:=zb h
 rw [List.isEmpty_iff.mp h3,List.isEmpty_iff.mp h4]
 intro F c m s Q X I FR hw
 have body:=ihb y h1 F c m s _ _ I FR hw
 rcases hs with _ | ⟨p,hs⟩
 ·cases h0
 ·have memd:∀ {C h},((p::hs).lookup C=some h)→jk C=true:=Ww h2
  revert h2
  refine fun h2=>gi.el (P:=fun xs=>gi sc (p::hs) xs=true→wpAny (model pw K.w) K.A (exec (.Try y xs [] [] pos) K.env) (K.LF c s Q) (K.LXS c s X) s) (fun S q pos' b' xs hD hn hb ho h2=>?_) h2 h2
  refine wpAny_Try_except (wpAny_mono body (fun f s1 h1=>?_) fun e s1 h1=>?_)
  ·cases f <;> first | exact h1 | exact wpAny_execs_nil h1
  ·obtain ⟨C,md,ea,F1,m1,c1,e1,e2,e3,e4,e5,e6,e7,e8,e9,e10,e11⟩:=h1
   rw [e1]
   cases md with
   | made=>exact e2.elim
   | held=>exact e2.elim
   | fly=>
    obtain ⟨hd,hl,e2⟩:=zd e2
    obtain ⟨a0,fl⟩:=e3
    obtain ⟨outs,ht⟩:=FO.top
    have ff:=fl.2.2.1
    refine wpAny_looks_onW (ht▸FO.frames) FO.fr (ht▸fl) fun h' hh u=>?_
    rw [← ht] at hh
    refine wpAny_landsW hh fun h2' fl2 u2=>?_
    have sl1:=xO ff u e7 e6 hh.1
    have sl2:=xO hh.2.2.1 u2 sl1 e6 fl2.1
    exact H0 FO hsc I e4 e5 e6 e9 (memd hl) e2 h2 hl ⟨⟨a0,fl2⟩,sl2,(u.trans u2).ns e8⟩ e10 e11
end
theorem XG {α β:Type} (l:List α) (s:β) (f:α→β→Sem (ForInStep β)) (h:∀ a∈l,f a s=pure (.yield s)):forIn l s f=(pure s:Sem β):=by
 induction l with
 | nil=>rfl
 | cons a l ih=>
  rw [List.forIn_cons,h a (.head _)]
  exact ih fun a ha=>h a (.tail _ ha)
theorem ZR {names:List Str}:∀ {vals:List Value},vals.length=names.length→∀ n∈names,((names.zip vals).lookup n).isSome=true:=by
 induction names with
 | nil=>intro _ _ n h;cases h
 | cons a r ih=>
  intro vals hl n hn
  rcases vals with _ | ⟨v,vs⟩
  ·cases hl
  ·rw [List.zip_cons_cons,List.lookup_cons]
   by_cases q:n=a
   ·subst q;simp
   ·rw [beq_eq_false_iff_ne.mpr q]
    rcases List.mem_cons.mp hn with h | h
    ·exact absurd h q
    ·exact ih (by simpa using hl) n h
theorem YG {α β:Type} {f g:α→Option β}:∀ {l:List α},(∀ a∈l,f a=g a)→l.filterMap f=l.filterMap g
 | [],_=>rfl
 | a::r,h=>by
  rw [List.filterMap_cons,List.filterMap_cons,h a (.head _),YG fun b hb=>h b (.tail _ hb)]
theorem KB {names:List Str}:∀ {vals:List Value},vals.length=names.length→names.Nodup→names.filterMap (fun n=>((names.zip vals).lookup n).map (n,·))=names.zip vals:=by
 induction names with
 | nil=>intro _ _ _;rfl
 | cons a r ih=>
  intro vals hl hn
  rcases vals with _ | ⟨v,vs⟩
  ·cases hl
  ·obtain ⟨h1,h2⟩:=List.nodup_cons.mp hn
   have e:r.filterMap (fun n=>(((a::r).zip (v::vs)).lookup n).map (n,·))=r.filterMap (fun n=>((r.zip vs).lookup n).map (n,·)):=by
    refine YG fun n hnr=>?_
    rw [List.zip_cons_cons,List.lookup_cons,beq_eq_false_iff_ne.mpr (fun (z:n=a)=>h1 (z▸hnr))]
   rw [List.filterMap_cons]
   simp only [List.zip_cons_cons,List.lookup_cons,beq_self_eq_true,Option.map_some]
   simp only [List.zip_cons_cons] at e
   simp only [List.lookup_cons] at e
   rw [e,ih (by simpa using hl) h2]
theorem KJ {M:Model} {A:Around} {α:Type} {c:Prop} [Decidable c] {t e:Sem α} {Q:α→Shared→Prop} {E:Value→Shared→Prop} {s:Shared} (h:¬ c) (k:wpAny M A e Q E s):wpAny M A (if c then t else e) Q E s:=by
 rw [if_neg h];exact k
theorem UP {n k:Nat} {b:Bool} (h:n≤k):¬ (decide (n > k)&&b)=true:=fun q=>Nat.lt_irrefl _ (Nat.lt_of_lt_of_le (of_decide_eq_true (zb q).1) h)
theorem Hh {α:Type} {l:List α} (h:l=[]):¬ (!l.isEmpty)=true:=by rw [h];exact nofun
noncomputable def zW (p:Arguments) (names:List Str):Bool:=p.posonlyargs.isEmpty&&p.kwonlyargs.isEmpty&&p.vararg.isNone&&p.kwarg.isNone&&(p.args.map (·.arg)==names)
theorem Kv {s:Shared} {ar:List Arg} {kd df nm qn x1 x2 x3 x4 dv x5 x6 x7 x8 x9 x10 x11} {names:List Str} {vals:List Value} {r:Option (Array Value)} {ds:List Value} {S B:List (Str×Value)}
  (hr:∀ (M:Model) (A:Around) (E:Value→Shared→Prop) (Q:Option (Array Value)→Shared→Prop),Q r s→wpAny M A (seqItems? dv) Q E s)
  (hn:ar.map (·.arg)=names) (hl:vals.length≤names.length) (hd:(r.getD #[]).toList.drop ((r.getD #[]).toList.length - names.length)=ds)
  (h1:(names.take (names.length - ds.length)).filter (fun n=>((names.zip vals).lookup n).isNone)=[])
  (h2:(forIn ((names.drop (names.length - ds.length)).zip ds) (names.zip vals) (fun p S=>(if (S.lookup p.1).isNone then pure (.yield (S++[(p.1,p.2)])) else pure (.yield S):Sem (ForInStep (List (Str×Value))))):Sem (List (Str×Value)))=pure S)
  (h3:names.filterMap (fun n=>(S.lookup n).map (n,·))=B):BindsTo s ⟨nm,qn,⟨[],ar,none,[],kd,none,df⟩,x1,x2,x3,x4,dv,x5,x6,x7,x8,x9,x10,x11⟩ ⟨vals,[]⟩ B:=by
 intro M A E Q hq
 rw [← h3,← hn,← List.append_nil (ar.map (·.arg))] at hq
 rw [← hn] at hl hd h1 h2
 rw [← hd] at h1 h2
 refine wpAny_bind (wpAny_pure ?_)
 refine wpAny_bind (hr _ _ _ _ ?_)
 refine KJ (UP hl) (KJ (Hh h1) (wpAny_bind (wpAny_of_eq h2 (wpAny_pure hq))))
theorem YV {s:Shared} {fd:FuncData} {names:List Str} {vals:List Value} {r:Option (Array Value)} {ds:List Value} {S B:List (Str×Value)} (hp:zW fd.params names=true)
  (hr:∀ (M:Model) (A:Around) (E:Value→Shared→Prop) (Q:Option (Array Value)→Shared→Prop),Q r s→wpAny M A (seqItems? fd.defaults) Q E s)
  (hl:vals.length≤names.length) (hd:(r.getD #[]).toList.drop ((r.getD #[]).toList.length - names.length)=ds)
  (h1:(names.take (names.length - ds.length)).filter (fun n=>((names.zip vals).lookup n).isNone)=[])
  (h2:(forIn ((names.drop (names.length - ds.length)).zip ds) (names.zip vals) (fun p S=>(if (S.lookup p.1).isNone then pure (.yield (S++[(p.1,p.2)])) else pure (.yield S):Sem (ForInStep (List (Str×Value))))):Sem (List (Str×Value)))=pure S)
  (h3:names.filterMap (fun n=>(S.lookup n).map (n,·))=B):BindsTo s fd ⟨vals,[]⟩ B:=by
 obtain ⟨nm,qn,pr,x1,x2,x3,x4,dv,x5,x6,x7,x8,x9,x10,x11⟩:=fd
 obtain ⟨po,ar,va,ko,kd,kw,df⟩:=pr
 obtain ⟨hp,hn⟩:=zb hp
 obtain ⟨hp,hw⟩:=zb hp
 obtain ⟨hp,hv⟩:=zb hp
 obtain ⟨hp,hk⟩:=zb hp
 have hp:=List.isEmpty_iff.mp hp
 have hk:=List.isEmpty_iff.mp hk
 have hv:=Option.isNone_iff_eq_none.mp hv
 have hw:=Option.isNone_iff_eq_none.mp hw
 dsimp only at hp hk hv hw
 rw [hp,hk,hv,hw]
 exact Kv hr (beq_iff_eq.mp hn) hl hd h1 h2 h3
theorem XV {s:Shared} {fd:FuncData} {names:List Str} {vals:List Value} {r:Option (Array Value)} (hp:zW fd.params names=true)
  (hr:∀ (M:Model) (A:Around) (E:Value→Shared→Prop) (Q:Option (Array Value)→Shared→Prop),Q r s→wpAny M A (seqItems? fd.defaults) Q E s)
  (hl:vals.length=names.length) (nd:names.Nodup):BindsTo s fd ⟨vals,[]⟩ (names.zip vals):=
 YV hp hr (Nat.le_of_eq hl) rfl (List.filter_eq_nil_iff.mpr fun a ha q=>absurd (ZR hl a (List.mem_of_mem_take ha)) (by rw [Option.isNone_iff_eq_none.mp q];exact nofun))
  (XG _ _ _ fun a ha=>if_neg fun q=>absurd (ZR hl a.1 (List.mem_of_mem_drop (List.of_mem_zip ha).1)) (by rw [Option.isNone_iff_eq_none.mp q];exact nofun)) (KB hl nd)
theorem Kx {s:Shared} {fd:FuncData} {n1 n2:String} {v dv:Value} (hp:zW fd.params ([n1,n2].map Str.ofString)=true)
  (hr:∀ (M:Model) (A:Around) (E:Value→Shared→Prop) (Q:Option (Array Value)→Shared→Prop),Q (some #[dv]) s→wpAny M A (seqItems? fd.defaults) Q E s) (hne:Str.ofString n1≠Str.ofString n2):BindsTo s fd ⟨[v],[]⟩ (([n1,n2].map Str.ofString).zip [v,dv]):=by
 have h1:(Str.ofString n1==Str.ofString n1)=true:=beq_self_eq_true _
 have h2:(Str.ofString n2==Str.ofString n1)=false:=beq_eq_false_iff_ne.mpr (Ne.symm hne)
 have nd:([n1,n2].map Str.ofString).Nodup:=List.nodup_cons.mpr ⟨fun q=>hne (List.mem_singleton.mp q),List.nodup_cons.mpr ⟨nofun,List.nodup_nil⟩⟩
 refine YV (ds:=[dv]) hp hr (Nat.le_succ 1) rfl ?_ ?_ (KB (vals:=[v,dv]) rfl nd)
 ·refine List.filter_eq_nil_iff.mpr fun a ha q=>?_
  have e:a=Str.ofString n1:=List.mem_singleton.mp ha
  have k:(([(Str.ofString n1,v)]:List (Str×Value)).lookup a).isNone=true:=q
  rw [e,List.lookup_cons,h1] at k
  cases k
 ·have k:(([(Str.ofString n1,v)]:List (Str×Value)).lookup (Str.ofString n2)).isNone=true:=by
   rw [List.lookup_cons,h2];rfl
  refine (List.forIn_cons ..).trans ?_
  rw [show (([n1,n2].map Str.ofString).zip [v])=[(Str.ofString n1,v)] from rfl,if_pos k]
  rfl
noncomputable def ndB (l:List Str):Bool:=List.rec true (fun a r ih=>!r.contains a&&ih) l
theorem US {l:List Str}:ndB l=true→l.Nodup:=by
 induction l with
 | nil=>exact fun _=>List.nodup_nil
 | cons a r ih=>
  intro h
  obtain ⟨h1,h2⟩:=zb h
  exact List.nodup_cons.mpr ⟨fun z=>absurd (List.contains_iff_mem.mpr z) (ne_true_of_eq_false (ya h1)),ih h2⟩
noncomputable def XL (P:Params) (v:Value):Option (Option (Array Value)):=oO (bd (Uc v) fun T=>bd (frz P T) fun o=>bd (Hr o.data) fun l=>some (some l)) (if v=.none then some none else none)
noncomputable def O1 (P:Params) (q:Str) (v:Value):Option Unit:=bd (Uc v) fun c=>bd (frz P c) fun o=>bd (O0 o.data) fun vs=>bd vs[1]? fun v=>bd (Ub v) fun q'=>if q'=q then some () else none
noncomputable def YI (P:Params) (f:String):Option FuncData:=bd (frz P (FA f)) fun o=>MZ o.data
noncomputable def Ej (P:Params) (fd:FuncData) (names:List Str):Bool:=
 zW fd.params names&&(ndB names&&((fd.scope.kind==.function)&&(!fd.scope.isCoroutine&&(!fd.scope.isGenerator&&(Nat.beq fd.globals mainGlobals&&(Nat.beq fd.builtins builtinsNs&&(fd.closure.isEmpty&&
 ((fd.scope.names.all fun x=>x.2 != .cell)&&((names.all fun n=>fd.scope.names.lookup n==some .local)&&((XL P fd.defaults).isSome&&(O1 P fd.qualname fd.code).isSome))))))))))
theorem Vs {w:World} {v:Value} {r:Option (Array Value)} (h:XL w.params v=some r) {s:Shared} (Y:YP w s.heap) (M:Model) (A:Around) (E:Value→Shared→Prop) (Q:Option (Array Value)→Shared→Prop) (q:Q r s):wpAny M A (seqItems? v) Q E s:=by
 rcases zK h with h | h
 ·obtain ⟨T,e,h⟩:=zc h
  obtain ⟨o,eo,h⟩:=zc h
  obtain ⟨l,el,h⟩:=zc h
  obtain ⟨k,ek⟩:=YN el
  rw [uz e]
  rw [← Option.some.inj h] at q
  exact wpAny_seqItems (ZC eo Y) ek q
 ·obtain ⟨e,h⟩:=xI h
  rw [e]
  rw [← h] at q
  exact wpAny_pure q
theorem Hu {w:World} {v:Value} {q:Str} {u:Unit} (h:O1 w.params q v=some u) {s:Heap} (Y:YP w s):s.CodeRec v q:=by
 obtain ⟨T,e,h⟩:=zc h
 obtain ⟨o,eo,h⟩:=zc h
 obtain ⟨l,el,h⟩:=zc h
 obtain ⟨x,ex,h⟩:=zc h
 obtain ⟨q',eq,h⟩:=zc h
 obtain ⟨t,et⟩:=uy eq
 exact ⟨T,o,l,t,uz e,ZC eo Y,Vv el,(xI h).1▸et▸ex⟩
theorem Ha {w:World} {f:String} {fd:FuncData} (h:YI w.params f=some fd) {s:Heap} (Y:YP w s):∃ o,s.get? (FA f)=some o∧o.data=.func fd:=by
 obtain ⟨o,eo,h⟩:=zc h
 exact ⟨o,ZC eo Y,Vu h⟩
theorem U0 {names:List Str} {n:Str} {v:Value}:∀ {vals:List Value},names.Nodup→(names.zip vals).lookup n=some v→(names.zip vals).reverse.lookup n=some v:=by
 induction names with
 | nil=>exact fun _ h=>zL h
 | cons a r ih=>
  intro vals nd h
  cases vals with
  | nil=>exact zL h
  | cons x vs=>
  obtain ⟨h1,h2⟩:=List.nodup_cons.mp nd
  rw [List.zip_cons_cons,List.lookup_cons] at h
  rw [List.zip_cons_cons,List.reverse_cons,List.lookup_append]
  by_cases q:n=a
  ·rw [q,beq_self_eq_true] at h
   have e:(r.zip vs).reverse.lookup n=none:=List.lookup_eq_none_iff.mpr fun p hp=>bne_iff_ne.mpr fun z=>h1 (q▸z▸(List.of_mem_zip (a:=p.1) (b:=p.2) (List.mem_reverse.mp hp)).1)
   rw [e,q,List.lookup_cons,beq_self_eq_true]
   exact h
  ·rw [beq_eq_false_iff_ne.mpr q] at h
   rw [ih h2 h]
   rfl
theorem JQ {ρ n h S} {k:String} {mv:V} {names:List String}:∀ {vals:List Value} {args:List V},RVs ρ n h S vals args→(names.zip args).lookup k=some mv→∃ v,((names.map Str.ofString).zip vals).lookup (Str.ofString k)=some v∧RV ρ n h S v mv:=by
 induction names with
 | nil=>exact fun _ h=>zL h
 | cons a r ih=>
  intro vals args rs e
  cases args with
  | nil=>exact zL e
  | cons x xs=>
  obtain ⟨v,ws,ev,rv,rs⟩:=rs.inv'
  rw [List.zip_cons_cons,List.lookup_cons] at e
  rw [ev,List.map_cons,List.zip_cons_cons,List.lookup_cons]
  by_cases q:k=a
  ·rw [q,beq_self_eq_true] at e
   rw [q,beq_self_eq_true]
   exact ⟨v,rfl,Option.some.inj e▸rv⟩
  ·rw [beq_eq_false_iff_ne.mpr q] at e
   rw [beq_eq_false_iff_ne.mpr (fun z=>q (j5 z))]
   exact ih rs e
noncomputable def fnK (w:World) (A:Around) (fd:FuncData) (L a:Addr) (fr:List Addr) (st:List Env):Fc:=
 {w:=w,A:=A.deeper (callEnv fd L a),env:=callEnv fd L a,N:=L,fk:=fr,st:=callEnv fd L a::st}
section
variable {w:World} {A:Around} {st:List Env} {fr:List Addr} {c:Cur} {s:Shared} {h₀:Heap} {m:Str→Option Value} {fd:FuncData} {a:Addr} {tk:Nat}
theorem ML (hk:fd.scope.kind=.function) (stk:Stk st s.heap) (sub:∀ b∈frs st,b∈fr) (thr:jr fr c.h) (heq:s.heap=c.h) (hns:h₀.Ns s.heap.objs.size m) (keep:∀ b o,s.heap.get? b=some o→h₀.get? b=some o) (W:WS w c.σ c.ρ (s.heap.objs.size::fr) h₀):
  (fnK w A fd s.heap.objs.size a fr st).In ⟨c.σ,c.ρ,h₀⟩ m {s with heap:=h₀,toks:=tk}:=by
 obtain ⟨o',es,ep,e1,e2,_⟩:=id hns
 refine ⟨rfl,W,hns,fun e he=>(List.mem_cons.mp he).elim (fun q=>?_) fun he=>?_,fun b hb=>(List.mem_cons.mp hb).elim (fun q=>q▸.head _) fun hb=>.tail _ (sub b hb),fun z=>?_,fun b hb=>(List.mem_cons.mp hb).elim (fun q=>⟨o',q▸e1⟩) fun hb=>?_⟩
 ·rw [q]
  exact ⟨by rw [show (callEnv fd s.heap.objs.size a).scope.kind=_ from hk];exact nofun,_,o',rfl,e1,fun vs q=>by rw [e2] at q;cases q⟩
 ·obtain ⟨p,L,o',q1,q2,q3⟩:=stk e he
  exact ⟨p,L,o',q1,keep _ _ q2,q3⟩
 ·obtain ⟨o',q⟩:=thr _ z
  exact zL ((zA (h:=s.heap)).symm.trans ((congrArg (fun h=>h.get? s.heap.objs.size) heq).trans q))
 ·obtain ⟨o',q⟩:=thr b hb
  exact ⟨o',keep _ _ (heq▸q)⟩
end
noncomputable def Jt (g:List Stmt→Bool) (b:FuncBody):Bool:=by induction b using FuncBody.casesOn with | stmts x=>exact g x | _=>exact false
theorem Jt.el {g:List Stmt→Bool} {P:FuncBody→Prop} (k:∀ x,g x=true→P (.stmts x)) {b:FuncBody}:Jt g b=true→P b:=by induction b using FuncBody.casesOn with | stmts x=>exact k x | _=>exact zk
noncomputable def gO (P:Params) (f:String) (names:List String) (g:List (Str×NameKind)→List Stmt→Bool):Bool:=jA (fun fd=>Ej P fd (names.map Str.ofString)&&Jt (g fd.scope.names) fd.body) (YI P f)
theorem YW {w:World} {s:Shared} {avs:List Value} {names:List String} {f:String} (hl:avs.length=names.length) (fd:FuncData) (r:Option (Array Value)) (_:YI w.params f=some fd) (hr:XL w.params fd.defaults=some r) (Y:YP w s.heap) (hp:zW fd.params (names.map Str.ofString)=true) (nd:(names.map Str.ofString).Nodup):BindsTo s fd ⟨avs,[]⟩ ((names.map Str.ofString).zip avs):=
 XV hp (fun M A E Q q=>Vs hr Y M A E Q q) (hl.trans (List.length_map Str.ofString).symm) nd
theorem Vn {w:World} {A:Around} {st:List Env} {fr:List Addr} {c:Cur} {s:Shared} {avs avs0:List Value} {names:List String} {f:String} {g:List (Str×NameKind)→List Stmt→Bool} {R:Result→Shared→Prop}
  (hok:gO w.params f names g=true) (hroom:A.depth < 1000) (hfr:A.frames=some st) (hh:A.handled=none) (stk:Stk st s.heap)
  (sub:∀ b∈frs st,b∈fr) (thr:jr fr c.h) (heq:s.heap=c.h) (W:c.WS w fr) (hbind:∀ fd r,YI w.params f=some fd→XL w.params fd.defaults=some r→YP w s.heap→zW fd.params (names.map Str.ofString)=true→(names.map Str.ofString).Nodup→BindsTo s fd ⟨avs0,[]⟩ ((names.map Str.ofString).zip avs))
  (k:∀ (fd:FuncData) (body:List Stmt) (K:Fc) (c0:Cur) (m:Str→Option Value) (s0:Shared),g K.env.scope.names body=true→K=fnK w A fd s.heap.objs.size (FA f) fr st→(∀ d,J0 A (d+1)→FOk K d)→fd.scope.kind=.function→c0.σ=c.σ→c0.ρ=c.ρ→K.In c0 m s0→(∀ {x v},((names.map Str.ofString).zip avs).lookup x=some v→m x=some v)→(∀ {v mv},c.RV fr v mv→c0.RV K.fr v mv)→c.Ext fr fr c0→(∀ b o,c.h.get? b=some o→c0.h.get? b=some o)→s0.gens=s.gens→s0.os=s.os→
   wpAny (model pw w) K.A (execs body K.env) (fun f s'=>R (.ok (.ret (match f with | .ret v=>v | _=>.none))) s')
    (fun e s'=>wpAny (model pw w) K.A (leaving K.env e) (fun _ s''=>R (.error e) s'') (fun e' s''=>R (.error e') s'') s') s0):
  codeAny (model pw w) A (.call (.ref (FA f)) ⟨avs0,[]⟩) R s:=by
 obtain ⟨fd,hf⟩:∃ fd,YI w.params f=some fd:=jA.el (P:=fun o=>∃ fd,o=some fd) (fun fd _=>⟨fd,rfl⟩) hok
 unfold gO at hok
 rw [hf] at hok
 obtain ⟨hok,hbd⟩:=zb (show (_&&_)=true from hok)
 obtain ⟨body,hb,hg'⟩:=Jt.el (P:=fun b=>∃ x,b=.stmts x∧g fd.scope.names x=true) (fun x h=>⟨x,rfl,h⟩) hbd
 obtain ⟨hp,h⟩:=zb hok
 obtain ⟨nd,h⟩:=zb h
 obtain ⟨hk,h⟩:=zb h
 obtain ⟨hco,h⟩:=zb h
 obtain ⟨hgen,h⟩:=zb h
 obtain ⟨hg,h⟩:=zb h
 obtain ⟨hbl,h⟩:=zb h
 obtain ⟨hcl,h⟩:=zb h
 obtain ⟨hcell,h⟩:=zb h
 obtain ⟨hloc,h⟩:=zb h
 obtain ⟨hdf,hcd⟩:=zb h
 obtain ⟨u,hcd⟩:=Option.isSome_iff_exists.mp hcd
 obtain ⟨r,hdf⟩:=Option.isSome_iff_exists.mp hdf
 have hk:=beq_iff_eq.mp hk
 have Y:YP w s.heap:=heq▸W.base
 obtain ⟨o,ho,hd⟩:=Ha hf Y
 have Nd:=US nd
 refine codeAny_call_def hroom ho hd Y.lim (Hu hcd Y) hb (hbind fd r hf hdf Y hp Nd) (fun x hx=>bne_iff_ne.mp (List.all_eq_true.mp hcell x hx)) (fun x hx=>?_) (fun h₀ hns keep=>?_) (ya hco) (ya hgen) hk
 ·exact beq_iff_eq.mp (List.all_eq_true.mp hloc x.1 (List.of_mem_zip (a:=x.1) (b:=x.2) hx).1)
 ·have keep':∀ b o,c.h.get? b=some o→h₀.get? b=some o:=fun b o q=>keep b o (heq▸q)
  have hL:c.h.get? s.heap.objs.size=none:=heq▸zA
  obtain ⟨W',rv⟩:=WS.more W keep' hL
  refine k fd body (fnK w A fd s.heap.objs.size (FA f) fr st) ⟨c.σ,c.ρ,h₀⟩ _ _ hg' rfl (fun d room=>⟨⟨hk,rfl,Nat.eq_of_beq_eq_true hg,Nat.eq_of_beq_eq_true hbl,Around.frames_deeper hfr,hh,?_⟩,⟨st,rfl⟩,rfl⟩) hk rfl rfl (ML hk stk sub thr heq hns keep W') (U0 Nd) rv (Ext.up keep') keep' rfl rfl
  exact ⟨by show A.depth+1+d < 990;have:=room.depth;omega,by show A.units+3+12 * d+200 < 9900;have:=room.units;omega⟩
theorem MT {w:World} {A:Around} {st:List Env} {fr:List Addr} {c:Cur} {s:Shared} {avs avs0:List Value} {args:List V} {names:List String} {f:String} {d:Nat} {g:List (Str×NameKind)→List Stmt→Bool} {R:Result→Shared→Prop}
  (hok:gO w.params f names g=true) (room:J0 A (d+1)) (hfr:A.frames=some st) (hh:A.handled=none) (stk:Stk st s.heap)
  (sub:∀ b∈frs st,b∈fr) (thr:jr fr c.h) (heq:s.heap=c.h) (W:c.WS w fr) (r:c.RVs fr avs args) (hbind:∀ fd r,YI w.params f=some fd→XL w.params fd.defaults=some r→YP w s.heap→zW fd.params (names.map Str.ofString)=true→(names.map Str.ofString).Nodup→BindsTo s fd ⟨avs0,[]⟩ ((names.map Str.ofString).zip avs))
  (k:∀ (fd:FuncData) (body:List Stmt) (K:Fc) (c0:Cur) (m:Str→Option Value) (s0:Shared),g K.env.scope.names body=true→K=fnK w A fd s.heap.objs.size (FA f) fr st→FOk K d→c0.σ=c.σ→K.In c0 m s0→FrR K c0 m (names.zip args)→c.Ext fr fr c0→s0.gens=s.gens→s0.os=s.os→
   wpAny (model pw w) K.A (execs body K.env) (fun f s'=>R (.ok (.ret (match f with | .ret v=>v | _=>.none))) s')
    (fun e s'=>wpAny (model pw w) K.A (leaving K.env e) (fun _ s''=>R (.error e) s'') (fun e' s''=>R (.error e') s'') s') s0):
  codeAny (model pw w) A (.call (.ref (FA f)) ⟨avs0,[]⟩) R s:=
 Vn hok (Nat.lt_of_le_of_lt (Nat.le_trans (Nat.le_add_right _ _) (Nat.le_of_lt room.depth)) (by decide)) hfr hh stk sub thr heq W hbind fun fd body K c0 m s0 hg e1 e2 _ e3 e4 e5 zr e6 e7 e8 e10 e11=>k fd body K c0 m s0 hg e1 (e2 d room) e3 e5 (fun n mv h=>by
  obtain ⟨v,q,rv'⟩:=JQ r h
  exact ⟨v,zr q,e6 rv'⟩) e7 e10 e11
section
variable {w:World} {A:Around} {st:List Env} {fr:List Addr} {c c0 c':Cur} {s s0 s':Shared} {K:Fc} {fd:FuncData} {L a:Addr} {d:Nat} {X:XP}
theorem Vg (hK:K=fnK w A fd L a fr st):(∀ b∈fr,b∈K.fr)∧(∀ b∈K.fr,b∈fr∨b=L)∧K.fk=fr∧K.N=L∧K.w=w∧K.st=K.env::st:=by
 subst hK
 exact ⟨fun b hb=>.tail _ hb,fun b hb=>(List.mem_cons.mp hb).symm.imp id id,rfl,rfl,rfl,rfl⟩
theorem Gh (hK:K=fnK w A fd L a fr st) (hL:c.h.get? L=none) (E0:c.Ext fr fr c0) {m':Str→Option Value} (I:K.In c' m' s') (E:c0.Ext K.fr K.fk c'):
  c'.WS w fr∧c.Ext fr fr c'∧∀ {v:Value} {mv:V},c'.RV K.fr v mv→c'.RV fr v mv:=by
 obtain ⟨k1,k2,k3,k4,k5,k6⟩:=Vg hK
 refine ⟨k5▸WS.less I.ws k1,Ext.leave E0 E k1 (fun b hb=>(k2 b hb).imp id fun (z:b=L)=>z▸hL) fun b hb=>k3▸hb,fun r=>?_⟩
 exact RV.mono (Nat.le_refl _) (fun _ _=>rfl) (fun b o e nn=>⟨e,fun z=>nn (Mut.sub k1 z)⟩) r
theorem Vf (hK:K=fnK w A fd L a fr st) (FO:FOk K d) (hL:c.h.get? L=none) (E0:c.Ext fr fr c0) (x:K.LXS c0 s0 X e s') {Q:Unit→Shared→Prop} {EE:Value→Shared→Prop}
  (q:∀ (md:Md) (C:String) (F:Frm) (ea:Addr) (a0:Value) (c':Cur) (h':Heap),e=.ref ea→X md C F c'.σ→Heap.FlyingW c'.h st ea (.ref (CA C)) a0 h'→c'.WS w fr→xu fr c.σ c.ρ c.h c'.σ c'.ρ c'.h→y7 (frs st) fr c.h c'.h→yD fr c.h h'→s'.gens=s0.gens→s'.os=s0.os→Q () {s' with heap:=h'}):
  wpAny (model pw w) K.A (leaving K.env e) Q EE s':=by
 obtain ⟨C,md,ea,F,m',c',rfl,e2,e3,e4,e5,e6,e7,e8,e9,e10,e11⟩:=x
 obtain ⟨k1,k2,k3,k4,k5,k6⟩:=Vg hK
 have W':c'.WS w fr:=k5▸WS.less e4 k1
 have EC:xu fr c.σ c.ρ c.h c'.σ c'.ρ c'.h:=xu.leave E0 e5 k1 fun b hb=>(k2 b hb).imp id fun (z:b=L)=>z▸hL
 have fL:K.env.frame=some L:=by rw [FO.fr,k4]
 have AG:y7 (frs st) fr c.h c'.h:=by
  refine ⟨fun b o eo nb=>?_,fun b hb nb o eo=>?_⟩
  ·obtain ⟨o1,e1⟩:=E0.al b o eo
   refine e6.1 b o1 e1 fun z=>?_
   rw [k6,frs,List.filterMap_cons,fL] at z
   rcases List.mem_cons.mp z with rfl | z
   ·rw [hL] at eo;cases eo
   ·exact nb z
  ·obtain ⟨sl,e1⟩:=E0.frk b hb o eo
   obtain ⟨sl2,e2⟩:=e6.2 b (k3▸hb) (fun z=>by
    rw [k6,frs,List.filterMap_cons,fL] at z
    rcases List.mem_cons.mp z with rfl | z
    ·rw [hL] at eo;cases eo
    ·exact nb z) _ e1
   exact ⟨sl2,e2⟩
 have e6':y7 (frs K.st) fr c0.h c'.h:=k3▸e6
 have e7':yD fr c0.h s'.heap:=k3▸e7
 have fin:∀ {a0:Value} {h':Heap},s'.heap.FunFrames c'.h K.st→s'.heap.UpToSlots h'→Heap.FlyingW c'.h st ea (.ref (CA C)) a0 h'→Q () {s' with heap:=h'}:=fun {a0 h'} ff u fl=>by
  have sl:=xO ff u e7' e6' fl.1
  exact q md C F ea a0 c' h' rfl e2 fl W' EC AG (yD.trans E0.frk sl) e10 e11
 have hfr:=FO.frames
 rw [k6] at hfr
 cases md with
 | fly=>
  obtain ⟨a0,fl⟩:=e3
  have ff:=fl.2.2.1
  rw [k6] at fl
  exact wpAny_leaves_onW hfr fL fl fun h' fl' u=>fin ff u fl'
 | held=>
  obtain ⟨a0,hh⟩:=e3
  have ff:=hh.2.2.1
  unfold leaving
  rw [k4] at hh
  refine wpAny_bind (wpAny_noteFrame_againW fL hh.2.2.2 ?_)
  refine wpAny_landsW hh fun h' fl u=>?_
  obtain ⟨f1,f2,f3,f4⟩:=fl
  rw [k6] at f3
  exact fin ff u ⟨f1,f2,f3.2.2,f4⟩
 | made=>
  obtain ⟨f1,f2,f3,oe,vs,a0,g1,g2,g3,g4,g5⟩:=e3
  have ff:=f3
  rw [k6] at f3
  refine wpAny_leaving_firstW hfr f3 fL g1 f1 f2 g3 g4 g5 fun h' hL'=>?_
  obtain ⟨l1,⟨_,_,l2⟩,l3,l4⟩:=hL'
  exact fin ff l4 ⟨l1,f2,l2,by rw [← g2];exact l3⟩
end
section
variable {w:World} {A:Around} {h:Heap} {g:Array GenState} {dr:Drawn} {t:Nat} {os:OsState}
variable {nm q:Str} {C N:Addr} {bs bm:List Value} {hdct:Bool} {sn:List Str} {sub:List Value} {ab:Bool} {col:Option Bool} {dd:Option Addr} {k0 k1 k2 k3 k5:Option Value}
noncomputable def yH (rest:List Value):Obj:={cls:=.type "tuple",data:=.seq rest.toArray}
noncomputable def je (C T:Addr):Obj:={cls:=.ref C,data:=.fields #[.ref T,.none,.none,.none,.bool false,.none]}
theorem Q1 {R:Result→Shared→Prop} (hB:bm.contains (.type "Exception")=true) (hA:bm.contains (.type "AttributeError")=false) (hNm:bm.contains (.type "NameError")=false) {rest:List Value} (hC:h.get? C=some (excClassObj nm q C N bs bm hdct sn sub ab col dd k0 k1 k2 k3 k5 "Exception.__new__"))
  (hq:R (.ok (.ret (.ref (h.objs.size+1)))) ⟨(h.push (yH rest)).push (je C h.objs.size),g,dr,t,os⟩) (hrest:rest.length≤sizeLine):
  codeAny (model pw w) A (.builtin "Exception.__new__" ⟨.ref C::rest,[]⟩) R ⟨h,g,dr,t,os⟩:=by
 have Fn:=F.excBase_Exception
 have hends:=Fn.ends
 have hcB:(Value.ref C::bm).contains (.type "Exception")=true:=by rw [List.contains_cons,hB,Bool.or_true]
 have hcA:(Value.ref C::bm).contains (.type "AttributeError")=false:=by rw [List.contains_cons,hA];rfl
 have hcN:(Value.ref C::bm).contains (.type "NameError")=false:=by rw [List.contains_cons,hNm];rfl
 refine codeAny_builtinAt Fn.entry ?_
 unfold Builtin.«BaseException.__new__»
 refine PySem.wpAt_bind ?_
 show PySem.wpAt _ _ _ (stack >>= _) _ _ _
 refine PySem.wpAt_bind (PySem.wpAt_stack fun p below=>PySem.wpAt_of_wpAny ?_)
 wp_walk
 refine PySem.wpAt_of_wpAny ?_
 rw [Fn.owner]
 repeat (first | with_reducible refine wpAny_madeHere_exc Fn.canon hC ?_ | with_reducible refine wpAny_loadPart_at hC ?_ | (with_reducible refine wpAny_isSubtype_exc hC ?_;first | rw [hcB] | rw [hcA] | rw [hcN]) | wp_step)
 show R _ _
 rw [Heap.size_push]
 exact hq
theorem qV {fI:Addr} {E:Value→Shared→Prop} (hB:bm.contains (.type "Exception")=true) (hA:bm.contains (.type "AttributeError")=false) (hNm:bm.contains (.type "NameError")=false) {rest:List Value} {Q:Fin→Shared→Prop}
  (hC:h.get? C=some (excClassObj nm q C N bs bm hdct sn sub ab col dd k0 k1 k2 k3 k5 "Exception.__new__"))
  (hs:Looks (model pw w) h (isSubtype (.ref C) (.ref C)) true) (hi:Looks (model pw w) h (typeLookup (.ref C) "__init__") (some (.ref fI))) (hb:∀ self,Looks (model pw w) h (bindSpecial (.ref fI) self) (.ref fI,[self]))
  (hq:codeAny (model pw w) A (.call (.ref fI) ⟨.ref (h.objs.size+1)::rest,[]⟩) (fun r s'=>match r with
   | .ok (.ret .none)=>Q (.done (.ret (.ref (h.objs.size+1)))) s'
   | .ok _=>False
   | .error e=>E e s') ⟨(h.push (yH rest)).push (je C h.objs.size),g,dr,t,os⟩) (hrest:rest.length≤sizeLine):
  wpAny (model pw w) A (Builtin.«type.__call__» ⟨.ref C::rest,[]⟩) Q E ⟨h,g,dr,t,os⟩:=by
 have Fn:=F.excBase_Exception
 repeat (first | with_reducible refine wpAny_loadPart_at hC ?_ | with_reducible refine wpAny_madeBy_exc hC ?_ | wp_step)
 refine codeAny_call_builtin_code (Code.quiet_builtin _ Fn.quiet) (wpAny_check_new_subU Fn hB .base hC ?_)
 refine Q1 hB hA hNm hC ?_ hrest
 show wpAny _ _ _ _ _ _
 have k:∀ b o,h.get? b=some o→((h.push (yH rest)).push (je C h.objs.size)).get? b=some o:=fun b o e=>Heap.get?_push_of_some _ (Heap.get?_push_of_some _ e)
 have hx:((h.push (yH rest)).push (je C h.objs.size)).get? (h.objs.size+1)=some (je C h.objs.size):=by
  have:=Heap.get?_push_size (h.push (yH rest)) (o:=je C h.objs.size) rfl
  rwa [Heap.size_push] at this
 have t1:Looks (model pw w) ((h.push (yH rest)).push (je C h.objs.size)) (typeOf (.ref (h.objs.size+1))) (.ref C):=(Looks.ld hx).andThen .now
 have s1:=hs.keeps k
 have i1:=hi.keeps k
 have b1:=(hb (.ref (h.objs.size+1))).keeps k
 unfold isInstance callSpecial? specialOf
 repeat (first | with_reducible refine wpAny_call ?_ | lk)
 refine codeAny_mono hq fun r s' z=>?_
 cases r with
 | error e=>exact z
 | ok f=>
  cases f with
  | ret v=>
   cases v <;> first | exact False.elim z | exact wpAny_pure (wpAny_pure z)
  | _=>exact False.elim z
end
section
variable {w:World} {A:Around} {h:Heap} {g:Array GenState} {dr:Drawn} {t:Nat} {os:OsState}
variable {nm q:Str} {C N:Addr} {bs bm:List Value} {hdct:Bool} {sn:List Str} {sub:List Value} {ab:Bool} {col:Option Bool} {dd:Option Addr} {k0 k1 k2 k3 k5:Option Value}
theorem U5 {fI:Addr} {E:Value→Shared→Prop} (hB:bm.contains (.type "Exception")=true) (hA:bm.contains (.type "AttributeError")=false) (hNm:bm.contains (.type "NameError")=false) {rest:List Value} {Q:Value→Shared→Prop}
  (hC:h.get? C=some (excClassObj nm q C N bs bm hdct sn sub ab col dd k0 k1 k2 k3 k5 "Exception.__new__"))
  (hs:Looks (model pw w) h (isSubtype (.ref C) (.ref C)) true) (hi:Looks (model pw w) h (typeLookup (.ref C) "__init__") (some (.ref fI))) (hb:∀ self,Looks (model pw w) h (bindSpecial (.ref fI) self) (.ref fI,[self]))
  (hq:codeAny (model pw w) (A.under (.builtin "type.__call__" ⟨.ref C::rest,[]⟩)) (.call (.ref fI) ⟨.ref (h.objs.size+1)::rest,[]⟩) (fun r s'=>match r with
   | .ok (.ret .none)=>Q (.ref (h.objs.size+1)) s'
   | .ok _=>False
   | .error e=>E e s') ⟨(h.push (yH rest)).push (je C h.objs.size),g,dr,t,os⟩) (hrest:rest.length≤sizeLine):
  wpAny (model pw w) A (call (.ref C) rest) Q E ⟨h,g,dr,t,os⟩:=by
 have f1:=tc_lookup
 have f2:=tc_bind (.ref C)
 have hT:(⟨h,g,dr,t,os⟩:Shared).TypeIs (.ref C) "type":=⟨_,hC,rfl⟩
 refine wpAny_call (codeAny_of_tree ?_)
 show wpAny _ _ (callAny (.ref C) _) _ _ _
 repeat (any_goals (first | assumption | with_reducible refine wpAny_loadPart_at hC ?_ | wp_step))
 refine ⟨rfl,?_⟩
 refine codeAny_call_builtin_at (Code.quiet_builtin _ (by decide +kernel)) entry_typeCall (wpAny_check_type_call_sub hC ?_)
 refine qV hB hA hNm hC hs hi hb ?_ hrest
 exact hq
end
end
section
open PySem PySem.Calls PySem.W PyProof.Rows Builtin Builtin.ObjectAttr
noncomputable def MO:List Value:=[.type "Exception",.type "BaseException",.type "object"]
noncomputable def j4 (l:List Value):Bool:=List.rec false (fun v r ih=>((Uc v).isSome&&ih)||decide (v::r=MO)) l
theorem j4.ind {P:List Value→Prop} (h0:P MO) (h1:∀ a r,P r→P (.ref a::r)) {l:List Value}:j4 l=true→P l:=by
 induction l with
 | nil=>exact zk
 | cons v r ih=>
  refine fun h=>(Bool.or_eq_true_iff.mp h).elim (fun h=>?_) fun h=>of_decide_eq_true h▸h0
  obtain ⟨a,e⟩:=Option.isSome_iff_exists.mp (zb h).1
  exact uz e▸h1 a r (ih (zb h).2)
theorem Yg {l:List Value}:j4 l=true→l.contains (.type "object")=true:=j4.ind (P:=fun l=>l.contains (.type "object")=true) (by decide) fun a r h=>by rw [List.contains_cons,h,Bool.or_true]
theorem Xn (self:Value) {l:List Value}:j4 l=true→refuseLoop self "__setattr__" l=pure ():=j4.ind (P:=fun l=>refuseLoop self "__setattr__" l=pure ()) (F.store_Exception.passes self) fun a r h=>(refuseLoop_ref ..).trans h
noncomputable def yB (K:Frag) (C:Addr) (k:Str):Bool:=(findIn K (.ref C) "__setattr__"==some (some (.builtin "object.__setattr__")))&&(takerIn K C k==some none)&&((clsIn K C).any fun cd=>cd.hasDict&&j4 cd.mro)
section
variable {w:World} {A:Around} {E:Value→Shared→Prop} {h:Heap} {g:Array GenState} {dr:Drawn} {t:Nat} {os:OsState} {x C:Addr} {mA:Str→Option Value} {name:Str} {v:Value}
theorem U2 {K:Frag} {Q:Unit→Shared→Prop} (X:K.In h) (ok:yB K C name=true) (I:∃ ox od,PySem.W.InstAt h x ox C od)
  (hq:∀ b tk,wpAny (model pw w) A.in1 (storeInOwnDict (.ref x) (.ref C) (.str name tk) name v b) (fun fin s'=>match fin with
   | .done (.ret _)=>Q () s'
   | _=>False) E ⟨h,g,dr,t+1,os⟩):wpAny (model pw w) A (setAttr (.ref x) name v) Q E ⟨h,g,dr,t,os⟩:=by
 obtain ⟨ox,od,I⟩:=I
 unfold yB at ok
 simp only [Bool.and_eq_true,beq_iff_eq] at ok
 obtain ⟨⟨o1,o2⟩,o3⟩:=ok
 obtain ⟨cd,hc,o3⟩:=any_some o3
 simp only [Bool.and_eq_true] at o3
 obtain ⟨o3,o4⟩:=o3
 refine set_plain (s:=⟨h,g,dr,t,os⟩) X I o1 ?_
 have SF:=PySem.F.store_object
 have sub:Looks (model pw w) h (isInstance (.ref x) (.type "object")) true:=I.type.andThen (looks_mroIn X (by
  unfold mroIn;rw [hc,Option.bind_some,if_neg (by cases q:cd.mro with | nil=>rw [q] at o4;cases o4 | cons _ _=>simp),Yg o4]))
 refine codeAny_call_builtin SF.slot.plain SF.entry (@check_slot (model pw w) _ _ _ "object.__setattr__" "object" "__setattr__" (.ref x) [.str name t,v] [] _ SF.kind SF.split sub (SF.args (.ref x) (.str name t) v) ?_)
 obtain ⟨attr,ha,hr⟩:=Option.bind_eq_some_iff.mp o2
 have hm:Looks (model pw w) h (mroOf (.ref C)) cd.mro:=(looks_clsIn X hc).andThen .now
 have L3:Looks (model pw w) h (storeTaker? attr) none:=by
  cases attr with
  | none=>exact .now
  | some a=>
   obtain ⟨b,hb,hr⟩:=Option.map_eq_some_iff.mp hr
   refine (looks_takesIn X hb).andThen ?_
   cases b
   ·exact .now
   ·cases hr
 rw [osa_eq,refuse_eq]
 refine wpAny_bind (wpAny_bind (I.type.here (wpAny_bind (hm.here ?_))))
 rw [Xn _ o4]
 refine wpAny_pure (wpAny_bind (I.type.here (wpAny_bind ((looks_findIn X ha).here (wpAny_bind (L3.here ?_))))))
 refine wpAny_mono (hq attr.isSome t) (fun fin s' z=>?_) fun _ _ z=>z
 cases fin with
 | done f=>cases f <;> first | exact z | exact z.elim
 | again c=>exact z.elim
theorem YM {tk:Tok} {D:Addr} {m:Str→Option Value} {ns:List Str} {Q:Fin→Shared→Prop} (N:h.Ns1 D m) (hw:Within m ns) (hz:ns.length≤100) (q:∀ h' tk',h'.Ns1 D (fun y=>if y=name then some v else m y)→Heap.SameBut D h h'→Q (.done (.ret .none)) ⟨h',g,dr,tk',os⟩):wpAny (model pw w) A (storeInDict D (.str name tk) name v) Q E ⟨h,g,dr,t,os⟩:=by
 unfold storeInDict newKeyGuard
 refine wpAny_bind (wpAny_pure (wpAny_bind (wpAny_nsSet1 N fun h' hn' hs=>?_)))
 obtain ⟨oD,esD,epD,hoD,hdD,hcD⟩:=hn'.count (Within.cons name v hw)
 refine wpAny_bind (wpAny_lookBehind hoD (by rw [hdD];exact pastItsLine_dict (Nat.le_trans hcD (Nat.le_trans (Nat.succ_le_succ hz) (by rw [sizeLine_eq];exact Nat.le_of_ble_eq_true rfl)))) ?_)
 exact wpAny_pure (q _ _ hn' hs)
noncomputable def Put (x:Addr) (h h':Heap):Prop:=(∀ b o,b≠x→(∀ o₀ dx,h.get? x=some o₀→o₀.dict=some dx→b≠dx)→h.get? b=some o→h'.get? b=some o)∧
 ∀ o₀,h.get? x=some o₀→∃ o₁,h'.get? x=some o₁∧o₁.cls=o₀.cls∧o₁.data=o₀.data∧o₁.slots=o₀.slots∧(∀ dx,o₀.dict=some dx→o₁.dict=some dx)∧(o₀.dict=none→∃ dx,o₁.dict=some dx∧h.get? dx=none)
theorem KC {K:Frag} {tk:Tok} {b:Bool} {Q:Fin→Shared→Prop} {ns:List Str} (X:K.In h) (ok:yB K C name=true) (I:h.Inst x C mA)
  (hq:∀ h' tk',h'.Inst x C (fun y=>if y=name then some v else mA y)→Put x h h'→Q (.done (.ret .none)) ⟨h',g,dr,tk',os⟩) (hw:Within mA ns) (hsz:ns.length≤100):
  wpAny (model pw w) A (storeInOwnDict (.ref x) (.ref C) (.str name tk) name v b) Q E ⟨h,g,dr,t,os⟩:=by
 obtain ⟨cd,hc,o3⟩:=any_some (zb ok).2
 obtain ⟨o,hx,hcl,hnc,hd⟩:=I
 refine wpAny_bind (wpAny_pure (wpAny_bind (wpAny_bind (wpAny_loadPart_at hx ?_))))
 rw [hcl]
 refine wpAny_bind ((looks_clsIn X hc).here ?_)
 rw [if_neg (by rw [(zb o3).1];exact nofun)]
 rcases hd with ⟨hdn,hmA⟩ | ⟨dx,hdx,hne,hns⟩
 ·rw [hdn]
  refine KJ (by simp [typeHasDict]) ?_
  split
  ·rename_i q;exact absurd q (hnc _)
  have hx₁:(h.push {cls:=.type "dict",data:=.dict #[]}).get? x=some o:=Heap.get?_push_of_some _ hx
  have hxs:x≠h.objs.size:=Nat.ne_of_lt (Heap.lt_size hx)
  refine wpAny_bind (wpAny_alloc' ?_)
  refine wpAny_bind (wpAny_update' hx₁ ?_)
  refine wpAny_pure ?_
  have hgd:=(Heap.get?_update_ne (h.push {cls:=.type "dict",data:=.dict #[]}) h.objs.size x (fun o=>{cls:=o.cls,dict:=some h.objs.size,data:=o.data,slots:=o.slots}) hxs.symm).trans (Heap.get?_push_at rfl rfl)
  refine YM (D:=h.objs.size) (ns:=[]) (Heap.Ns1.of_empty ⟨_,#[],_,hgd,rfl,fun e he=>absurd he (by simp),fun _=>rfl⟩) Within.nil (Nat.zero_le _) fun h' tk' hn' hs=>?_
  have hx':h'.get? x=some {cls:=o.cls,dict:=some h.objs.size,data:=o.data,slots:=o.slots}:=by
   refine (hs.2 x hxs).trans (Heap.get?_update_self _ hx₁ ?_)
   have hfr:=(Heap.get?_some_iff.mp hx).2
   obtain ⟨oc,od,odt,osl⟩:=o
   cases odt <;> first | rfl | exact hfr
  refine hq h' _ ⟨{cls:=o.cls,dict:=some h.objs.size,data:=o.data,slots:=o.slots},hx',hcl,hnc,.inr ⟨h.objs.size,rfl,hxs.symm,?_⟩⟩ ⟨fun b ob hbx _ hb=>(hs.2 b (Nat.ne_of_lt (Heap.lt_size hb))).trans ((Heap.get?_update_ne _ _ _ _ hbx).trans (Heap.get?_push_of_some _ hb)),fun o₀ h₀=>?_⟩
  ·rw [show mA=fun _=>none from funext hmA];exact hn'
  ·rw [← Option.some.inj (hx.symm.trans h₀)]
   exact ⟨_,hx',rfl,rfl,rfl,fun dx e=>zL (hdn.symm.trans e),fun _=>⟨_,rfl,zA⟩⟩
 ·rw [hdx]
  refine wpAny_pure (YM hns hw hsz fun h' tk' hn' hs=>?_)
  refine hq h' _ ⟨o,(hs.2 x hne.symm).trans hx,hcl,hnc,.inr ⟨dx,hdx,hne,hn'⟩⟩ ⟨fun b ob _ hbd hb=>(hs.2 b (hbd o dx hx hdx)).trans hb,fun o₀ h₀=>?_⟩
  rw [← Option.some.inj (hx.symm.trans h₀)]
  exact ⟨o,(hs.2 x hne.symm).trans hx,rfl,rfl,rfl,fun _ e=>e,fun e=>zL (e.symm.trans hdx)⟩
theorem GZ {K:Frag} {Q:Unit→Shared→Prop} {ns:List Str} (X:K.In h) (ok:yB K C name=true) (I:h.Inst x C mA)
  (hq:∀ h' tk',h'.Inst x C (fun y=>if y=name then some v else mA y)→Put x h h'→Q () ⟨h',g,dr,tk',os⟩) (hw:Within mA ns) (hsz:ns.length≤100):
  wpAny (model pw w) A (setAttr (.ref x) name v) Q E ⟨h,g,dr,t,os⟩:=by
 refine U2 X ok ?_ fun b tk=>KC X ok I (fun h' tk' i1 i2=>hq h' tk' i1 i2) hw hsz
 obtain ⟨o,hx,hcl,hnc,hd⟩:=I
 have no:notCls o=true:=by
  unfold notCls
  split
  ·rename_i c hcd
   exact absurd hcd (hnc _)
  ·rfl
 rcases hd with ⟨hdn,_⟩ | ⟨dx,hdx,_,hns⟩
 ·exact ⟨o,none,hx,hcl,no,by rw [hdn];trivial⟩
 ·obtain ⟨od,_,_,e,_⟩:=hns
  exact ⟨o,some od,hx,hcl,no,by rw [hdx];exact e⟩
end
end
section
open PySem PySem.Calls PySem.W PyProof.Rows
noncomputable def vE (sc:List (Str×NameKind)) (n:String) (f:Expr→Bool):PySem.Stmt→Bool:=uc fun ts x _=>yE (uw fun y s _=>s==Str.ofString n&&yK (fun s _=>zB sc .local "self" s) y) ts&&f x
theorem vE.el {sc:List (Str×NameKind)} {n:String} {f:Expr→Bool} {P:PySem.Stmt→Prop} (k:∀ s p p' y pos,zB sc .local "self" s=true→f y=true→P (.Assign [.Attribute (.Name s p) (Str.ofString n) p'] y pos)) {x:PySem.Stmt} (h:vE sc n f x=true):P x:=by
 refine uc.el (fun ts y pos h=>?_) h
 obtain ⟨h1,h2⟩:=zb h
 refine yE.el (P:=fun ts=>P (.Assign ts y pos)) (fun t h1=>?_) h1
 refine uw.el (P:=fun t=>P (.Assign [t] y pos)) (fun o s p' h1=>?_) h1
 obtain ⟨h1,h3⟩:=zb h1
 rw [beq_iff_eq.mp h1]
 exact yK.el (P:=fun o=>P (.Assign [.Attribute o (Str.ofString n) p'] y pos)) (fun s p h3=>k s p p' y pos h3 h2) h3
noncomputable def qW (sc:List (Str×NameKind)):List Stmt→Bool:=ZU fun x y=>vE sc "number" (w7 fun c _ _=>okC (.int 0) c) x&&vE sc "text" (yK fun s _=>zB sc .local "text" s) y
theorem qW.el {sc:List (Str×NameKind)} {b:List PySem.Stmt} (h:qW sc b=true):∃ s1 p1 p1' k1 q1 pos1 s2 p2 p2' t p3 pos2,b=[.Assign [.Attribute (.Name s1 p1) (Str.ofString "number") p1'] (.Constant (.int 0) k1 q1) pos1,.Assign [.Attribute (.Name s2 p2) (Str.ofString "text") p2'] (.Name t p3) pos2]∧zB sc .local "self" s1=true∧zB sc .local "self" s2=true∧zB sc .local "text" t=true:=by
 obtain ⟨x,y,eb,h⟩:=ZU.el (P:=fun l=>∃ a b,l=[a,b]∧(vE sc "number" (w7 fun c _ _=>okC (.int 0) c) a&&vE sc "text" (yK fun s _=>zB sc .local "text" s) b)=true) (fun a b h=>⟨a,b,rfl,h⟩) h
 obtain ⟨hx,hy⟩:=zb h
 obtain ⟨s1,p1,p1',y1,pos1,e1,n1,o1⟩:=vE.el (P:=fun x=>∃ s p p' y pos,x=.Assign [.Attribute (.Name s p) (Str.ofString "number") p'] y pos∧zB sc .local "self" s=true∧w7 (fun c _ _=>okC (.int 0) c) y=true) (fun s p p' y pos n o=>⟨s,p,p',y,pos,rfl,n,o⟩) hx
 obtain ⟨s2,p2,p2',y2,pos2,e2,n2,o2⟩:=vE.el (P:=fun x=>∃ s p p' y pos,x=.Assign [.Attribute (.Name s p) (Str.ofString "text") p'] y pos∧zB sc .local "self" s=true∧yK (fun s _=>zB sc .local "text" s) y=true) (fun s p p' y pos n o=>⟨s,p,p',y,pos,rfl,n,o⟩) hy
 obtain ⟨k1,q1,e3⟩:=w7.el (P:=fun x=>∃ k q,x=.Constant (.int 0) k q) (fun c k q n=>⟨k,q,congrArg (fun c=>Expr.Constant c k q) (okC.el (P:=fun v c=>v=.int 0→c=.int 0) nofun nofun (fun i e=>congrArg Const.int (V.int.inj e)) nofun n rfl)⟩) o1
 obtain ⟨t,p3,e4,n4⟩:=yK.el (P:=fun x=>∃ t p,x=.Name t p∧zB sc .local "text" t=true) (fun t p n=>⟨t,p,rfl,n⟩) o2
 exact ⟨s1,p1,p1',k1,q1,pos1,s2,p2,p2',t,p3,pos2,by rw [eb,e1,e2,e3,e4],n1,n2,n4⟩
noncomputable def qp:List String:=["ParseStop","HostFault"]
theorem GY (P:Params):(qp.all fun C=>gO P (C++".__init__") ["self","text"] qW)=true:=by kernel_rfl
section
variable {w:World} {A:Around} {st:List Env} {fr:List Addr} {c:Cur} {s:Shared} {e:Addr} {tv:Value} {R:Result→Shared→Prop} {C:String}
theorem J2 {K:Fc} {h:Heap} {g:Array GenState} {dr:Drawn} {t:Nat} {os:OsState} (hkd:K.env.scope.kind=.function) (hlc:K.env.locals=K.N) {n:String} {x:Str} {m:Str→Option Value} {v:Value} (hn:zB K.env.scope.names .local n x=true) (N:h.Ns K.N m) (e:m (Str.ofString n)=some v) {pos:Pos} {Q:Value→Shared→Prop} {E:Value→Shared→Prop} (q:Q v ⟨h,g,dr,t,os⟩):
  wpAny (model pw K.w) K.A (eval (.Name x pos) K.env) Q E ⟨h,g,dr,t,os⟩:=by
 obtain ⟨ex,h2,h3⟩:=zF hn
 exact wpAny_Name (wpAny_loadName_local hkd (zy rfl h3) (hlc▸N) (ex▸e) q) h2
theorem KG {K:Fc} {h:Heap} {g:Array GenState} {dr:Drawn} {t:Nat} {os:OsState} (hkd:K.env.scope.kind=.function) (hlc:K.env.locals=K.N) {mA m:Str→Option Value} {ns:List Str} {name:String} {x:Str} {y:Expr} {p p' pos:Pos} {v:Value} {Q:Flow→Shared→Prop} {E:Value→Shared→Prop} (X:(KF K.w.params).In h) (ok:yB (KF K.w.params) (CA C) (Str.ofString name)=true) (I:h.Inst e (CA C) mA) (N:h.Ns K.N m)
  (hn:zB K.env.scope.names .local "self" x=true) (es:m (Str.ofString "self")=some (.ref e)) (hy:∀ Q:Value→Shared→Prop,(∀ tk,Q v ⟨h,g,dr,tk,os⟩)→wpAny (model pw K.w) K.A (eval y K.env) Q E ⟨h,g,dr,t,os⟩) (sw:swapsWithSole [.Attribute (.Name x p) (Str.ofString name) p'] y 0 K.env=pure false) (nt:swappedStores [.Attribute (.Name x p) (Str.ofString name) p'] y K.env=pure none)
  (hq:∀ h' tk',h'.Inst e (CA C) (fun y=>if y=Str.ofString name then some v else mA y)→Put e h h'→Q .next ⟨h',g,dr,tk',os⟩) (hw:Within mA ns) (hsz:ns.length≤100):
  wpAny (model pw K.w) K.A (exec (.Assign [.Attribute (.Name x p) (Str.ofString name) p'] y pos) K.env) Q E ⟨h,g,dr,t,os⟩:=by
 refine wpAny_Assign_stores ?_ sw nt
 refine hy _ fun tk=>?_
 show wpAny _ _ (assign (.Attribute _ _ _) K.env v) _ _ _
 rw [arm_assign_Attribute]
 refine wpAny_bind (wpAny_holding (J2 hkd hlc hn N es ?_))
 refine wpAny_bind (wpAny_standAt (wpAny_bind (wpAny_holding ?_)))
 exact GZ X ok I (fun h' tk' i1 i2=>wpAny_release' (hq h' tk' i1 i2)) hw hsz
theorem U4 (hC:C∈qp) (hset:yB (KF w.params) (CA C) (Str.ofString "number")=true∧yB (KF w.params) (CA C) (Str.ofString "text")=true) (hroom:A.depth < 1000) (hfr:A.frames=some st) (hh:A.handled=none) (stk:Stk st s.heap)
  (sub:∀ b∈frs st,b∈fr) (thr:jr fr c.h) (heq:s.heap=c.h) (W:c.WS w fr) (he:∃ o,s.heap.get? e=some o∧o.cls=.ref (CA C)∧(∀ c,o.data≠.cls c)∧o.dict=none) (hb:(hf w.params).get? e=none)
  (q:∀ s':Shared,(∀ b o,b≠e→s.heap.get? b=some o→s'.heap.get? b=some o)→(∀ o₀,s.heap.get? e=some o₀→∃ o₁,s'.heap.get? e=some o₁∧o₁.cls=o₀.cls∧o₁.data=o₀.data)→s'.gens=s.gens→s'.os=s.os→R (.ok (.ret .none)) s'):
  codeAny (model pw w) A (.call (.ref (FA (C++".__init__"))) ⟨[.ref e,tv],[]⟩) R s:=by
 refine Vn (names:=["self","text"]) (List.all_eq_true.mp (GY w.params) C hC) hroom hfr hh stk sub thr heq W (YW rfl) fun fd body K c0 m s0 hbd hK _ hkd eσ eρ I0 zr _ E keep g o=>?_
 have ms:m (Str.ofString "self")=some (.ref e):=zr rfl
 have mt:m (Str.ofString "text")=some tv:=zr (by kernel_rfl)
 have Kw:K.w=w:=by rw [hK];rfl
 have hkd:K.env.scope.kind=.function:=by rw [hK];exact hkd
 have hlc:K.env.locals=K.N:=by rw [hK];rfl
 have hN:K.N=s.heap.objs.size:=by rw [hK];rfl
 clear hK
 revert Kw
 rintro rfl
 obtain ⟨s1,p1,p1',k1,q1,pos1,s2,p2,p2',t,p3,pos2,eb,n1,n3,n4⟩:=qW.el hbd
 rw [eb]
 obtain ⟨o0,he0,he1,he2,he3⟩:=he
 have hs0:s0.heap=c0.h:=I0.heap
 have e0:s0.heap.get? e=some o0:=hs0▸keep _ _ (heq▸he0)
 have ne:K.N≠e:=fun z=>zL (zA.symm.trans ((congrArg (fun x=>s.heap.get? x) (hN.symm.trans z)).trans he0))
 have N0:=I0.ns
 have W0:=I0.ws.base
 rw [← hs0] at keep W0
 obtain ⟨h0,g0,d0,t0,os0⟩:=s0
 have Xk:∀ {h1:Heap},(∀ b o,b≠e→h0.get? b=some o→h1.get? b=some o)→(KF K.w.params).In h1:=fun {h1} k=>ua fun b o q=>k b o (fun z=>zL (hb.symm.trans (z▸q))) (W0 b o q)
 refine wpAny_execs_cons (KG (h:=h0) (ns:=[]) (y:=.Constant (.int 0) _ _) hkd hlc (Xk fun _ _ _ h=>h) hset.1 ⟨o0,e0,he1,he2,.inl ⟨he3,fun _=>rfl⟩⟩ N0 n1 ms (v:=.int 0 t0) (fun Q q=>fun _ _ _=>q _) (jw _ _ _ _) rfl (fun h1 t1 I1 P1=>?_) Within.nil (Nat.zero_le _))
 obtain ⟨k1,x1⟩:=P1
 have k1':∀ b o,b≠e→h0.get? b=some o→h1.get? b=some o:=fun b o nb q=>k1 b o nb (fun o₀ dx q1 q2=>zL (he3.symm.trans ((congrArg Obj.dict (Option.some.inj (e0.symm.trans q1))).trans q2))) q
 have N1:h1.Ns K.N m:=N0.at fun o q=>k1' _ o ne q
 obtain ⟨o1,f1,f2,f3,f4,f5,f6⟩:=x1 o0 e0
 obtain ⟨dx,f7,f8⟩:=f6 he3
 refine wpAny_execs_cons (KG (h:=h1) (ns:=[Str.ofString "number"]) (y:=.Name t p3) hkd hlc (Xk k1') hset.2 I1 N1 n3 ms (v:=tv) (fun Q q=>J2 hkd hlc n4 N1 mt (q _)) (jw _ _ _ _) rfl (fun h2 t2 I2 P2=>wpAny_execs_nil ?_) (Within.cons _ _ Within.nil) (by decide))
 obtain ⟨k2,x2⟩:=P2
 obtain ⟨o2,g1,g2,g3,g4,g5,g6⟩:=x2 o1 f1
 refine q _ (fun b o nb qq=>?_) (fun o₀ qq=>?_) g o
 ·have b0:h0.get? b=some o:=keep b o (heq▸qq)
  refine k2 b o nb (fun o₀ dx' q1 q2 z=>?_) (k1' b o nb b0)
  have ed:dx=dx':=Option.some.inj (f7.symm.trans ((congrArg Obj.dict (Option.some.inj (f1.symm.trans q1))).trans q2))
  exact zL (f8.symm.trans ((congrArg (fun x=>h0.get? x) (ed.trans z.symm)).trans b0))
 ·rw [← Option.some.inj (he0.symm.trans qq)]
  exact ⟨o2,g1,g2.trans f2,g3.trans f3⟩
end
noncomputable def HK (P:Params) (C:String):Bool:=yB (KF P) (CA C) "number"&&yB (KF P) (CA C) "text"&&(findIn (KF P) (.ref (CA C)) "__init__"==some (some (.ref (FA (C++".__init__")))))&&isFn (KF P) (.ref (FA (C++".__init__")))&&(subIn (KF P) (.ref (CA C)) (.ref (CA C))==some true)
theorem KH (P:Params):(qp.all fun C=>HK P C)=true:=by kernel_rfl
theorem Q4 (w:World) {C:String} (hC:C∈qp):∃ nm q N bs bm hdct sn sub ab col dd k0 k1 k2 k3 k5,(∀ h:Heap,YP w h→h.get? (CA C)=some (excClassObj nm q (CA C) N bs bm hdct sn sub ab col dd k0 k1 k2 k3 k5 "Exception.__new__"))∧
  bm.contains (.type "Exception")=true∧bm.contains (.type "BaseException")=true∧bm.contains (.type "AttributeError")=false∧bm.contains (.type "NameError")=false:=by
 have bm1:([.ref 39,.type "Exception",.type "BaseException",.type "object"]:List Value).contains (.type "Exception")=true:=by decide
 have bm2:([.ref 39,.type "Exception",.type "BaseException",.type "object"]:List Value).contains (.type "BaseException")=true:=by decide
 have bm3:([.ref 39,.type "Exception",.type "BaseException",.type "object"]:List Value).contains (.type "AttributeError")=false:=by decide
 have bm4:([.ref 39,.type "Exception",.type "BaseException",.type "object"]:List Value).contains (.type "NameError")=false:=by decide
 unfold qp at hC
 rcases List.mem_cons.mp hC with rfl | hC
 ·exact ⟨_,_,_,_,[.ref 39,.type "Exception",.type "BaseException",.type "object"],_,_,_,_,_,_,_,_,_,_,_,fun h Y=>Y.at_ (a:=80) rfl rfl rfl,bm1,bm2,bm3,bm4⟩
 ·cases List.mem_singleton.mp hC
  exact ⟨_,_,_,_,[.ref 39,.type "Exception",.type "BaseException",.type "object"],_,_,_,_,_,_,_,_,_,_,_,fun h Y=>Y.at_ (a:=100) rfl rfl rfl,bm1,bm2,bm3,bm4⟩
section
variable {M:Model} {A:Around} {E:Value→Shared→Prop} {env:Env}
variable {nm q:Str} {C N:Addr} {bs bm:List Value} {hdct:Bool} {sn:List Str} {sub:List Value} {ab:Bool} {col:Option Bool} {dd:Option Addr} {k0 k1 k2 k3 k5:Option Value} {newId:String}
theorem KD {s:Shared} {x:Sem Value} {Q:Flow→Shared→Prop} (hbase:bm.contains (.type "BaseException")=true) (hh:A.handled=none)
  (h:wpAny M A x (fun v s₁=>∃ e t dct sl,v=.ref e∧s₁.heap.get? C=some (excClassObj nm q C N bs bm hdct sn sub ab col dd k0 k1 k2 k3 k5 newId)∧
   s₁.heap.get? e=some ⟨.ref C,dct,.fields #[.ref t,.none,.none,.none,.bool false,.none],sl⟩∧E (.ref e) s₁) E s):
  wpAny M A (raiseStmt env (some x) none) Q E s:=by
 have hcB:(Value.ref C::bm).contains (.type "BaseException")=true:=by rw [List.contains_cons,hbase,Bool.or_true]
 unfold raiseStmt
 refine wpAny_bind (wpAny_mono h (fun v s₁ h₁=>?_) fun _ _ x=>x)
 obtain ⟨e,t,dct,sl,rfl,hC,he,hE⟩:=h₁
 obtain ⟨hp,g,d,tk,os⟩:=s₁
 repeat (first | with_reducible refine wpAny_loadPart_at he ?_ | with_reducible refine wpAny_loadPart_at hC ?_ | (with_reducible refine wpAny_isSubtype_exc hC ?_;rw [hcB]) | wp_step)
 exact wpAny_raiseNew_none hh hE
end
theorem WS.hide {w:World} {σ:St} {ρ:Loc→Addr×Addr} {fr as:List Addr} {h:Heap} (W:WS w σ ρ fr h) (k:∀ a∈as,a∈fr):WS w σ ρ fr (hideAll h as):=by
 have keep:∀ b o,h.get? b=some o→¬ Mut σ ρ fr b→(hideAll h as).get? b=some o∧¬ Mut σ ρ fr b:=fun b o e n=>⟨hideAll_get _ e fun z=>n (.inr (k _ z)),n⟩
 refine ⟨fun b o e=>hideAll_get _ (W.base b o e) fun z=>?_,fun l c e=>⟨(W.cells l c e).1,(W.cells l c e).2.mono (Nat.le_refl _) (fun _ _=>rfl) keep fun o ob=>hideAll_get _ ob fun z=>W.sep l c e (k _ z)⟩,W.inj,W.sep,W.notbase⟩
 have:=W.notbase b (.inr (k _ z));rw [this] at e;cases e
theorem vH {h h':Heap} {as:List Addr} (kp:∀ b o,h.get? b=some o→h'.get? b=some o):∀ {l:List Env},Stk l h→(∀ b∈frs l,b∈as)→h'.FunFrames (hideAll h as) l
 | [],_,_=>trivial
 | e::l,S,k=>by
  obtain ⟨p,L,o,q1,q2,q3⟩:=S e (.head _)
  have kL:L∈as:=k L (by rw [frs,List.filterMap_cons,q1];exact .head _)
  refine ⟨p,⟨L,o,q1,hideAll_none _ kL,kp _ _ q2,q3⟩,vH kp (fun x hx=>S x (.tail _ hx)) fun b hb=>k b ?_⟩
  rw [frs,List.filterMap_cons,q1]
  exact .tail _ hb
theorem Q3 {C:String} (h:(C=="ParseStop"||C=="HostFault")=true):C∈qp:=
 (Bool.or_eq_true_iff.mp h).elim (fun h=>beq_iff_eq.mp h▸.head _) fun h=>beq_iff_eq.mp h▸.tail _ (.head _)
section
variable {K:Fc} {d:Nat} {sc:List (Str×NameKind)} {c c':Cur} {m m':Str→Option Value} {s s' s₀:Shared} {F F':Frm}
theorem Q0 (I:K.In c m s) (FR:FrR K c m F) {X:XP} {C:String} (hx:X .made C F c.σ) {e:Addr} {oe:Obj} {vs:Array Value} {a0:Value} (he:c.h.get? e=none) (kp:∀ b o,c.h.get? b=some o→s'.heap.get? b=some o) (ho:s'.heap.get? e=some oe) (hc:oe.cls=.ref (CA C)) (hd:oe.data=.fields vs) (h1:vs[1]?=some .none) (h0:vs[0]?=some a0) (g:s'.gens=s.gens) (o:s'.os=s.os):K.LXS c s X (.ref e) s':=by
 have W:=WS.hide I.ws I.sub
 refine ⟨C,.made,e,F,m,⟨c.σ,c.ρ,hideAll c.h (frs K.st)⟩,rfl,hx,⟨fun b o q=>kp _ _ (of_hideAll _ q),?_,vH kp (I.heap▸I.stk) fun b hb=>hb,oe,vs,a0,ho,hc,hd,h1,h0⟩,W,⟨Nat.le_refl _,fun _ _=>rfl,fun b o q n=>hideAll_get _ q fun z=>n (.inr (I.sub _ z)),fun a z=>.inl z⟩,⟨fun a o q n=>⟨o,hideAll_get _ q n⟩,fun b hb n o q=>⟨o.slots,hideAll_get _ q n⟩⟩,fun b hb o q=>⟨o.slots,kp _ _ q⟩,(I.heap▸I.ns:c.h.Ns K.N m).keeps kp,?_,g,o⟩
 ·cases q:(hideAll c.h (frs K.st)).get? e with
  | none=>rfl
  | some o=>have:=of_hideAll _ q;rw [he] at this;cases this
 ·intro n mv h
  obtain ⟨v,p,q⟩:=FR n mv h
  exact ⟨v,p,RV.mono (Nat.le_refl _) (fun _ _=>rfl) (fun b o e nn=>⟨hideAll_get _ e fun z=>nn (.inr (I.sub _ z)),nn⟩) q⟩
theorem Yp {h:Heap} {vs:List Value} {C:Addr}:((h.push (yH vs)).push (je C h.objs.size)).get? (h.objs.size+1)=some (je C h.objs.size):=by
 have:=Heap.get?_push_size (h.push (yH vs)) (o:=je C h.objs.size) rfl
 rwa [Heap.size_push] at this
theorem U3 {w:World} {e:Addr} (Y:YP w c.h) (hno:c.h.get? e=none):(hf w.params).get? e=none:=by
 cases q:(hf w.params).get? e with
 | none=>rfl
 | some o=>exact zL (hno.symm.trans (Y _ _ q))
theorem Uh (O:K.Ok (d+1)) (hs:sc=K.env.scope.names) {C:String} {es:List E} {x:Stmt} (h:okS sc (.rais C es) x=true):SS K (RC d) (.rais C es) x:=by
 refine UG.el (fun x y pos h=>?_) h
 obtain ⟨h,h2⟩:=zb h
 obtain ⟨h1,h0⟩:=zb h
 rw [Option.isNone_iff_eq_none.mp h1]
 refine jA.el (P:=fun x=>SS K (RC d) (.rais C es) (.Raise x none pos)) (fun x h2=>?_) h2
 refine jf.el (P:=fun x=>SS K (RC d) (.rais C es) (.Raise (some x) none pos)) (fun S p xs p' hn h2=>?_) h2
 intro F c m s Q X I FR hw
 obtain ⟨en,h3,h4⟩:=zF hn
 obtain ⟨hC,hw⟩:=hw
 have hm:=Q3 hC
 have T:=List.all_eq_true.mp (KH K.w.params) C hm
 obtain ⟨T,t5⟩:=zb T
 obtain ⟨T,t4⟩:=zb T
 obtain ⟨T,t3⟩:=zb T
 obtain ⟨t1,t2⟩:=zb T
 obtain ⟨nm,q,N,bs,bm,hdct,sn,sub,ab,col,dd,k0,k1,k2,k3,k5,hob,hB,hBE,hA,hN⟩:=Q4 K.w hm
 rw [arm_exec_Raise]
 refine wpAny_bind (wpAny_standAt (KD (C:=CA C) hBE O.hand (nm:=nm) (q:=q) (N:=N) (bs:=bs) (bm:=bm) (hdct:=hdct) (sn:=sn) (sub:=sub) (ab:=ab) (col:=col) (dd:=dd) (k0:=k0) (k1:=k1) (k2:=k2) (k3:=k3) (k5:=k5) (newId:="Exception.__new__") (wpAny_bind (ux (H:=fun h=>YP K.w h) hs hn h2 (yT es O hs) I FR hw
  (fun q=>Name_function_global O.kind (zy hs h4) (loadGlobal_global (In.gns O I) (en▸ZI (Ju K.w.params h0) _) q) h3) (fun h Y=>⟨.machine,.inr (.inl rfl),fun A Q E s' k qq=>?_⟩) (fun c' s' _ I _=>I.heap▸I.ws.base) (fun _ _ x=>x.stm FR) fun {c1 s1 vs mvs} e2 e3 e4 e1 e5 e6=>?_))))
 ·obtain ⟨hh,g,dr,tk,os⟩:=s'
  exact wpAny_keeperOf_exc (k _ _ (hob h Y)) qq
 ·obtain ⟨z2,z3⟩:=e1
  have Y1:YP K.w c1.h:=e2.ws.base
  have Xk:(KF K.w.params).In c1.h:=ua Y1
  obtain ⟨tv,ev⟩:=List.length_eq_one_iff.mp (e4.len.trans z2)
  have hno:c1.h.get? (c1.h.objs.size+1)=none:=Heap.get?_none_of_le (Nat.le_succ _)
  have k2:∀ b o,c1.h.get? b=some o→((c1.h.push (yH vs)).push (je (CA C) c1.h.objs.size)).get? b=some o:=fun b o e=>Heap.get?_push_of_some _ (Heap.get?_push_of_some _ e)
  obtain ⟨I2,E2⟩:=e2.grow k2 s1.toks
  have hh1:=e2.heap
  obtain ⟨h1,g1,dr1,tk1,os1⟩:=s1
  have hh1:h1=c1.h:=hh1
  rw [hh1] at e2 e6 e5 I2 ⊢
  refine U5 hB hA hN (hob _ Y1) (looks_subIn Xk (beq_iff_eq.mp t5)) (looks_findIn Xk (beq_iff_eq.mp t3)) (fun self=>bind_fn Xk self (beq_iff_eq.mp t4)) ?_ (by rw [ev,sizeLine_eq];exact Nat.le_of_ble_eq_true rfl)
  rw [ev] at k2 I2 E2 ⊢
  refine U4 (w:=K.w) (fr:=K.fr) (st:=K.st) (c:=⟨c1.σ,c1.ρ,_⟩) hm ⟨t1,t2⟩ ?_ ((w8 _ _ _).trans O.frames) O.hand I2.stk I2.sub I2.there rfl I2.ws ⟨_,Yp,rfl,(fun _ q=>by cases q),rfl⟩ (U3 Y1 hno) fun s' kp ob g o=>?_
  ·rw [depth_under_kw]
   exact Nat.lt_of_le_of_lt (Nat.add_le_add_left (Nat.succ_le_succ (Nat.zero_le d)) _) (Nat.lt_trans O.room.depth (by decide))
  ·obtain ⟨o₁,p1,p2,p3⟩:=ob _ Yp
   have kp':∀ b o,c1.h.get? b=some o→s'.heap.get? b=some o:=fun b o q=>kp b o (fun z=>zL (hno.symm.trans (z▸q))) (k2 b o q)
   have L:=(Q0 e2 (FR.ext e3) z3 hno kp' p1 p2 p3 rfl rfl g o).from e3 e5 e6
   obtain ⟨cl,dct,dat,sl⟩:=o₁
   have p2:cl=_:=p2
   have p3:dat=_:=p3
   rw [p2,p3] at p1
   exact wpAny_bind (wpAny_standAt (wpAny_pure ⟨_,_,_,_,rfl,hob _ (fun b o q=>kp' _ _ (Y1 _ _ q)),p1,L⟩))
end
theorem WY {K:Fc} {d:Nat} (O:K.Ok d):interactive K.env=false:=by
 unfold interactive;rw [O.kind];rfl
mutual
theorem Xg {d:Nat}:∀ (t:S) {K:Fc} {sc:List (Str×NameKind)},FOk K (d+1)→sc=K.env.scope.names→∀ x,okS sc t x=true→SS K (RC d) t x
 | .asg tg e,K,sc,O,hs=>fun x h=>Qf O.toOk hs h
 | .asgA o n e,K,sc,O,hs=>fun x h=>Ur O.toOk hs h
 | .asgI o i e,K,sc,O,hs=>fun x h=>Up O.toOk hs h
 | .augX n o e,K,sc,O,hs=>fun x h=>Um O.toOk hs h
 | .augA b n o e,K,sc,O,hs=>fun x h=>Uo O.toOk hs h
 | .augI b i o e,K,sc,O,hs=>fun x h=>Un O.toOk hs h
 | .ex e,K,sc,O,hs=>fun x h=>HR O.toOk hs (WY O.toOk) h
 | .ret e,K,sc,O,hs=>fun x h=>Qb O.toOk hs h
 | .iff t a b,K,sc,O,hs=>fun x h=>Qd O.toOk hs h (yS a O hs) (yS b O hs)
 | .whl t b,K,sc,O,hs=>fun x h=>Qa O hs h (yS b O hs)
 | .forr n it b,K,sc,O,hs=>fun x h=>Uj O hs h fun y hy K' O' e=>yS b O' (hs.trans (e▸rfl)) y hy
 | .forR n c b,K,sc,O,hs=>fun x h=>Uk O hs h fun y hy K' O' e=>yS b O' (hs.trans (e▸rfl)) y hy
 | .brk,K,sc,O,hs=>fun x h=>Qe h
 | .cont,K,sc,O,hs=>fun x h=>Ul h
 | .rais C es,K,sc,O,hs=>fun x h=>Uh O.toOk hs h
 | .tr b hd,K,sc,O,hs=>fun x h=>HQ O hs h (yS b O hs)
theorem yS {d:Nat}:∀ (ts:List S) {K:Fc} {sc:List (Str×NameKind)},FOk K (d+1)→sc=K.env.scope.names→∀ x,jt sc ts x=true→SSs K (RC d) ts x
 | [],K,sc,O,hs=>fun x h=>by
  rw [List.isEmpty_iff.mp h];exact Ue
 | t::ts,K,sc,O,hs=>fun x h=>zQ.el (fun x xs h=>wd (Xg t O hs x (zb h).1) (yS ts O hs xs (zb h).2)) h
end
noncomputable def zo (P:Params) (f:String) (names:List String) (b:List S):Bool:=gO P f names fun sc x=>jt sc b x
noncomputable def Hg (Φ:Out→St→Prop) (fl:Fl) (_:Frm) (σ:St):Prop:=Fl.casesOn fl (Φ (.ret .none) σ) False False fun v=>Φ (.ret v) σ
noncomputable def Hf (Φ:Out→St→Prop):XP:=fun _ C _ σ=>Φ (.exc C) σ
theorem Wk {f:String} {names:List String} {b:List S} (h:∀ P,zo P f names b=true) {d:Nat} {args:List V} {σ:St} {Φ:Out→St→Prop} {args0:List V}
  (hb:∀ {w:World} {fr:List Addr} {c:Cur} {s:Shared} {avs:List Value},c.RVs fr avs args0→∃ avs',c.RVs fr avs' args∧∀ fd r,YI w.params f=some fd→XL w.params fd.defaults=some r→YP w s.heap→zW fd.params (names.map Str.ofString)=true→(names.map Str.ofString).Nodup→BindsTo s fd ⟨avs,[]⟩ ((names.map Str.ofString).zip avs'))
  (hw:jv (RC d) b (names.zip args) (Hg Φ) (Hf Φ) σ):RC (d+2) f args0 σ Φ:=by
 intro w A st fr c s avs R room hfr hh stk sub thr heq hσ W r q x
 obtain ⟨avs',r',hb⟩:=hb (w:=w) (s:=s) r
 refine MT (h w.params) room hfr hh stk sub thr heq W r' hb fun fd body K c0 m s0 hg hK FO eσ I FR E g o=>?_
 have Kw:K.w=w:=by rw [hK];rfl
 have hL:c.h.get? s.heap.objs.size=none:=heq▸zA
 have body:=yS b FO rfl body hg (names.zip args) c0 m s0 _ _ I FR (by rw [eσ,hσ];exact hw)
 rw [Kw] at body
 refine wpAny_mono body (fun f s1 z'=>z'.el fun fl F1 c1 m1 e0 e1 e2 e3 e4 e5 e6=>?_) fun e s1 L=>?_
 ·obtain ⟨B1,B2,B3⟩:=Gh hK hL E e2 e4
  cases e0 with
  | next=>exact q .none .none c1 s1 e1 e2.heap B1 B2 .none (e5.trans g) (e6.trans o)
  | brk=>exact e1.elim
  | cont=>exact e1.elim
  | ret r1=>exact q _ _ c1 s1 e1 e2.heap B1 B2 (B3 r1) (e5.trans g) (e6.trans o)
 ·refine Vf hK FO hL E L fun md C F ea a0 c' h' z1 z2 z3 z4 z5 z6 z7 z8 z9=>?_
  rw [z1]
  exact x C ea a0 c' _ z2 z3 z4 z5 z6 z7 (z8.trans g) (z9.trans o)
theorem N7 {f:String} {names:List String} {b:List S} (h:∀ P,zo P f names b=true) {d:Nat} {args:List V} {σ:St} {Φ:Out→St→Prop} (hl:args.length=names.length) (hw:jv (RC d) b (names.zip args) (Hg Φ) (Hf Φ) σ):RC (d+2) f args σ Φ:=
 Wk h (fun r=>⟨_,r,YW (r.len.trans hl)⟩) hw
noncomputable def dfl (P:Params) (f:String):Option Str:=bd (YI P f) fun fd=>bd (XL P fd.defaults) fun r=>bd r fun arr=>bd (one arr.toList) Ub
theorem Qz {f n1 n2:String} {b:List S} {t:List Nat} (hne:Str.ofString n1≠Str.ofString n2) (h:∀ P,zo P f [n1,n2] b=true) (hdf:∀ P,dfl P f=some (sv t)) {d:Nat} {v:V} {σ:St} {Φ:Out→St→Prop} (hw:jv (RC d) b ([n1,n2].zip [v,.str t]) (Hg Φ) (Hf Φ) σ):RC (d+2) f [v] σ Φ:=by
 refine Wk h (fun {w fr c s avs} r=>?_) hw
 obtain ⟨fd,hf,e⟩:=zc (hdf w.params)
 obtain ⟨r0,hr0,e⟩:=zc e
 obtain ⟨arr,ea,e⟩:=zc e
 obtain ⟨x,ex,e⟩:=zc e
 obtain ⟨tk,et⟩:=uy e
 obtain ⟨v0,ev,rv⟩:=RVs.one r rfl
 rw [ev]
 refine ⟨[v0,.str (sv t) tk],.cons rv (.cons (.str t tk) .nil),fun fd' r' hf' hr' Y hp nd=>?_⟩
 rw [Option.some.inj (hf.symm.trans hf'),hr',ea] at hr0
 have ar:arr=#[.str (sv t) tk]:=Array.toList_inj.mp ((wj ex).trans (et▸rfl))
 rw [Option.some.inj hr0,ar] at hr'
 exact Kx hp (fun M A E Q q=>Vs hr' Y M A E Q q) hne
theorem Y8 {C N:Addr} {o:Obj} {h h2 h3:Heap} (ho:h.get? N=some o) (ne:C≠N) (a:Heap.SameBut N h h2) (b:Heap.SameBut C h2 h3):∃ h1,Heap.SameBut C h h1∧Heap.SameBut N h1 h3:=by
 have hz:o.isFreed=false:=(Heap.get?_some_iff.mp ho).2
 have en:h3.get? N=h2.get? N:=b.2 N ne.symm
 have sz:h3.objs.size=h.objs.size:=b.1.trans a.1
 cases q:h2.get? N with
 | none=>
  let h1:Heap:=⟨h3.objs.setIfInBounds N o,h3.life⟩
  have g1:∀ x,x≠N→h1.get? x=h3.get? x:=fun x hx=>by
   simp only [Heap.get?,h1,Array.getElem?_setIfInBounds,if_neg (Ne.symm hx)]
  have g2:h1.get? N=some o:=by
   refine Heap.get?_some_iff.mpr ⟨?_,hz⟩
   show (h3.objs.setIfInBounds N o)[N]?=_
   have:=Heap.lt_size ho
   have h3z:N < h3.objs.size:=sz▸this
   rw [Array.getElem?_setIfInBounds];simp only [if_true];rw [if_pos h3z]
  refine ⟨h1,⟨(by show (h3.objs.setIfInBounds N o).size=_;rw [Array.size_setIfInBounds];exact sz),fun x hx=>?_⟩,⟨(by show _=(h3.objs.setIfInBounds N o).size;rw [Array.size_setIfInBounds]),fun x hx=>(g1 x hx).symm⟩⟩
  by_cases z:x=N
  ·subst z;exact g2.trans ho.symm
  ·exact (g1 x z).trans ((b.2 x hx).trans (a.2 x z))
 | some o2=>
  refine ⟨h3.update N fun _=>o,⟨(Heap.SameBut.update h3 N fun _=>o).1.trans sz,fun x hx=>?_⟩,⟨(Heap.SameBut.update h3 N fun _=>o).1.symm,fun x hx=>((Heap.SameBut.update h3 N fun _=>o).2 x hx).symm⟩⟩
  by_cases z:x=N
  ·subst z
   exact (Heap.get?_update_self (fun _=>o) (en.trans q) hz).trans ho.symm
  ·exact ((Heap.SameBut.update h3 N fun _=>o).2 x z).trans ((b.2 x hx).trans (a.2 x z))
theorem Uq {K:Fc} {d:Nat} {sc:List (Str×NameKind)} (O:K.Ok (d+1)) (hs:sc=K.env.scope.names) {k:Nat} {e:E} {tg:List String} {it:E} {n:String} {x:Expr} {px spos:Pos} (h:okE sc (.comp k e tg it) x=true)
  (hsw:swapsWith x (some (.Name (Str.ofString n) px)) spos.line K.env=pure true) (hk:K.env.kindOf (Str.ofString n)=some .local):SS K (RC d) (.asg [n] (.comp k e tg it)) (.Assign [.Name (Str.ofString n) px] x spos):=by
 revert hsw
 refine JC (P:=fun x=>swapsWith x (some (.Name (Str.ofString n) px)) spos.line K.env=pure true→SS K (RC d) (.asg [n] (.comp k e tg it)) (.Assign [.Name (Str.ofString n) px] x spos)) (fun elt t i scope pos h1 h2 h3 h4 hsw=>?_) h
 intro F c m s Q X I FR hw
 obtain ⟨p1,p2,p3,p4⟩:=kR h1
 rw [exec_Assign_Name_used _ _ _ _ hsw]
 refine wpAny_bind (wpAny_standAt (wpAny_bind ?_))
 show wpAny _ K.A (do let _ ← comprehension (.ListComp elt [⟨t,i,[],0⟩] scope pos) scope K.env _ (newList []) false (eval i K.env) (some (assign (.Name (Str.ofString n) px) K.env))) _ _ s
 refine wpAny_bind (wpAny_mono (wpAny_comprehension_use (u:=assign (.Name (Str.ofString n) px) K.env) (Q:=fun _ s'=>K.LF c s Q .next s') rfl (fun x=>WC h3 K.env x) p2 p1 p4
  (qM (Q:=fun v σ=>op (yn [n] v F) fun F'=>Q .next F' σ) (X:=fun C σ=>X .fly C F σ) (P:=fun acc cenv r s'=>match r with
     | .ok _=>wpAny (model pw K.w) K.A (assign (.Name (Str.ofString n) px) K.env acc) (fun _ s''=>∃ m,s''.heap.Ns cenv.locals m∧∀ h',Heap.SameBut cenv.locals s''.heap h'→K.LF c s Q .next {s'' with heap:=h'}) (K.LXS c s X) s'
     | .error x=>∃ m,s'.heap.Ns cenv.locals m∧∀ h',Heap.SameBut cenv.locals s'.heap h'→wpAny (model pw K.w) K.A (passOn "comprehension.variables-let-go" x cenv) (fun _ s'=>K.LF c s Q .next s') (K.LXS c s X) {s' with heap:=h'}) O hs h1 h2 h3 h4 (zh it O hs).1 (fun K' O'=>(zh e O' rfl).1) I FR hw (fun _ _ z=>z.stm FR) (fun D C cenv r s' ec hr ne=>?_))) (fun _ s' hq=>wpAny_pure (wpAny_pure hq)) fun _ _ e=>e)
 rw [ec]
 obtain ⟨mc,nC,hr⟩:=hr
 cases r with
 | error z=>exact (hr _ (.refl _ _)).elim
 | ok fl=>
  obtain ⟨mv,c1,q1,I1,E1,rv1,g1,o1⟩:=hr _ (.refl _ _)
  show wpAny _ K.A (assign (.Name (Str.ofString n) px) K.env D) _ _ _
  refine wpAny_assign_Name (wpAny_storeName_local hk (O.loc▸I1.ns) (fun h2 hn hs2=>?_) (by rw [O.kind];rfl))
  rw [O.loc] at hn hs2
  refine ⟨mc,nC.sameBut hs2 ne,fun h3 hs3=>?_⟩
  obtain ⟨o,_,_,eo,_⟩:=I1.ns
  obtain ⟨hh,k1,k2⟩:=Y8 eo ne hs2 hs3
  obtain ⟨mv,c2,q2,I2,E2,rv2,g2,o2⟩:=hr hh k1
  obtain ⟨c3,m3,eσ,I3,FR3,E3,g3,o3⟩:=In.store O I2 (FR.ext E2) rv2 (hn.sameBut hs3 ne.symm) k2 _
  exact ⟨.next,_,c3,m3,.next,eσ▸q2,I3,FR3,E2.trans E3,g3.trans g2,o3.trans o2⟩
end
section
open PySem PySem.W PyProof.Rows
noncomputable def u9:List S:=[.asgA (.x "self") "number" (.x "number"),
 .asgA (.x "self") "at" (.x "at"),
 .asgA (.x "self") "args" (.x "args"),
 .asgA (.x "self") "file" (.x "file")]
noncomputable def gT:List S:=[.ret (.tup [.at (.x "self") "number",.at (.x "self") "at",.at (.x "self") "args"])]
noncomputable def v7:List S:=[.asgA (.x "self") "rows" (.lst 1 []),
 .asgA (.x "self") "file" (.x "file")]
noncomputable def u8:List S:=[.ex (.me 100 (.at (.x "self") "rows") "append" [.new 101 "Diag" [.x "number",.x "at",.x "args",.at (.x "self") "file"]])]
noncomputable def v3:List S:=[.asgA (.x "self") "kind" (.x "kind"),
 .asgA (.x "self") "text" (.x "text"),
 .asgA (.x "self") "num" (.x "num"),
 .asgA (.x "self") "at" (.x "at"),
 .asgA (.x "self") "end" (.x "end"),
 .asgA (.x "self") "line_before" (.x "line_before")]
noncomputable def u7:List S:=[.asgA (.x "self") "at" (.at (.x "p") "at"),
 .asgA (.x "self") "told" (.bi 102 "len" [.at (.at (.x "p") "diags") "rows"]),
 .asgA (.x "self") "splits" (.bi 103 "len" [.at (.x "p") "splits"]),
 .asgA (.x "self") "covers" (.sl 6 (.at (.x "p") "covers") (.k .none) (.k .none)),
 .asgA (.x "self") "deep" (.at (.x "p") "deep"),
 .asgA (.x "self") "pending" (.at (.x "p") "pending"),
 .asgA (.x "self") "allow_in" (.at (.x "p") "allow_in"),
 .asgA (.x "self") "in_func" (.at (.x "p") "in_func"),
 .asgA (.x "self") "in_loop" (.at (.x "p") "in_loop"),
 .asgA (.x "self") "in_switch" (.at (.x "p") "in_switch"),
 .asgA (.x "self") "labels" (.sl 7 (.at (.x "p") "labels") (.k .none) (.k .none)),
 .asgA (.x "self") "no_cond" (.at (.x "p") "no_cond"),
 .asgA (.x "self") "ret_bar" (.at (.x "p") "ret_bar"),
 .asgA (.x "self") "in_literal" (.at (.x "p") "in_literal")]
noncomputable def jq:List S:=[.asgA (.x "p") "at" (.at (.x "self") "at"),
 .ex (.call "cut_rows" [.at (.at (.x "p") "diags") "rows",.at (.x "self") "told"]),
 .asgA (.x "p") "covers" (.at (.x "self") "covers"),
 .whl (.cmp .gt (.bi 104 "len" [.at (.x "p") "splits"]) (.at (.x "self") "splits")) [.asg ["place","token"] (.me 105 (.at (.x "p") "splits") "pop" []),
  .asgI (.at (.x "p") "tokens") (.x "place") (.x "token")],
 .asgA (.x "p") "deep" (.at (.x "self") "deep"),
 .asgA (.x "p") "pending" (.at (.x "self") "pending"),
 .asgA (.x "p") "allow_in" (.at (.x "self") "allow_in"),
 .asgA (.x "p") "in_func" (.at (.x "self") "in_func"),
 .asgA (.x "p") "in_loop" (.at (.x "self") "in_loop"),
 .asgA (.x "p") "in_switch" (.at (.x "self") "in_switch"),
 .asgA (.x "p") "labels" (.at (.x "self") "labels"),
 .asgA (.x "p") "no_cond" (.at (.x "self") "no_cond"),
 .asgA (.x "p") "ret_bar" (.at (.x "self") "ret_bar"),
 .asgA (.x "p") "in_literal" (.at (.x "self") "in_literal")]
noncomputable def gQ:List S:=[.whl (.cmp .gt (.bi 106 "len" [.x "rows"]) (.x "count")) [.ex (.me 107 (.x "rows") "pop" [])]]
noncomputable def kG:List S:=[.asgA (.x "self") "tokens" (.sl 12 (.x "tokens") (.k .none) (.k .none)),
 .asgA (.x "self") "at" (.k (.int 0)),
 .asgA (.x "self") "diags" (.x "diags"),
 .asgA (.x "self") "parts" (.dct 13 true []),
 .asgA (.x "self") "firsts" (.dct 14 false []),
 .asgA (.x "self") "tails" (.dct 15 false []),
 .asgA (.x "self") "types" (.dct 16 false []),
 .asgA (.x "self") "deep" (.k (.int 0)),
 .asgA (.x "self") "pending" (.tup [.k (.str []),.k (.int 0),.k (.int 0)]),
 .asgA (.x "self") "allow_in" (.k (.bool true)),
 .asgA (.x "self") "in_func" (.k (.int 0)),
 .asgA (.x "self") "in_loop" (.k (.int 0)),
 .asgA (.x "self") "in_switch" (.k (.int 0)),
 .asgA (.x "self") "labels" (.lst 7 []),
 .asgA (.x "self") "no_cond" (.k (.bool false)),
 .asgA (.x "self") "ret_bar" (.k (.bool false)),
 .asgA (.x "self") "in_literal" (.k (.int 0)),
 .asgA (.x "self") "covers" (.lst 6 []),
 .asgA (.x "self") "commas" (.dct 19 true []),
 .asgA (.x "self") "not_arrow" (.dct 20 true []),
 .asgA (.x "self") "splits" (.lst 21 []),
 .asgA (.x "self") "saved" (.lst 22 [])]
noncomputable def v5:List S:=[.ret (.ix (.at (.x "self") "tokens") (.at (.x "self") "at"))]
noncomputable def jO:List S:=[.asg ["place"] (.bin 108 .add (.at (.x "self") "at") (.x "n")),
 .iff (.cmp .ge (.x "place") (.bi 109 "len" [.at (.x "self") "tokens"])) [.asg ["place"] (.bin 110 .sub (.bi 111 "len" [.at (.x "self") "tokens"]) (.k (.int 1)))] [],
 .ret (.ix (.at (.x "self") "tokens") (.x "place"))]
noncomputable def kC:List S:=[.asg ["token"] (.ix (.at (.x "self") "tokens") (.at (.x "self") "at")),
 .iff (.cmp .ne (.at (.x "token") "kind") (.g "T_END")) [.augA (.x "self") "at" .add (.k (.int 1))] [],
 .ret (.x "token")]
noncomputable def xY:List S:=[.ret (.call "is_token" [.ix (.at (.x "self") "tokens") (.at (.x "self") "at"),.g "T_SIGN",.x "text"])]
noncomputable def xX:List S:=[.ret (.call "is_token" [.ix (.at (.x "self") "tokens") (.at (.x "self") "at"),.g "T_WORD",.x "text"])]
noncomputable def xZ:List S:=[.ret (.call "is_token" [.ix (.at (.x "self") "tokens") (.at (.x "self") "at"),.g "T_NAME",.x "text"])]
noncomputable def xE:List S:=[.ret (.call "eat_token" [.x "self",.g "T_SIGN",.x "text"])]
noncomputable def xm:List S:=[.iff (.not (.call "eat_token" [.x "self",.g "T_SIGN",.x "text"])) [.ex (.me 112 (.x "self") "fault" [.k (.int 1005),.tup [.x "text"]])] []]
noncomputable def xn:List S:=[.iff (.cmp .ne (.at (.me 113 (.x "self") "now" []) "kind") (.g "T_NAME")) [.ex (.me 114 (.x "self") "fault" [.k (.int 1003),.tup []])] [],
 .ret (.at (.me 115 (.x "self") "step" []) "text")]
noncomputable def jN:List S:=[.ex (.me 116 (.x "self") "fault_at" [.x "number",.at (.me 117 (.x "self") "now" []) "at",.x "args"])]
noncomputable def xD:List S:=[.ex (.me 118 (.at (.x "self") "diags") "put" [.x "number",.x "at",.x "args"]),
 .rais "ParseStop" [.bi 119 "str" [.x "number"]]]
noncomputable def kH:List S:=[.augA (.x "self") "deep" .add (.k (.int 1)),
 .iff (.cmp .gt (.at (.x "self") "deep") (.g "MAX_DEEP")) [.ex (.me 120 (.at (.x "self") "diags") "put" [.k (.int 9001),.at (.me 121 (.x "self") "now" []) "at",.tup []]),
  .rais "TooDeep" [.k (.int 9001)]] []]
noncomputable def u4:List S:=[.augA (.x "self") "deep" .sub (.k (.int 1))]
noncomputable def kD:List S:=[.iff (.cmp .notin (.x "n") (.at (.x "self") "parts")) [.rais "HostFault" [.bin 122 .add (.k (.str [112,97,114,116,32])) (.bi 123 "str" [.x "n"])]] [],
 .ex (.me 124 (.x "self") "down" []),
 .iff (.cmp .isin (.x "n") (.g "OWN_PARTS")) [.asg ["node"] (.call "read_apart" [.x "self",.ix (.at (.x "self") "parts") (.x "n")])] [.asg ["node"] (.me 125 (.ix (.at (.x "self") "parts") (.x "n")) "parse" [.x "self"])],
 .iff (.cmp .eq (.at (.x "self") "deep") (.k (.int 1))) [.ex (.call "check_height" [.x "self",.x "node"])] [],
 .ex (.me 126 (.x "self") "up" []),
 .ret (.x "node")]
noncomputable def kE:List S:=[.ex (.me 127 (.at (.x "self") "saved") "append" [.new 128 "Mark" [.x "self"]]),
 .ret (.bin 129 .sub (.bi 130 "len" [.at (.x "self") "saved"]) (.k (.int 1)))]
noncomputable def kI:List S:=[.ex (.me 131 (.call "take_mark" [.x "self",.x "number"]) "put_back" [.x "self"])]
noncomputable def kF:List S:=[.ex (.call "take_mark" [.x "self",.x "number"])]
noncomputable def vN:List S:=[.iff (.or (.cmp .lt (.x "number") (.k (.int 0))) (.cmp .ge (.x "number") (.bi 132 "len" [.at (.x "p") "saved"]))) [.rais "HostFault" [.bin 133 .add (.k (.str [116,104,101,114,101,32,105,115,32,110,111,32,116,114,105,97,108,32])) (.bi 134 "str" [.x "number"])]] [],
 .asg ["mark"] (.ix (.at (.x "p") "saved") (.x "number")),
 .ex (.call "cut_rows" [.at (.x "p") "saved",.x "number"]),
 .ret (.x "mark")]
noncomputable def gP:List S:=[.ret (.and (.cmp .eq (.at (.x "token") "kind") (.x "kind")) (.cmp .eq (.at (.x "token") "text") (.x "text")))]
noncomputable def jM:List S:=[.asg ["stack"] (.lst 139 [.tup [.x "root",.k (.int 1)]]),
 .whl (.x "stack") [.asg ["node","level"] (.me 140 (.x "stack") "pop" []),
  .iff (.cmp .is_ (.x "node") (.k (.none))) [.cont] [],
  .iff (.cmp .gt (.x "level") (.g "MAX_HEIGHT")) [.ex (.me 141 (.at (.x "p") "diags") "put" [.k (.int 9001),.at (.x "node") "at",.tup []]),
   .rais "TooDeep" [.k (.int 9001)]] [],
  .forr "kid" (.at (.x "node") "kids") [.ex (.me 142 (.x "stack") "append" [.tup [.x "kid",.bin 143 .add (.x "level") (.k (.int 1))]])]]]
noncomputable def vR:List S:=[.iff (.not (.call "is_token" [.me 144 (.x "p") "now" [],.x "kind",.x "text"])) [.ret (.k (.bool false))] [],
 .ex (.me 145 (.x "p") "step" []),
 .ret (.k (.bool true))]
noncomputable def vM:List S:=[.iff (.or (.cmp .eq (.at (.x "token") "kind") (.g "T_SIGN")) (.cmp .eq (.at (.x "token") "kind") (.g "T_WORD"))) [.ret (.at (.x "token") "text")] [],
 .iff (.cmp .eq (.at (.x "token") "kind") (.g "T_NAME")) [.ret (.k (.str [35,110,97,109,101]))] [],
 .iff (.cmp .eq (.at (.x "token") "kind") (.g "T_NUM")) [.ret (.k (.str [35,110,117,109]))] [],
 .iff (.cmp .eq (.at (.x "token") "kind") (.g "T_STR")) [.ret (.k (.str [35,115,116,114]))] [],
 .iff (.or (.cmp .eq (.at (.x "token") "kind") (.g "T_TPL_WHOLE")) (.cmp .eq (.at (.x "token") "kind") (.g "T_TPL_HEAD"))) [.ret (.k (.str [35,116,112,108]))] [],
 .ret (.k (.str []))]
noncomputable def wR:List S:=[.asg ["token"] (.me 150 (.x "p") "now" []),
 .iff (.not (.call "is_token" [.x "token",.g "T_SIGN",.k (.str [62,61])])) [.ex (.me 151 (.x "p") "need_sign" [.k (.str [62])]),
  .ret (.k .none)] [],
 .asg ["behind"] (.me 152 (.x "p") "ahead" [.k (.int 1)]),
 .ex (.me 153 (.at (.x "p") "splits") "append" [.tup [.at (.x "p") "at",.x "token"]]),
 .asg ["joined"] (.bin 154 .add (.k (.str [61])) (.at (.x "behind") "text")),
 .iff (.or (.cmp .ne (.at (.x "behind") "kind") (.g "T_SIGN")) (.or (.cmp .ne (.at (.x "behind") "at") (.at (.x "token") "end")) (.cmp .notin (.x "joined") (.g "JOINED")))) [.asgI (.at (.x "p") "tokens") (.at (.x "p") "at") (.new 155 "Token" [.g "T_SIGN",.k (.str [61]),.k (.int 0),.bin 156 .add (.at (.x "token") "at") (.k (.int 1)),.at (.x "token") "end",.k (.bool false)]),
  .ret (.k .none)] [],
 .ex (.me 157 (.at (.x "p") "splits") "append" [.tup [.bin 158 .add (.at (.x "p") "at") (.k (.int 1)),.x "behind"]]),
 .asgI (.at (.x "p") "tokens") (.at (.x "p") "at") (.new 159 "Token" [.g "T_SIGN",.k (.str [62]),.k (.int 0),.at (.x "token") "at",.bin 160 .add (.at (.x "token") "at") (.k (.int 1)),.at (.x "token") "line_before"]),
 .asgI (.at (.x "p") "tokens") (.bin 161 .add (.at (.x "p") "at") (.k (.int 1))) (.new 162 "Token" [.g "T_SIGN",.x "joined",.k (.int 0),.bin 163 .add (.at (.x "token") "at") (.k (.int 1)),.at (.x "behind") "end",.k (.bool false)]),
 .ex (.me 164 (.x "p") "step" [])]
noncomputable def u5:List S:=[.asgA (.x "self") "kind" (.x "kind"),
 .asgA (.x "self") "a" (.x "a"),
 .asgA (.x "self") "kids" (.x "kids"),
 .asgA (.x "self") "flags" (.x "flags"),
 .asgA (.x "self") "at" (.x "at"),
 .asgA (.x "self") "nid" (.k (.int 0))]
noncomputable def VT:List S:=[.ret (.new 165 "Node" [.x "kind",.x "a",.lst 166 [],.k (.int 0),.x "at"])]
noncomputable def VS:List S:=[.ret (.new 167 "Node" [.x "kind",.x "a",.x "kids",.k (.int 0),.x "at"])]
noncomputable def qS:List S:=[.ret (.new 168 "Node" [.x "kind",.x "a",.x "kids",.x "flags",.x "at"])]
noncomputable def qR:List S:=[.ret (.new 169 "Node" [.g "K_LIST",.k (.str []),.x "nodes",.k (.int 0),.x "at"])]
noncomputable def xW:List S:=[.ret (.call "ptypes_read_kind" [.x "p"])]
noncomputable def xl:List S:=[.asg ["node"] (.call "read_branch" [.x "p"]),
 .iff (.or (.at (.x "p") "no_cond") (.or (.not (.call "extends_here" [.x "p",.x "node"])) (.cmp .notin (.k (.str [35,99,111,110,100])) (.at (.x "p") "types")))) [.ret (.x "node")] [],
 .ret (.me 170 (.ix (.at (.x "p") "types") (.k (.str [35,99,111,110,100]))) "take" [.x "p",.x "node"])]
noncomputable def kx:List S:=[.iff (.and (.cmp .isin (.k (.str [35,102,117,110,99])) (.at (.x "p") "types")) (.call "starts_func_kind" [.x "p"])) [.ret (.me 171 (.ix (.at (.x "p") "types") (.k (.str [35,102,117,110,99]))) "take" [.x "p",.k (.none)])] [],
 .ret (.call "read_union" [.x "p"])]
noncomputable def jL:List S:=[.iff (.or (.cmp .eq (.at (.x "check") "kind") (.g "K_FUNC")) (.at (.me 172 (.x "p") "now" []) "line_before")) [.ret (.k (.bool false))] [],
 .ret (.me 173 (.x "p") "is_word" [.k (.str [101,120,116,101,110,100,115])])]
noncomputable def vQ:List S:=[.asg ["saved"] (.at (.x "p") "no_cond"),
 .asgA (.x "p") "no_cond" (.x "no_cond"),
 .asg ["node"] (.me 174 (.x "p") "part" [.g "PART_TYPE"]),
 .asgA (.x "p") "no_cond" (.x "saved"),
 .ret (.x "node")]
noncomputable def wO:List S:=[.ex (.me 175 (.x "p") "eat_sign" [.k (.str [124])]),
 .asg ["node"] (.call "read_inter" [.x "p"]),
 .iff (.not (.me 176 (.x "p") "is_sign" [.k (.str [124])])) [.ret (.x "node")] [],
 .asg ["parts"] (.lst 177 [.x "node"]),
 .whl (.me 178 (.x "p") "eat_sign" [.k (.str [124])]) [.ex (.me 179 (.x "parts") "append" [.call "read_inter" [.x "p"]])],
 .ret (.call "twig" [.g "K_TUNION",.k (.str []),.x "parts",.at (.x "node") "at"])]
noncomputable def wQ:List S:=[.ex (.me 180 (.x "p") "eat_sign" [.k (.str [38])]),
 .asg ["node"] (.call "read_operator" [.x "p"]),
 .iff (.not (.me 181 (.x "p") "is_sign" [.k (.str [38])])) [.ret (.x "node")] [],
 .asg ["parts"] (.lst 182 [.x "node"]),
 .whl (.me 183 (.x "p") "eat_sign" [.k (.str [38])]) [.ex (.me 184 (.x "parts") "append" [.call "read_operator" [.x "p"]])],
 .ret (.call "twig" [.g "K_TINTER",.k (.str []),.x "parts",.at (.x "node") "at"])]
noncomputable def jo:List S:=[.asg ["token"] (.me 185 (.x "p") "now" []),
 .iff (.and (.cmp .eq (.at (.x "token") "kind") (.g "T_NAME")) (.and (.cmp .isin (.at (.x "token") "text") (.g "OPERATOR_WORDS")) (.cmp .isin (.at (.x "token") "text") (.at (.x "p") "types")))) [.ret (.me 186 (.ix (.at (.x "p") "types") (.at (.x "token") "text")) "take" [.x "p",.k (.none)])] [],
 .ret (.call "read_hanging" [.x "p"])]
noncomputable def jK:List S:=[.asg ["saved"] (.at (.x "p") "no_cond"),
 .asgA (.x "p") "no_cond" (.k (.bool false)),
 .asg ["key"] (.call "token_key" [.me 187 (.x "p") "now" []]),
 .iff (.cmp .notin (.x "key") (.at (.x "p") "types")) [.ex (.me 188 (.x "p") "fault" [.k (.int 1110),.tup []])] [],
 .asg ["node"] (.me 189 (.ix (.at (.x "p") "types") (.x "key")) "take" [.x "p",.k (.none)]),
 .asg ["links"] (.k (.int 0)),
 .whl (.and (.me 191 (.x "p") "is_sign" [.k (.str [91])]) (.not (.at (.me 190 (.x "p") "now" []) "line_before"))) [.ex (.me 192 (.x "p") "step" []),
  .augX "links" .add (.k (.int 1)),
  .ex (.call "check_chain" [.x "p",.x "links"]),
  .iff (.me 193 (.x "p") "eat_sign" [.k (.str [93])]) [.asg ["node"] (.call "twig" [.g "K_TARRAY",.k (.str []),.lst 194 [.x "node"],.at (.x "node") "at"])] [.asg ["index"] (.me 195 (.x "p") "part" [.g "PART_TYPE"]),
   .ex (.me 196 (.x "p") "need_sign" [.k (.str [93])]),
   .asg ["node"] (.call "twig" [.g "K_TINDEX",.k (.str []),.lst 197 [.x "node",.x "index"],.at (.x "node") "at"])]],
 .asgA (.x "p") "no_cond" (.x "saved"),
 .ret (.x "node")]
noncomputable def yQ:List S:=[.asg ["token"] (.me 198 (.x "p") "now" []),
 .iff (.cmp .isin (.at (.x "token") "text") (.g "KIND_WORDS")) [.ex (.me 199 (.x "p") "step" []),
  .ret (.call "leaf" [.g "K_TKEY",.at (.x "token") "text",.at (.x "token") "at"])] [],
 .ex (.call "refuse_odd_kind" [.x "p"]),
 .asg ["name"] (.call "read_dotted" [.x "p"]),
 .asg ["args"] (.lst 200 []),
 .iff (.and (.me 202 (.x "p") "is_sign" [.k (.str [60])]) (.not (.at (.me 201 (.x "p") "now" []) "line_before"))) [.asg ["args"] (.call "read_type_args" [.x "p"])] [],
 .ret (.call "twig" [.g "K_TREF",.x "name",.x "args",.at (.x "token") "at"])]
noncomputable def xC:List S:=[.asg ["behind"] (.me 203 (.x "p") "ahead" [.k (.int 1)]),
 .iff (.or (.me 205 (.x "p") "is_name" [.k (.str [115,121,109,98,111,108])]) (.me 204 (.x "p") "is_name" [.k (.str [98,105,103,105,110,116])])) [.ex (.me 206 (.at (.x "p") "diags") "put" [.k (.int 9002),.at (.me 207 (.x "p") "now" []) "at",.tup [.at (.me 208 (.x "p") "now" []) "text"]])] [],
 .iff (.and (.me 209 (.x "p") "is_name" [.k (.str [117,110,105,113,117,101])]) (.call "is_token" [.x "behind",.g "T_NAME",.k (.str [115,121,109,98,111,108])])) [.ex (.me 210 (.x "p") "fault" [.k (.int 9002),.tup [.k (.str [117,110,105,113,117,101,32,115,121,109,98,111,108])]])] [],
 .iff (.and (.me 211 (.x "p") "is_name" [.k (.str [97,98,115,116,114,97,99,116])]) (.call "is_token" [.x "behind",.g "T_WORD",.k (.str [110,101,119])])) [.ex (.me 212 (.x "p") "fault" [.k (.int 9002),.tup [.k (.str [97,110,32,97,98,115,116,114,97,99,116,32,99,111,110,115,116,114,117,99,116,32,107,105,110,100])]])] []]
noncomputable def ku:List S:=[.asg ["at"] (.at (.me 213 (.x "p") "now" []) "at"),
 .asg ["name"] (.me 214 (.x "p") "need_name" []),
 .asg ["links"] (.k (.int 0)),
 .whl (.me 215 (.x "p") "eat_sign" [.k (.str [46])]) [.asg ["name"] (.bin 216 .add (.bin 217 .add (.x "name") (.k (.str [46]))) (.me 218 (.x "p") "member_name" [])),
  .augX "links" .add (.k (.int 1))],
 .iff (.cmp .gt (.x "links") (.k (.int 1))) [.ex (.me 219 (.at (.x "p") "diags") "put" [.k (.int 9002),.x "at",.tup [.k (.str [97,32,110,97,109,101,115,112,97,99,101])]])] [],
 .ret (.x "name")]
noncomputable def xV:List S:=[.ex (.me 220 (.x "p") "need_sign" [.k (.str [60])]),
 .asg ["args"] (.lst 221 [.call "kind_with" [.x "p",.k (.bool false)]]),
 .whl (.me 222 (.x "p") "eat_sign" [.k (.str [44])]) [.ex (.me 223 (.x "args") "append" [.call "kind_with" [.x "p",.k (.bool false)]])],
 .ex (.call "need_angle" [.x "p"]),
 .ret (.x "args")]
noncomputable def kz:List S:=[.ret (.or (.cmp .eq (.at (.x "token") "kind") (.g "T_TPL_WHOLE")) (.cmp .eq (.at (.x "token") "kind") (.g "T_TPL_HEAD")))]
noncomputable def vP:List S:=[.asg ["at"] (.at (.me 235 (.x "p") "now" []) "at"),
 .ex (.me 236 (.x "p") "need_sign" [.k (.str [40])]),
 .asg ["allow_in"] (.at (.x "p") "allow_in"),
 .asgA (.x "p") "allow_in" (.k (.bool true)),
 .asg ["rows"] (.lst 237 []),
 .whl (.not (.me 238 (.x "p") "is_sign" [.k (.str [41])])) [.ex (.me 239 (.x "rows") "append" [.call "read_item" [.x "p"]]),
  .iff (.not (.me 240 (.x "p") "eat_sign" [.k (.str [44])])) [.brk] []],
 .ex (.me 241 (.x "p") "need_sign" [.k (.str [41])]),
 .asgA (.x "p") "allow_in" (.x "allow_in"),
 .ret (.call "list_of" [.x "rows",.x "at"])]
noncomputable def vO:List S:=[.asg ["at"] (.at (.me 242 (.x "p") "now" []) "at"),
 .iff (.me 243 (.x "p") "eat_sign" [.k (.str [46,46,46])]) [.ret (.call "twig" [.g "K_SPREAD",.k (.str []),.lst 244 [.me 245 (.x "p") "part" [.g "PART_EXPR"]],.x "at"])] [],
 .ret (.me 246 (.x "p") "part" [.g "PART_EXPR"])]
noncomputable def yR:List S:=[.asg ["targs"] (.call "try_type_args" [.x "p"]),
 .iff (.cmp .is_ (.x "targs") (.k (.none))) [.ret (.k (.none))] [],
 .asg ["args"] (.call "read_args" [.x "p"]),
 .ret (.call "flagged" [.g "K_CALL",.k (.str []),.lst 247 [.x "left",.x "args",.x "targs"],.x "flags",.at (.x "left") "at"])]
noncomputable def jm:List S:=[.iff (.cmp .notin (.g "PART_TYPE") (.at (.x "p") "parts")) [.ret (.k (.none))] [],
 .asg ["at"] (.at (.me 248 (.x "p") "now" []) "at"),
 .asg ["spot"] (.me 249 (.x "p") "mark" []),
 .asg ["rows"] (.lst 250 []),
 .asg ["tagged"] (.k (.bool false)),
 .tr [.augA (.x "p") "deep" .sub (.k (.int 1)),
  .asg ["rows"] (.call "read_type_args" [.x "p"]),
  .augA (.x "p") "deep" .add (.k (.int 1)),
  .asg ["fine"] (.me 251 (.x "p") "is_sign" [.k (.str [40])]),
  .asg ["tagged"] (.call "is_template" [.me 252 (.x "p") "now" []])] [("ParseStop",.asg "fine" (.bool false)),("TooDeep",.asg "fine" (.bool false))],
 .iff (.x "fine") [.ex (.me 253 (.x "p") "keep" [.x "spot"]),
  .ret (.call "list_of" [.x "rows",.x "at"])] [],
 .ex (.me 254 (.x "p") "back" [.x "spot"]),
 .iff (.x "tagged") [.ex (.me 255 (.x "p") "fault" [.k (.int 9002),.tup [.k (.str [97,32,116,97,103,103,101,100,32,116,101,109,112,108,97,116,101])]])] [],
 .ret (.k (.none))]
noncomputable def vU:List S:=[.asg ["at"] (.ix (.x "pile") (.k (.str [110,101,120,116]))),
 .asgI (.x "pile") (.k (.str [110,101,120,116])) (.bin 256 .add (.x "at") (.k (.int 1))),
 .ret (.bin 257 .mod (.ix (.ix (.x "pile") (.k (.str [110,117,109,115]))) (.bin 258 .mod (.x "at") (.k (.int 64)))) (.x "n"))]
noncomputable def wU:List S:=[.asg ["out"] (.lst 259 []),
 .forR "group" (.bin 260 .add (.k (.int 1)) (.call "_law_take" [.x "pile",.k (.int 2)])) [.ex (.me 261 (.x "out") "extend" [.lst 262 [.ix (.k (.str [97,98,99,100])) (.call "_law_take" [.x "pile",.k (.int 4)]),.k (.str [60]),.ix (.k (.str [97,98,99,100])) (.call "_law_take" [.x "pile",.k (.int 4)])]]),
  .ex (.me 263 (.x "out") "extend" [.me 264 (.ix (.tup [.k (.str []),.k (.str []),.k (.str [60,32,100,32,62]),.k (.str [60,32,99]),.k (.str [44,32,99]),.k (.str [60,32,100,32,62,61])]) (.call "_law_take" [.x "pile",.k (.int 6)])) "split" []]),
  .ex (.me 265 (.x "out") "extend" [.me 266 (.ix (.tup [.k (.str [62,61]),.k (.str [62]),.k (.str [62,61,32,61]),.k (.str [62,61,32,61,61]),.k (.str [62,61,32,62]),.k (.str [44,32,62,61]),.k (.str [62,61])]) (.call "_law_take" [.x "pile",.k (.int 7)])) "split" []]),
  .ex (.me 267 (.x "out") "extend" [.me 268 (.ix (.tup [.k (.str [99]),.k (.str [40,32,41]),.k (.str []),.k (.str [40,32,98,32,60,32,99,32,62,32,44,32,41]),.k (.str [40,32,98,32,60,32,100,32,62,61,32,41]),.k (.str [40,32,99,32,44])]) (.call "_law_take" [.x "pile",.k (.int 6)])) "split" []])],
 .ret (.sl 269 (.x "out") (.k .none) (.k (.int 13)))]
noncomputable def vT:List S:=[.asg ["out"] (.k (.str [])),
 .asg ["last"] (.k (.str [])),
 .forr "sign" (.call "_law_signs" [.x "pile"]) [.asg ["gap"] (.ix (.tup [.k (.str []),.k (.str []),.k (.str []),.k (.str [32]),.k (.str [10])]) (.call "_law_take" [.x "pile",.k (.int 5)])),
  .asg ["both"] (.bin 270 .add (.bin 271 .add (.x "last") (.k (.str [32]))) (.x "sign")),
  .iff (.and (.cmp .eq (.x "gap") (.k (.str []))) (.and (.cmp2 .le .le (.k (.str [97])) (.x "last") (.k (.str [122]))) (.cmp2 .le .le (.k (.str [97])) (.x "sign") (.k (.str [122]))))) [.asg ["gap"] (.k (.str [32]))] [],
  .iff (.and (.cmp .eq (.x "gap") (.k (.str []))) (.and (.cmp .isin (.x "last") (.tup [.k (.str [60]),.k (.str [62]),.k (.str [62,61]),.k (.str [61]),.k (.str [61,61])])) (.cmp .isin (.x "sign") (.tup [.k (.str [60]),.k (.str [62]),.k (.str [62,61]),.k (.str [61]),.k (.str [61,61])])))) [.asg ["gap"] (.ite (.cmp .isin (.x "both") (.tup [.k (.str [62,32,62]),.k (.str [62,32,62,61]),.k (.str [62,61,32,61]),.k (.str [62,61,32,61,61]),.k (.str [62,61,32,62])])) (.k (.str [])) (.k (.str [32])))] [],
  .asg ["out"] (.ite (.cmp .eq (.x "last") (.k (.str []))) (.x "sign") (.bin 272 .add (.bin 273 .add (.x "out") (.x "gap")) (.x "sign"))),
  .asg ["last"] (.x "sign")],
 .ret (.x "out")]
noncomputable def vW:List S:=[.asg ["at"] (.x "c"),
 .whl (.or (.cmp .eq (.sl 276 (.x "src") (.x "at") (.bin 277 .add (.x "at") (.k (.int 1)))) (.k (.str [32]))) (.cmp .eq (.sl 274 (.x "src") (.x "at") (.bin 275 .add (.x "at") (.k (.int 1)))) (.k (.str [10])))) [.augX "at" .add (.k (.int 1))],
 .asg ["text"] (.sl 278 (.x "src") (.x "at") (.bin 279 .add (.x "at") (.k (.int 1)))),
 .iff (.or (.cmp .eq (.x "text") (.k (.str [62]))) (.cmp .eq (.x "text") (.k (.str [61])))) [.forr "sign" (.tup [.k (.str [62,61]),.k (.str [61,61]),.k (.str [61,62]),.k (.str [61,61,61])]) [.iff (.cmp .eq (.sl 280 (.x "src") (.x "at") (.bin 281 .add (.x "at") (.bi 282 "len" [.x "sign"]))) (.x "sign")) [.asg ["text"] (.x "sign")] []]] [],
 .ret (.tup [.x "text",.x "at",.bin 283 .add (.x "at") (.bi 284 "len" [.x "text"]),.cmp .isin (.k (.str [10])) (.sl 285 (.x "src") (.x "c") (.x "at"))])]
noncomputable def vY:List S:=[.asg ["out"] (.lst 286 []),
 .asg ["c"] (.k (.int 0)),
 .asg ["text"] (.k (.str [109,111,114,101])),
 .whl (.cmp .ne (.x "text") (.k (.str []))) [.asg ["text","at","c","line"] (.call "_law_sign" [.x "src",.x "c"]),
  .iff (.cmp .isin (.x "at") (.x "cuts")) [.asg ["rest"] (.call "_law_sign" [.x "src",.bin 287 .add (.x "at") (.k (.int 1))]),
   .iff (.cmp .ne (.ix (.x "rest") (.k (.int 0))) (.k (.str [61]))) [.ex (.me 288 (.x "out") "append" [.tup [.g "T_SIGN",.k (.str [62]),.k (.int 0),.x "at",.bin 289 .add (.x "at") (.k (.int 1)),.x "line"]])] [],
   .ex (.me 290 (.x "out") "append" [.tup [.g "T_SIGN",.ix (.x "rest") (.k (.int 0)),.k (.int 0),.ix (.x "rest") (.k (.int 1)),.ix (.x "rest") (.k (.int 2)),.k (.bool false)]]),
   .asg ["c"] (.ix (.x "rest") (.k (.int 2)))] [.asg ["sort"] (.ite (.cmp .eq (.x "text") (.k (.str []))) (.g "T_END") (.ite (.cmp2 .le .le (.k (.str [97])) (.x "text") (.k (.str [122]))) (.g "T_NAME") (.g "T_SIGN"))),
   .ex (.me 291 (.x "out") "append" [.tup [.x "sort",.x "text",.k (.int 0),.x "at",.x "c",.x "line"]])]],
 .ret (.x "out")]
noncomputable def vX:List S:=[.ret (.comp 292 (.tup [.at (.x "one") "kind",.at (.x "one") "text",.at (.x "one") "num",.at (.x "one") "at",.at (.x "one") "end",.at (.x "one") "line_before"]) ["one"] (.x "tokens"))]
noncomputable def kB:List S:=[.asg ["sign"] (.call "_law_sign" [.x "src",.x "c"]),
 .iff (.cmp .ne (.ix (.x "sign") (.k (.int 0))) (.k (.str [60]))) [.ret (.tup [.k (.str [60]),.x "c",.k (.int 0),.tup [],.tup []])] [],
 .asg ["c"] (.ix (.x "sign") (.k (.int 2))),
 .asg ["many"] (.k (.int 1)),
 .asg ["cuts"] (.tup []),
 .asg ["said"] (.tup []),
 .asg ["wants"] (.k (.bool true)),
 .whl (.cmp .gt (.x "many") (.k (.int 0))) [.asg ["text","at","end","line"] (.call "_law_sign" [.x "src",.x "c"]),
  .iff (.x "wants") [.iff (.or (.not (.x "named")) (.not (.cmp2 .le .le (.k (.str [97])) (.x "text") (.k (.str [122]))))) [.ret (.tup [.k (.str [107,105,110,100]),.x "c",.x "many",.x "cuts",.x "said"])] [],
   .asg ["said"] (.bin 293 .add (.x "said") (.tup [.tup [.x "many",.x "text",.x "at"]])),
   .asg ["beyond"] (.call "_law_sign" [.x "src",.x "end"]),
   .asg ["wants"] (.and (.cmp .eq (.ix (.x "beyond") (.k (.int 0))) (.k (.str [60]))) (.not (.ix (.x "beyond") (.k (.int 3))))),
   .asg ["c"] (.ite (.x "wants") (.ix (.x "beyond") (.k (.int 2))) (.x "end")),
   .augX "many" .add (.ite (.x "wants") (.k (.int 1)) (.k (.int 0)))] [.iff (.cmp .eq (.x "text") (.k (.str [44]))) [.asg ["wants"] (.k (.bool true)),
    .asg ["c"] (.x "end")] [.iff (.cmp .eq (.sl 294 (.x "text") (.k .none) (.k (.int 1))) (.k (.str [62]))) [.augX "many" .sub (.k (.int 1)),
     .asg ["c"] (.bin 295 .add (.x "at") (.k (.int 1))),
     .asg ["cuts"] (.ite (.cmp .eq (.x "text") (.k (.str [62,61]))) (.bin 296 .add (.x "cuts") (.tup [.x "at"])) (.x "cuts"))] [.ret (.tup [.k (.str [62]),.x "c",.bin 297 .sub (.x "many") (.k (.int 1)),.x "cuts",.x "said"])]]]],
 .ret (.tup [.k (.str []),.x "c",.k (.int 0),.x "cuts",.x "said"])]
noncomputable def u3:List S:=[.asg ["head"] (.call "_law_angles" [.x "src",.x "c",.x "named"]),
 .asg ["sign"] (.call "_law_sign" [.x "src",.ix (.x "head") (.k (.int 1))]),
 .iff (.or (.cmp .ne (.ix (.x "head") (.k (.int 0))) (.k (.str []))) (.cmp .ne (.ix (.x "sign") (.k (.int 0))) (.k (.str [40])))) [.ret (.k (.none))] [],
 .asg ["opens"] (.ix (.x "sign") (.k (.int 1))),
 .asg ["c"] (.ix (.x "sign") (.k (.int 2))),
 .asg ["cuts"] (.ix (.x "head") (.k (.int 3))),
 .asg ["said"] (.tup []),
 .asg ["text","at","end","line"] (.call "_law_sign" [.x "src",.x "c"]),
 .whl (.cmp .ne (.x "text") (.k (.str [41]))) [.iff (.not (.cmp2 .le .le (.k (.str [97])) (.x "text") (.k (.str [122])))) [.ret (.tup [.k (.str [107,105,110,100]),.x "c",.k (.int 1),.x "cuts",.tup []])] [],
  .asg ["said"] (.bin 298 .add (.x "said") (.tup [.tup [.k (.int 1),.x "text",.x "at"]])),
  .asg ["c"] (.x "end"),
  .asg ["beyond"] (.call "_law_sign" [.x "src",.x "c"]),
  .iff (.and (.cmp .eq (.ix (.x "beyond") (.k (.int 0))) (.k (.str [60]))) (.not (.ix (.x "beyond") (.k (.int 3))))) [.asg ["more"] (.call "_law_angles" [.x "src",.x "c",.x "named"]),
   .asg ["cuts"] (.bin 299 .add (.x "cuts") (.ix (.x "more") (.k (.int 3)))),
   .asg ["c"] (.ix (.x "more") (.k (.int 1))),
   .iff (.cmp .ne (.ix (.x "more") (.k (.int 0))) (.k (.str []))) [.ret (.tup [.ix (.x "more") (.k (.int 0)),.x "c",.bin 300 .add (.k (.int 1)) (.ix (.x "more") (.k (.int 2))),.x "cuts",.tup []])] [],
   .asg ["said"] (.bin 301 .add (.x "said") (.bi 302 "tuple" [.comp 303 (.tup [.bin 304 .add (.x "level") (.k (.int 1)),.x "name",.x "place"]) ["level","name","place"] (.ix (.x "more") (.k (.int 4)))]))] [],
  .asg ["text","at","end","line"] (.call "_law_sign" [.x "src",.x "c"]),
  .iff (.cmp .eq (.x "text") (.k (.str [44]))) [.asg ["c"] (.x "end"),
   .asg ["text","at","end","line"] (.call "_law_sign" [.x "src",.x "c"])] [.iff (.cmp .ne (.x "text") (.k (.str [41]))) [.ret (.tup [.k (.str [41]),.x "c",.k (.int 0),.x "cuts",.tup []])] []]],
 .ret (.tup [.k (.str []),.x "end",.k (.int 0),.x "cuts",.tup [.x "opens",.ix (.x "head") (.k (.int 4)),.x "said"]])]
noncomputable def wV:List S:=[.asg ["out"] (.tup []),
 .forr "node" (.x "nodes") [.asg ["out"] (.bin 305 .add (.bin 306 .add (.x "out") (.tup [.tup [.x "level",.ite (.cmp .eq (.at (.x "node") "kind") (.g "K_TREF")) (.at (.x "node") "a") (.k (.str [])),.at (.x "node") "at"]])) (.call "_law_names" [.at (.x "node") "kids",.bin 307 .add (.x "level") (.k (.int 1))]))],
 .ret (.x "out")]
noncomputable def kA:List S:=[.asg ["p"] (.new 60 "Parser" [.x "handed",.new 61 "Diags" []]),
 .iff (.x "named") [.asgI (.at (.x "p") "types") (.k (.str [35,110,97,109,101])) (.new 308 "NameKindRule" [])] [],
 .asgI (.at (.x "p") "parts") (.g "PART_TYPE") (.new 309 "TypePart" []),
 .asgI (.at (.x "p") "parts") (.g "PART_EXPR") (.new 310 "TypePart" []),
 .asgI (.at (.x "p") "commas") (.x "place") (.k (.bool true)),
 .asgI (.at (.x "p") "not_arrow") (.bin 311 .add (.x "place") (.k (.int 7))) (.k (.bool true)),
 .asg ["s"] (.dct 312 false [.k (.str [99]),.k (.int 0),.k (.str [99,117,116,115]),.tup [],.k (.str [100,101,101,112]),.k (.int 0),.k (.str [116,111,108,100]),.tup [],.k (.str [108,97,98,101,108,115]),.tup [],.k (.str [99,111,118,101,114,115]),.tup []]),
 .asgI (.x "s") (.k (.str [112,108,97,105,110])) (.tup [.tup [.k (.str []),.k (.int 0),.k (.int 0)],.k (.int 0),.k (.int 0),.k (.int 0),.k (.bool false),.k (.int 0)]),
 .asgI (.x "s") (.k (.str [97,108,108,111,119])) (.k (.bool true)),
 .asgI (.x "s") (.k (.str [98,97,114,101])) (.k (.bool false)),
 .ret (.dct 313 false [.k (.str [112]),.x "p",.k (.str [98,97,115,101]),.x "base",.k (.str [112,108,97,99,101]),.x "place",.k (.str [115]),.x "s",.k (.str [109,97,114,107,115]),.lst 314 [],.k (.str [107,110,111,119,115]),.x "named"])]
noncomputable def vS:List S:=[.asg ["p"] (.ix (.x "w") (.k (.str [112]))),
 .asg ["s"] (.ix (.x "w") (.k (.str [115]))),
 .asg ["plain"] (.tup [.at (.x "p") "pending",.at (.x "p") "in_func",.at (.x "p") "in_loop",.at (.x "p") "in_switch",.at (.x "p") "ret_bar",.at (.x "p") "in_literal"]),
 .asg ["rows"] (.ite (.cmp .eq (.ix (.x "s") (.k (.str [99,117,116,115]))) (.tup [])) (.ix (.x "w") (.k (.str [98,97,115,101]))) (.call "_law_rows" [.x "src",.ix (.x "s") (.k (.str [99,117,116,115]))])),
 .iff (.or (.cmp .ne (.call "_law_seen" [.at (.x "p") "tokens"]) (.x "rows")) (.cmp .ne (.at (.me 315 (.x "p") "now" []) "at") (.ix (.call "_law_sign" [.x "src",.ix (.x "s") (.k (.str [99]))]) (.k (.int 1))))) [.ret (.k (.bool false))] [],
 .iff (.or (.cmp .ne (.bi 316 "tuple" [.comp 317 (.me 318 (.x "diag") "row" []) ["diag"] (.at (.at (.x "p") "diags") "rows")]) (.ix (.x "s") (.k (.str [116,111,108,100])))) (.cmp .ne (.at (.x "p") "deep") (.ix (.x "s") (.k (.str [100,101,101,112]))))) [.ret (.k (.bool false))] [],
 .iff (.or (.cmp .ne (.bi 320 "tuple" [.at (.x "p") "labels"]) (.ix (.x "s") (.k (.str [108,97,98,101,108,115])))) (.or (.cmp .ne (.bi 319 "tuple" [.at (.x "p") "covers"]) (.ix (.x "s") (.k (.str [99,111,118,101,114,115])))) (.cmp .ne (.x "plain") (.ix (.x "s") (.k (.str [112,108,97,105,110])))))) [.ret (.k (.bool false))] [],
 .iff (.or (.cmp .ne (.at (.x "p") "commas") (.dct 323 true [.ix (.x "w") (.k (.str [112,108,97,99,101])),.k (.bool true)])) (.cmp .ne (.at (.x "p") "not_arrow") (.dct 321 true [.bin 322 .add (.ix (.x "w") (.k (.str [112,108,97,99,101]))) (.k (.int 7)),.k (.bool true)]))) [.ret (.k (.bool false))] [],
 .ret (.cmp .eq (.tup [.at (.x "p") "allow_in",.at (.x "p") "no_cond",.bi 324 "len" [.at (.x "p") "saved"]]) (.tup [.ix (.x "s") (.k (.str [97,108,108,111,119])),.ix (.x "s") (.k (.str [98,97,114,101])),.bi 325 "len" [.ix (.x "w") (.k (.str [109,97,114,107,115]))]]))]
noncomputable def vZ:List S:=[.asg ["s"] (.ix (.x "w") (.k (.str [115]))),
 .asgI (.x "s") (.k (.str [99])) (.ix (.x "got") (.k (.int 1))),
 .augI (.x "s") (.k (.str [100,101,101,112])) .add (.ix (.x "got") (.k (.int 2))),
 .asgI (.x "s") (.k (.str [99,117,116,115])) (.bin 326 .add (.ix (.x "s") (.k (.str [99,117,116,115]))) (.ix (.x "got") (.k (.int 3)))),
 .asgI (.x "s") (.k (.str [98,97,114,101])) (.and (.ix (.x "s") (.k (.str [98,97,114,101]))) (.cmp .eq (.ix (.x "got") (.k (.int 2))) (.k (.int 0)))),
 .asg ["at"] (.ix (.call "_law_sign" [.x "src",.ix (.x "got") (.k (.int 1))]) (.k (.int 1))),
 .iff (.cmp .eq (.ix (.x "got") (.k (.int 0))) (.k (.str [107,105,110,100]))) [.asgI (.x "s") (.k (.str [116,111,108,100])) (.bin 327 .add (.ix (.x "s") (.k (.str [116,111,108,100]))) (.tup [.tup [.k (.int 1110),.x "at",.tup []]]))] [.iff (.cmp .ne (.ix (.x "got") (.k (.int 0))) (.k (.str []))) [.asgI (.x "s") (.k (.str [116,111,108,100])) (.bin 328 .add (.ix (.x "s") (.k (.str [116,111,108,100]))) (.tup [.tup [.k (.int 1005),.x "at",.tup [.ix (.x "got") (.k (.int 0))]]]))] []]]
noncomputable def qT:List S:=[.asg ["s"] (.ix (.x "w") (.k (.str [115]))),
 .asg ["sign"] (.call "_law_sign" [.x "src",.ix (.x "s") (.k (.str [99]))]),
 .whl (.and (.cmp .ne (.ix (.x "sign") (.k (.int 0))) (.k (.str []))) (.cmp .ne (.ix (.ix (.x "sign") (.k (.int 0))) (.k (.int 0))) (.x "letter"))) [.ex (.me 329 (.ix (.x "w") (.k (.str [112]))) "step" []),
  .asgI (.x "s") (.k (.str [99])) (.ix (.x "sign") (.k (.int 2))),
  .asg ["sign"] (.call "_law_sign" [.x "src",.ix (.x "s") (.k (.str [99]))])]]
noncomputable def wW:List S:=[.ex (.call "_law_go" [.x "src",.x "w",.k (.str [60])]),
 .asg ["got"] (.call "_law_angles" [.x "src",.ix (.ix (.x "w") (.k (.str [115]))) (.k (.str [99])),.ix (.x "w") (.k (.str [107,110,111,119,115]))]),
 .tr [.asg ["said"] (.call "_law_names" [.call "read_type_args" [.ix (.x "w") (.k (.str [112]))],.k (.int 1)])] [("ParseStop",.asg "said" (.none))],
 .ex (.call "_law_move" [.x "src",.x "w",.x "got"]),
 .ret (.cmp .eq (.x "said") (.ite (.cmp .eq (.ix (.x "got") (.k (.int 0))) (.k (.str []))) (.ix (.x "got") (.k (.int 4))) (.k (.none))))]
noncomputable def vV:List S:=[.ex (.call "_law_go" [.x "src",.x "w",.k (.str [60])]),
 .asg ["c"] (.ix (.ix (.x "w") (.k (.str [115]))) (.k (.str [99]))),
 .asg ["got"] (.call "_law_call" [.x "src",.x "c",.ix (.x "w") (.k (.str [107,110,111,119,115]))]),
 .tr [.asg ["node"] (.me 330 (.new 331 "KindArgsTail" []) "take" [.ix (.x "w") (.k (.str [112])),.call "leaf" [.g "K_NAME",.k (.str [102]),.x "c"],.k (.int 4)]),
  .asg ["said"] (.ite (.cmp .is_ (.x "node") (.k (.none))) (.k (.str [110,111,110,101])) (.k (.str [111,100,100]))),
  .iff (.and (.cmp .eq (.x "said") (.k (.str [111,100,100]))) (.cmp .eq (.tup [.at (.x "node") "kind",.at (.x "node") "a",.at (.x "node") "flags",.at (.x "node") "at",.bi 332 "len" [.at (.x "node") "kids"]]) (.tup [.g "K_CALL",.k (.str []),.k (.int 4),.x "c",.k (.int 3)]))) [.asg ["args"] (.ix (.at (.x "node") "kids") (.k (.int 1))),
   .asg ["kinds"] (.ix (.at (.x "node") "kids") (.k (.int 2))),
   .iff (.cmp .eq (.tup [.at (.x "args") "kind",.at (.x "kinds") "kind",.at (.x "kinds") "at",.at (.ix (.at (.x "node") "kids") (.k (.int 0))) "a"]) (.tup [.g "K_LIST",.g "K_LIST",.ix (.call "_law_sign" [.x "src",.x "c"]) (.k (.int 1)),.k (.str [102])])) [.asg ["said"] (.tup [.at (.x "args") "at",.call "_law_names" [.at (.x "kinds") "kids",.k (.int 1)],.call "_law_names" [.at (.x "args") "kids",.k (.int 1)]])] []] []] [("ParseStop",.asg "said" (.str [102,97,117,108,116]))],
 .iff (.cmp .is_ (.x "got") (.k (.none))) [.ret (.cmp .eq (.x "said") (.k (.str [110,111,110,101])))] [],
 .ex (.call "_law_move" [.x "src",.x "w",.x "got"]),
 .iff (.cmp .ne (.ix (.x "got") (.k (.int 0))) (.k (.str []))) [.asgI (.ix (.x "w") (.k (.str [115]))) (.k (.str [97,108,108,111,119])) (.k (.bool true)),
  .ret (.cmp .eq (.x "said") (.k (.str [102,97,117,108,116])))] [],
 .ret (.cmp .eq (.x "said") (.ix (.x "got") (.k (.int 4))))]
noncomputable def wZ:List S:=[.ex (.call "_law_go" [.x "src",.x "w",.k (.str [62])]),
 .asg ["c"] (.ix (.ix (.x "w") (.k (.str [115]))) (.k (.str [99]))),
 .asg ["text","at","end","line"] (.call "_law_sign" [.x "src",.x "c"]),
 .asg ["fine"] (.cmp .eq (.sl 333 (.x "text") (.k .none) (.k (.int 1))) (.k (.str [62]))),
 .tr [.ex (.call "need_angle" [.ix (.x "w") (.k (.str [112]))]),
  .asg ["said"] (.k (.bool true))] [("ParseStop",.asg "said" (.bool false))],
 .ex (.call "_law_move" [.x "src",.x "w",.ite (.x "fine") (.tup [.k (.str []),.bin 334 .add (.x "at") (.k (.int 1)),.k (.int 0),.ite (.cmp .eq (.x "text") (.k (.str [62,61]))) (.tup [.x "at"]) (.tup []),.tup []]) (.tup [.k (.str [62]),.x "c",.k (.int 0),.tup [],.tup []])]),
 .ret (.cmp .eq (.x "said") (.x "fine"))]
noncomputable def u0:List S:=[.asg ["number"] (.me 335 (.ix (.x "w") (.k (.str [112]))) "mark" []),
 .ex (.me 336 (.ix (.x "w") (.k (.str [109,97,114,107,115]))) "append" [.bi 337 "dict" [.ix (.x "w") (.k (.str [115]))]]),
 .ret (.cmp .eq (.x "number") (.bin 338 .sub (.bi 339 "len" [.ix (.x "w") (.k (.str [109,97,114,107,115]))]) (.k (.int 1))))]
noncomputable def gS:List S:=[.tr [.iff (.x "good") [.ex (.me 340 (.ix (.x "w") (.k (.str [112]))) "keep" [.x "number"])] [.ex (.me 341 (.ix (.x "w") (.k (.str [112]))) "back" [.x "number"])],
  .asg ["there"] (.k (.bool true))] [("HostFault",.asg "there" (.bool false))],
 .asg ["known"] (.cmp .lt (.x "number") (.bi 342 "len" [.ix (.x "w") (.k (.str [109,97,114,107,115]))])),
 .iff (.and (.x "known") (.not (.x "good"))) [.asgI (.x "w") (.k (.str [115])) (.ix (.ix (.x "w") (.k (.str [109,97,114,107,115]))) (.x "number"))] [],
 .asgI (.x "w") (.k (.str [109,97,114,107,115])) (.sl 343 (.ix (.x "w") (.k (.str [109,97,114,107,115]))) (.k .none) (.x "number")),
 .ret (.cmp .eq (.x "there") (.x "known"))]
noncomputable def gR:List S:=[.asg ["p"] (.ix (.x "w") (.k (.str [112]))),
 .asg ["s"] (.ix (.x "w") (.k (.str [115]))),
 .iff (.and (.cmp .eq (.bin 345 .mod (.x "n") (.k (.int 3))) (.k (.int 2))) (.cmp .gt (.bi 344 "len" [.at (.x "p") "labels"]) (.k (.int 0)))) [.ex (.me 346 (.at (.x "p") "labels") "pop" []),
  .asgI (.x "s") (.k (.str [108,97,98,101,108,115])) (.sl 347 (.ix (.x "s") (.k (.str [108,97,98,101,108,115]))) (.k .none) (.neg 1))] [.ex (.me 348 (.at (.x "p") "labels") "append" [.ix (.k (.str [97,98,99,100,101,102])) (.x "n")]),
  .asgI (.x "s") (.k (.str [108,97,98,101,108,115])) (.bin 349 .add (.ix (.x "s") (.k (.str [108,97,98,101,108,115]))) (.tup [.ix (.k (.str [97,98,99,100,101,102])) (.x "n")]))],
 .ex (.me 350 (.at (.x "p") "covers") "append" [.tup [.x "n",.k (.int 1005),.bin 351 .add (.x "n") (.k (.int 1)),.k (.str [61])]]),
 .asgI (.x "s") (.k (.str [99,111,118,101,114,115])) (.bin 352 .add (.ix (.x "s") (.k (.str [99,111,118,101,114,115]))) (.tup [.tup [.x "n",.k (.int 1005),.bin 353 .add (.x "n") (.k (.int 1)),.k (.str [61])]])),
 .asgA (.x "p") "pending" (.tup [.k (.str [103]),.x "n",.bin 354 .add (.x "n") (.k (.int 1))]),
 .asgA (.x "p") "in_func" (.bin 355 .add (.x "n") (.k (.int 2))),
 .asgA (.x "p") "in_loop" (.bin 356 .add (.x "n") (.k (.int 3))),
 .asgA (.x "p") "in_switch" (.bin 357 .add (.x "n") (.k (.int 4))),
 .asgA (.x "p") "ret_bar" (.cmp .eq (.bin 358 .mod (.x "n") (.k (.int 2))) (.k (.int 0))),
 .asgA (.x "p") "in_literal" (.bin 359 .add (.x "n") (.k (.int 5))),
 .asgI (.x "s") (.k (.str [112,108,97,105,110])) (.tup [.tup [.k (.str [103]),.x "n",.bin 360 .add (.x "n") (.k (.int 1))],.bin 361 .add (.x "n") (.k (.int 2)),.bin 362 .add (.x "n") (.k (.int 3)),.bin 363 .add (.x "n") (.k (.int 4)),.cmp .eq (.bin 364 .mod (.x "n") (.k (.int 2))) (.k (.int 0)),.bin 365 .add (.x "n") (.k (.int 5))]),
 .asgA (.x "p") "allow_in" (.cmp .gt (.x "n") (.k (.int 2))),
 .asgI (.x "s") (.k (.str [97,108,108,111,119])) (.cmp .gt (.x "n") (.k (.int 2))),
 .asgA (.x "p") "no_cond" (.cmp .lt (.bin 366 .mod (.x "n") (.k (.int 4))) (.k (.int 2))),
 .asgI (.x "s") (.k (.str [98,97,114,101])) (.cmp .lt (.bin 367 .mod (.x "n") (.k (.int 4))) (.k (.int 2))),
 .ret (.k (.bool true))]
noncomputable def wX:List S:=[.asg ["p"] (.ix (.x "w") (.k (.str [112]))),
 .asg ["at"] (.ix (.call "_law_sign" [.x "src",.ix (.ix (.x "w") (.k (.str [115]))) (.k (.str [99]))]) (.k (.int 1))),
 .asgI (.ix (.x "w") (.k (.str [115]))) (.k (.str [116,111,108,100])) (.bin 368 .add (.ix (.ix (.x "w") (.k (.str [115]))) (.k (.str [116,111,108,100]))) (.tup [.tup [.bin 369 .add (.k (.int 1003)) (.x "n"),.x "at",.tup [.k (.str [120])]]])),
 .tr [.ex (.me 370 (.x "p") "fault" [.bin 371 .add (.k (.int 1003)) (.x "n"),.tup [.k (.str [120])]])] [("ParseStop",.ret (.bool true))],
 .ret (.k (.bool false))]
noncomputable def qU:List S:=[.iff (.cmp .lt (.x "deed") (.k (.int 2))) [.ret (.call "_law_kinds" [.x "src",.x "w"])] [],
 .iff (.cmp .lt (.x "deed") (.k (.int 4))) [.ret (.call "_law_tail" [.x "src",.x "w"])] [],
 .iff (.cmp .eq (.x "deed") (.k (.int 4))) [.ret (.call "_law_angle" [.x "src",.x "w"])] [],
 .iff (.cmp .lt (.x "deed") (.k (.int 7))) [.ret (.call "_law_mark" [.x "w"])] [],
 .iff (.cmp .lt (.x "deed") (.k (.int 9))) [.ret (.call "_law_end" [.x "w",.bin 372 .mod (.x "n") (.bin 373 .add (.bi 374 "len" [.ix (.x "w") (.k (.str [109,97,114,107,115]))]) (.k (.int 1))),.cmp .eq (.x "deed") (.k (.int 8))])] [],
 .iff (.cmp .lt (.x "deed") (.k (.int 11))) [.ret (.call "_law_lay" [.x "w",.x "n"])] [],
 .ret (.call "_law_fault" [.x "src",.x "w",.x "n"])]
noncomputable def wY:List S:=[.forr "w" (.tup [.x "one",.x "two"]) [.iff (.and (.cmp .gt (.bi 375 "len" [.ix (.x "w") (.k (.str [109,97,114,107,115]))]) (.k (.int 0))) (.not (.call "_law_end" [.x "w",.k (.int 0),.k (.bool false)]))) [.ret (.k (.bool false))] []],
 .iff (.or (.not (.call "_law_true" [.x "src",.x "one"])) (.not (.call "_law_true" [.x "src",.x "two"]))) [.ret (.k (.bool false))] [],
 .forr "w" (.tup [.x "one",.x "two"]) [.iff (.or (.not (.call "_law_mark" [.x "w"])) (.or (.not (.call "_law_lay" [.x "w",.bin 376 .add (.k (.int 3)) (.ix (.x "w") (.k (.str [112,108,97,99,101])))])) (.not (.call "_law_angle" [.x "src",.x "w"])))) [.ret (.k (.bool false))] []],
 .iff (.or (.not (.call "_law_true" [.x "src",.x "one"])) (.not (.call "_law_true" [.x "src",.x "two"]))) [.ret (.k (.bool false))] [],
 .iff (.or (.not (.call "_law_end" [.x "one",.k (.int 0),.k (.bool false)])) (.or (.not (.call "_law_true" [.x "src",.x "one"])) (.not (.call "_law_true" [.x "src",.x "two"])))) [.ret (.k (.bool false))] [],
 .iff (.or (.not (.call "_law_end" [.x "two",.k (.int 0),.k (.bool false)])) (.or (.not (.call "_law_true" [.x "src",.x "one"])) (.not (.call "_law_true" [.x "src",.x "two"])))) [.ret (.k (.bool false))] [],
 .iff (.or (.not (.call "_law_angle" [.x "src",.x "one"])) (.or (.not (.call "_law_true" [.x "src",.x "one"])) (.not (.call "_law_true" [.x "src",.x "two"])))) [.ret (.k (.bool false))] [],
 .ret (.cmp .eq (.call "_law_seen" [.x "handed"]) (.ix (.x "one") (.k (.str [98,97,115,101]))))]
noncomputable def fns:List (String×List String×List S):=[("Diag.__init__",["self","number","at","args","file"],u9),
 ("Diag.row",["self"],gT),
 ("Diags.__init__",["self","file"],v7),
 ("Diags.put",["self","number","at","args"],u8),
 ("Token.__init__",["self","kind","text","num","at","end","line_before"],v3),
 ("Mark.__init__",["self","p"],u7),
 ("Mark.put_back",["self","p"],jq),
 ("cut_rows",["rows","count"],gQ),
 ("Parser.__init__",["self","tokens","diags"],kG),
 ("Parser.now",["self"],v5),
 ("Parser.ahead",["self","n"],jO),
 ("Parser.step",["self"],kC),
 ("Parser.is_sign",["self","text"],xY),
 ("Parser.is_word",["self","text"],xX),
 ("Parser.is_name",["self","text"],xZ),
 ("Parser.eat_sign",["self","text"],xE),
 ("Parser.need_sign",["self","text"],xm),
 ("Parser.need_name",["self"],xn),
 ("Parser.fault",["self","number","args"],jN),
 ("Parser.fault_at",["self","number","at","args"],xD),
 ("Parser.down",["self"],kH),
 ("Parser.up",["self"],u4),
 ("Parser.part",["self","n"],kD),
 ("Parser.mark",["self"],kE),
 ("Parser.back",["self","number"],kI),
 ("Parser.keep",["self","number"],kF),
 ("take_mark",["p","number"],vN),
 ("is_token",["token","kind","text"],gP),
 ("check_height",["p","root"],jM),
 ("eat_token",["p","kind","text"],vR),
 ("token_key",["token"],vM),
 ("need_angle",["p"],wR),
 ("Node.__init__",["self","kind","a","kids","flags","at"],u5),
 ("leaf",["kind","a","at"],VT),
 ("twig",["kind","a","kids","at"],VS),
 ("flagged",["kind","a","kids","flags","at"],qS),
 ("list_of",["nodes","at"],qR),
 ("TypePart.parse",["self","p"],xW),
 ("ptypes_read_kind",["p"],xl),
 ("read_branch",["p"],kx),
 ("extends_here",["p","check"],jL),
 ("kind_with",["p","no_cond"],vQ),
 ("read_union",["p"],wO),
 ("read_inter",["p"],wQ),
 ("read_operator",["p"],jo),
 ("read_hanging",["p"],jK),
 ("NameKindRule.take",["self","p","left"],yQ),
 ("refuse_odd_kind",["p"],xC),
 ("read_dotted",["p"],ku),
 ("read_type_args",["p"],xV),
 ("is_template",["token"],kz),
 ("read_args",["p"],vP),
 ("read_item",["p"],vO),
 ("KindArgsTail.take",["self","p","left","flags"],yR),
 ("try_type_args",["p"],jm),
 ("_law_take",["pile","n"],vU),
 ("_law_signs",["pile"],wU),
 ("_law_text",["pile"],vT),
 ("_law_sign",["src","c"],vW),
 ("_law_rows",["src","cuts"],vY),
 ("_law_seen",["tokens"],vX),
 ("_law_angles",["src","c","named"],kB),
 ("_law_call",["src","c","named"],u3),
 ("_law_names",["nodes","level"],wV),
 ("_law_reader",["handed","base","place","named"],kA),
 ("_law_true",["src","w"],vS),
 ("_law_move",["src","w","got"],vZ),
 ("_law_go",["src","w","letter"],qT),
 ("_law_kinds",["src","w"],wW),
 ("_law_tail",["src","w"],vV),
 ("_law_angle",["src","w"],wZ),
 ("_law_mark",["w"],u0),
 ("_law_end",["w","number","good"],gS),
 ("_law_lay",["w","n"],gR),
 ("_law_fault",["src","w","n"],wX),
 ("_law_do",["src","w","deed","n"],qU),
 ("_law_close",["src","handed","one","two"],wY)]
theorem H8 (P:Params):(fns.all fun x=>zo P x.1 x.2.1 x.2.2)=true:=by kernel_rfl
theorem zf (i:Nat) {f:String} {n:List String} {b:List S} (h:fns[i]?=some (f,n,b)) (P:Params):zo P f n b=true:=List.all_eq_true.mp (H8 P) _ (List.mem_of_getElem? h)
theorem Zn:∀ P,zo P "Diag.__init__" ["self","number","at","args","file"] u9=true:=zf 0 rfl
theorem Yl:∀ P,zo P "Diag.row" ["self"] gT=true:=zf 1 rfl
theorem qi:∀ P,zo P "Diags.__init__" ["self","file"] v7=true:=zf 2 rfl
theorem Zm:∀ P,zo P "Diags.put" ["self","number","at","args"] u8=true:=zf 3 rfl
theorem qg:∀ P,zo P "Token.__init__" ["self","kind","text","num","at","end","line_before"] v3=true:=zf 4 rfl
theorem Zl:∀ P,zo P "Mark.__init__" ["self","p"] u7=true:=zf 5 rfl
theorem vq:∀ P,zo P "Mark.put_back" ["self","p"] jq=true:=zf 6 rfl
theorem Yi:∀ P,zo P "cut_rows" ["rows","count"] gQ=true:=zf 7 rfl
theorem gf:∀ P,zo P "Parser.__init__" ["self","tokens","diags"] kG=true:=zf 8 rfl
theorem qh:∀ P,zo P "Parser.now" ["self"] v5=true:=zf 9 rfl
theorem uh:∀ P,zo P "Parser.ahead" ["self","n"] jO=true:=zf 10 rfl
theorem g7:∀ P,zo P "Parser.step" ["self"] kC=true:=zf 11 rfl
theorem wu:∀ P,zo P "Parser.is_sign" ["self","text"] xY=true:=zf 12 rfl
theorem wt:∀ P,zo P "Parser.is_word" ["self","text"] xX=true:=zf 13 rfl
theorem wx:∀ P,zo P "Parser.is_name" ["self","text"] xZ=true:=zf 14 rfl
theorem kQ:∀ P,zo P "Parser.eat_sign" ["self","text"] xE=true:=zf 15 rfl
theorem kc:∀ P,zo P "Parser.need_sign" ["self","text"] xm=true:=zf 16 rfl
theorem ke:∀ P,zo P "Parser.need_name" ["self"] xn=true:=zf 17 rfl
theorem ug:∀ P,zo P "Parser.fault" ["self","number","args"] jN=true:=zf 18 rfl
theorem kP:∀ P,zo P "Parser.fault_at" ["self","number","at","args"] xD=true:=zf 19 rfl
theorem gg:∀ P,zo P "Parser.down" ["self"] kH=true:=zf 20 rfl
theorem Zj:∀ P,zo P "Parser.up" ["self"] u4=true:=zf 21 rfl
theorem g8:∀ P,zo P "Parser.part" ["self","n"] kD=true:=zf 22 rfl
theorem g9:∀ P,zo P "Parser.mark" ["self"] kE=true:=zf 23 rfl
theorem gh:∀ P,zo P "Parser.back" ["self","number"] kI=true:=zf 24 rfl
theorem gc:∀ P,zo P "Parser.keep" ["self","number"] kF=true:=zf 25 rfl
theorem hZ:∀ P,zo P "take_mark" ["p","number"] vN=true:=zf 26 rfl
theorem Yh:∀ P,zo P "is_token" ["token","kind","text"] gP=true:=zf 27 rfl
theorem uf:∀ P,zo P "check_height" ["p","root"] jM=true:=zf 28 rfl
theorem Z7:∀ P,zo P "eat_token" ["p","kind","text"] vR=true:=zf 29 rfl
theorem hY:∀ P,zo P "token_key" ["token"] vM=true:=zf 30 rfl
theorem q8:∀ P,zo P "need_angle" ["p"] wR=true:=zf 31 rfl
theorem Zk:∀ P,zo P "Node.__init__" ["self","kind","a","kids","flags","at"] u5=true:=zf 32 rfl
theorem UN:∀ P,zo P "leaf" ["kind","a","at"] VT=true:=zf 33 rfl
theorem UM:∀ P,zo P "twig" ["kind","a","kids","at"] VS=true:=zf 34 rfl
theorem Xr:∀ P,zo P "flagged" ["kind","a","kids","flags","at"] qS=true:=zf 35 rfl
theorem Xq:∀ P,zo P "list_of" ["nodes","at"] qR=true:=zf 36 rfl
theorem wq:∀ P,zo P "TypePart.parse" ["self","p"] xW=true:=zf 37 rfl
theorem k8:∀ P,zo P "ptypes_read_kind" ["p"] xl=true:=zf 38 rfl
theorem uW:∀ P,zo P "read_branch" ["p"] kx=true:=zf 39 rfl
theorem ue:∀ P,zo P "extends_here" ["p","check"] jL=true:=zf 40 rfl
theorem Z6:∀ P,zo P "kind_with" ["p","no_cond"] vQ=true:=zf 41 rfl
theorem gY:∀ P,zo P "read_union" ["p"] wO=true:=zf 42 rfl
theorem gZ:∀ P,zo P "read_inter" ["p"] wQ=true:=zf 43 rfl
theorem vp:∀ P,zo P "read_operator" ["p"] jo=true:=zf 44 rfl
theorem ud:∀ P,zo P "read_hanging" ["p"] jK=true:=zf 45 rfl
theorem jB:∀ P,zo P "NameKindRule.take" ["self","p","left"] yQ=true:=zf 46 rfl
theorem kN:∀ P,zo P "refuse_odd_kind" ["p"] xC=true:=zf 47 rfl
theorem uV:∀ P,zo P "read_dotted" ["p"] ku=true:=zf 48 rfl
theorem wo:∀ P,zo P "read_type_args" ["p"] xV=true:=zf 49 rfl
theorem uX:∀ P,zo P "is_template" ["token"] kz=true:=zf 50 rfl
theorem Z5:∀ P,zo P "read_args" ["p"] vP=true:=zf 51 rfl
theorem Z0:∀ P,zo P "read_item" ["p"] vO=true:=zf 52 rfl
theorem jC:∀ P,zo P "KindArgsTail.take" ["self","p","left","flags"] yR=true:=zf 53 rfl
theorem vo:∀ P,zo P "try_type_args" ["p"] jm=true:=zf 54 rfl
theorem Za:∀ P,zo P "_law_take" ["pile","n"] vU=true:=zf 55 rfl
theorem q9:∀ P,zo P "_law_signs" ["pile"] wU=true:=zf 56 rfl
theorem Z9:∀ P,zo P "_law_text" ["pile"] vT=true:=zf 57 rfl
theorem Zc:∀ P,zo P "_law_sign" ["src","c"] vW=true:=zf 58 rfl
theorem Zf:∀ P,zo P "_law_rows" ["src","cuts"] vY=true:=zf 59 rfl
theorem Ze:∀ P,zo P "_law_seen" ["tokens"] vX=true:=zf 60 rfl
theorem uZ:∀ P,zo P "_law_angles" ["src","c","named"] kB=true:=zf 61 rfl
theorem Zi:∀ P,zo P "_law_call" ["src","c","named"] u3=true:=zf 62 rfl
theorem qa:∀ P,zo P "_law_names" ["nodes","level"] wV=true:=zf 63 rfl
theorem uY:∀ P,zo P "_law_reader" ["handed","base","place","named"] kA=true:=zf 64 rfl
theorem Z8:∀ P,zo P "_law_true" ["src","w"] vS=true:=zf 65 rfl
theorem Zg:∀ P,zo P "_law_move" ["src","w","got"] vZ=true:=zf 66 rfl
theorem Xs:∀ P,zo P "_law_go" ["src","w","letter"] qT=true:=zf 67 rfl
theorem qc:∀ P,zo P "_law_kinds" ["src","w"] wW=true:=zf 68 rfl
theorem Zb:∀ P,zo P "_law_tail" ["src","w"] vV=true:=zf 69 rfl
theorem qf:∀ P,zo P "_law_angle" ["src","w"] wZ=true:=zf 70 rfl
theorem Zh:∀ P,zo P "_law_mark" ["w"] u0=true:=zf 71 rfl
theorem Yk:∀ P,zo P "_law_end" ["w","number","good"] gS=true:=zf 72 rfl
theorem Yj:∀ P,zo P "_law_lay" ["w","n"] gR=true:=zf 73 rfl
theorem qd:∀ P,zo P "_law_fault" ["src","w","n"] wX=true:=zf 74 rfl
theorem Xu:∀ P,zo P "_law_do" ["src","w","deed","n"] qU=true:=zf 75 rfl
theorem qe:∀ P,zo P "_law_close" ["src","handed","one","two"] wY=true:=zf 76 rfl
theorem zi {n k d:Nat} (h:n≤d) (e:Nat.ble k n=true):k≤d:=Nat.le_trans (Nat.le_of_ble_eq_true e) h
theorem za {x m k:Nat} (h:x≤m) (e:Nat.ble m k=true):x≤k:=Nat.le_trans h (Nat.le_of_ble_eq_true e)
theorem Eg {x m k:Nat} (h:x < m) (e:Nat.ble m k=true):x < k:=Nat.le_trans h (Nat.le_of_ble_eq_true e)
abbrev eF (Q:V→St→Prop) (fl:Fl) (_:Frm) (σ:St):Prop:=Fl.casesOn fl (Q .none σ) False False fun v=>Q v σ
abbrev eX (X:String→St→Prop):XP:=fun _ C _ σ=>X C σ
theorem zg {f:String} {names:List String} {b:List S} (h:∀ P,zo P f names b=true) {d k:Nat} (hd:k+2≤d) {args:List V} {σ:St} {Q:V→St→Prop} {X:String→St→Prop} (hl:args.length=names.length)
  (hw:∀ e,k≤e→jv (RC e) b (names.zip args) (eF Q) (eX X) σ):ze (RC d) f args σ Q X:=by
 obtain ⟨e,he⟩:=Nat.exists_eq_add_of_le (Nat.le_trans (Nat.le_add_left 2 k) hd)
 rw [he,Nat.add_comm 2 e] at hd ⊢
 unfold ze
 exact N7 h hl (hw e (Nat.le_of_add_le_add_right hd))
theorem Qy {f n1 n2:String} {b:List S} {t:List Nat} (hne:Str.ofString n1≠Str.ofString n2) (h:∀ P,zo P f [n1,n2] b=true) (hdf:∀ P,dfl P f=some (sv t)) {d:Nat} (hd:2≤d) {v:V} {σ:St} {Q:V→St→Prop} {X:String→St→Prop}
  (hw:∀ e,jv (RC e) b ([n1,n2].zip [v,.str t]) (eF Q) (eX X) σ):ze (RC d) f [v] σ Q X:=by
 obtain ⟨e,he⟩:=Nat.exists_eq_add_of_le hd
 rw [he,Nat.add_comm 2 e]
 unfold ze
 exact Qz hne h hdf (hw e)
noncomputable def Wf (σ:St):Prop:=∀ l c,σ.m l=some c→l.2.2 < σ.nx
theorem RC.wf {d:Nat} {f:String} {args:List V} {σ:St} {Φ:Out→St→Prop} (h:Wf σ→RC d f args σ Φ):RC d f args σ (fun o σ'=>Φ o σ'∧Wf σ'∧σ.nx≤σ'.nx):=by
 intro w A st fr c s avs R a1 a2 a3 a4 a5 a6 a7 a8 W a10 r x
 have wf:Wf σ:=fun l cl e=>(W.cells l cl (a8▸e)).1 |> fun q=>a8▸q
 refine h wf w A st fr c s avs R a1 a2 a3 a4 a5 a6 a7 a8 W a10 (fun mv v c' s' q b1 b2 b3=>r mv v c' s' ⟨q,fun l cl e=>(b2.cells l cl e).1,a8▸b3.nx⟩ b1 b2 b3) fun C ea a0 c' s' q b1 b2 b3=>x C ea a0 c' s' ⟨q,fun l cl e=>(b2.cells l cl e).1,a8▸b3.nx⟩ b1 b2 b3
theorem xA {d:Nat} {f:String} {args:List V} {σ:St} {Q:V→St→Prop} {X:String→St→Prop} (h:Wf σ→ze (RC d) f args σ (fun v σ'=>Wf σ'→σ.nx≤σ'.nx→Q v σ') fun C σ'=>Wf σ'→σ.nx≤σ'.nx→X C σ'):ze (RC d) f args σ Q X:=by
 unfold ze at h ⊢
 exact RC.mono (RC.wf h) fun o σ' x=>Out.casesOn (motive:=fun o=>oR (fun v σ'=>Wf σ'→σ.nx≤σ'.nx→Q v σ') (fun C σ'=>Wf σ'→σ.nx≤σ'.nx→X C σ') o σ'→oR Q X o σ') o (fun _ h=>h x.2.1 x.2.2) (fun _ h=>h x.2.1 x.2.2) x.1
theorem RC.owned {d:Nat} {f:String} {args:List V} {σ:St} {Φ:Out→St→Prop} (i:Nat) (h:RC d f args (σ.own i) Φ):RC d f args σ (fun o σ'=>∃ σ'',Φ o σ''∧σ'=σ''.own σ.ow):=by
 intro w A st fr c s avs R a1 a2 a3 a4 a5 a6 a7 a8 W a10 r x
 subst a8
 refine h w A st fr ⟨c.σ.own i,c.ρ,c.h⟩ s avs R a1 a2 a3 a4 a5 a6 a7 rfl ⟨W.base,W.cells,W.inj,W.sep,W.notbase⟩ a10 (fun mv v c' s' q b1 b2 b3 b4 b5 b6=>?_) fun C ea a0 c' s' q b1 b2 b3 b4 b5 b6 b7=>?_
 ·exact r mv v ⟨c'.σ.own c.σ.ow,c'.ρ,c'.h⟩ s' ⟨c'.σ,q,rfl⟩ b1 ⟨b2.base,b2.cells,b2.inj,b2.sep,b2.notbase⟩ ⟨b3.nx,b3.ag,b3.keep,b3.mt,b3.frk,b3.al⟩ b4 b5 b6
 ·exact x C ea a0 ⟨c'.σ.own c.σ.ow,c'.ρ,c'.h⟩ s' ⟨c'.σ,q,rfl⟩ b1 ⟨b2.base,b2.cells,b2.inj,b2.sep,b2.notbase⟩ ⟨b3.nx,b3.ag,b3.keep,b3.mt⟩ b4 b5 b6 b7
section
variable {R:Rel} {F:Frm} {σ:St} {QS:Fl→Frm→St→Prop} {XS:XP}
theorem g_ {α:Type} {o:Option α} {v:α} (h:o=some v) {P:α→Prop} (q:P v):op o P:=by rw [h];exact q
theorem zC {b:Bool} {A B:Prop} (h1:b=true→A) (h2:b=false→B):cB b A B:=by
 cases b
 ·exact h2 rfl
 ·exact h1 rfl
theorem m_t {b:Bool} {A B:Prop} (e:b=true) (h:A):cB b A B:=by rw [e];exact h
theorem m_f {b:Bool} {A B:Prop} (e:b=false) (h:B):cB b A B:=by rw [e];exact h
theorem Mw {A B:Prop} {b b':Bool} (h1:(b||b')=true→A) (h2:(b||b')=false→B):cB b (cB b A B) (cB b' A B):=by
 cases b
 ·show cB b' A B
  exact zC h1 h2
 ·exact h1 rfl
theorem Mx {A B:Prop} {b b':Bool} (h1:(b&&b')=true→A) (h2:(b&&b')=false→B):cB b (cB b' A B) (cB b A B):=by
 cases b
 ·exact h2 rfl
 ·show cB b' A B
  exact zC h1 h2
theorem QQ {A B:Prop} {b b':Bool} (h1:(b&&b')=true→A) (h2:(b&&b')=false→B):cB b (cB b' A B) B:=by
 cases b
 ·exact h2 rfl
 ·show cB b' A B
  exact zC h1 h2
theorem wG {t:E} {B:Frm→(Fl→Frm→St→Prop)→XP→St→Prop} (I:Nat→Frm→St→Prop) {n:Nat} (k:Nat) (i0:I n (F.take k) σ)
  (step:∀ n F σ,I n F σ→∀ (Q':Fl→Frm→St→Prop) (X':XP),(∀ k {m F σ},I m (F.take k) σ→m < n→Q' .next F σ)→(∀ v F σ,QS (.ret v) F σ→Q' (.ret v) F σ)→(∀ C F σ,XS .held C F σ→X' .fly C F σ)→
   wpB R F t (fun t σ=>cB t (B F Q' X' σ) (QS .next F σ)) (fun C σ=>XS .held C F σ) σ):KN R t B F QS XS σ:=
 ⟨I,n,k,i0,fun n F σ h=>step n F σ h _ _ (fun k m _ _ h l=>⟨m,k,l,h⟩) (fun _ _ _ h=>h) fun _ _ _ h=>h⟩
theorem qG {n:String} {f:Frm→(Fl→Frm→St→Prop)→St→Prop} {keep:St→Prop} {Q:Fl→Frm→St→Prop} (I:List V→Frm→St→Prop) (fin:∀ F σ,I [] F σ→Q .next F σ)
  (step:∀ v r F σ,I (v::r) F σ→∀ (Q':Fl→Frm→St→Prop),(∀ k {F σ},keep σ→I r (F.take k) σ→Q' .next F σ)→(∀ v F σ,Q (.ret v) F σ→Q' (.ret v) F σ)→(∀ F σ,Q .next F σ→Q' .brk F σ)→f (yo n v F) Q' σ):∀ {vs:List V} {F:Frm} {σ:St},I vs F σ→vu f (yn [n]) keep Q vs F σ
 | [],_,_,h=>fin _ _ h
 | v::r,_,_,h=>step v r _ _ h _ (fun k _ _ h i=>⟨k,h,qG I fin step i⟩) (fun _ _ _ h=>h) fun _ _ h=>h
end
theorem jJ {a n:Nat} {d:Int}:kt (.int (a:Int)) d n=some (min a n):=by
 show some (max 0 (min (if (a:Int) < 0 then (a:Int)+n else a) n)).toNat=_
 rw [if_neg (Int.not_lt.mpr (Int.natCast_nonneg a))]
 have e:∀ k:Nat,(max 0 (k:Int)).toNat=k:=fun k=>by rw [Int.max_eq_right (Int.natCast_nonneg k),Int.toNat_natCast]
 rcases Nat.le_total a n with h | h
 ·rw [Nat.min_eq_left h,Int.min_eq_left (Int.ofNat_le.mpr h),e]
 ·rw [Nat.min_eq_right h,Int.min_eq_right (Int.ofNat_le.mpr h),e]
theorem Y6 {α:Type} {l:List α} {a b:Nat}:pySl l (min a l.length) (min b l.length)=pySl l a b:=by
 unfold pySl
 by_cases h:a≤l.length
 ·rw [Nat.min_eq_left h]
  by_cases h':b≤l.length
  ·rw [Nat.min_eq_left h']
  ·rw [Nat.min_eq_right (Nat.le_of_not_le h'),List.take_of_length_le (Nat.le_of_eq List.length_drop),List.take_of_length_le (by rw [List.length_drop];exact Nat.sub_le_sub_right (Nat.le_of_not_le h') a)]
 ·have h:=Nat.le_of_not_le h
  rw [Nat.min_eq_right h,List.drop_eq_nil_of_le (Nat.le_refl _),List.drop_eq_nil_of_le h,List.take_nil,List.take_nil]
theorem W6 {k a:Nat} {s:List Nat} {σ:St} {Q:V→St→Prop} (b:Nat) {y:Int} (h:s.length≤1000000) (q:Q (.str (pySl s a b)) σ) (e:y=(b:Int):=by rfl):y0 k (.str s) (.int (a:Int)) (.int y) σ Q:=by
 unfold y0
 rw [e]
 show op (kt (.int (a:Int)) 0 s.length) fun x=>op (kt (.int (b:Int)) (s.length:Int) s.length) fun y=>s.length≤1000000∧Q (.str (pySl s x y)) σ
 refine g_ jJ (g_ jJ ⟨h,?_⟩)
 rw [Y6];exact q
theorem HV {k:Nat} {s:List Nat} {σ:St} {Q:V→St→Prop} (b:Nat) {y:Int} (h:s.length≤1000000) (q:Q (.str (pySl s 0 b)) σ) (e:y=(b:Int):=by rfl):y0 k (.str s) .none (.int y) σ Q:=by
 unfold y0
 rw [e]
 show op (kt (.int (b:Int)) (s.length:Int) s.length) fun y=>s.length≤1000000∧Q (.str (pySl s 0 y)) σ
 refine g_ jJ ⟨h,?_⟩
 rw [← Nat.zero_min s.length,Y6];exact q
theorem Jr:zE "T_END"=some (.int 0):=by unfold zE y4;rfl
theorem xS:zE "T_NAME"=some (.int 1):=by unfold zE y4;rfl
theorem gB:zE "T_WORD"=some (.int 2):=by unfold zE y4;rfl
theorem zV:zE "T_SIGN"=some (.int 5):=by unfold zE y4;rfl
theorem d_t {p:Prop} [Decidable p] (h:decide p=true):p:=of_decide_eq_true h
theorem d_f {p:Prop} [Decidable p] (h:decide p=false):¬p:=of_decide_eq_false h
theorem XM {p:Prop} [Decidable p] (h:(!decide p)=true):¬p:=of_decide_eq_false (ya h)
theorem gI {p:Prop} [Decidable p] (h:(!decide p)=false):p:=of_decide_eq_true ((Bool.not_eq_false' (b:=decide p)).mp h)
theorem dt {p:Prop} [Decidable p] (h:p):decide p=true:=decide_eq_true h
theorem df {p:Prop} [Decidable p] (h:¬p):decide p=false:=decide_eq_false h
theorem dnt {p:Prop} [Decidable p] (h:¬p):(!decide p)=true:=by rw [decide_eq_false h];rfl
theorem dnf {p:Prop} [Decidable p] (h:p):(!decide p)=false:=by rw [decide_eq_true h];rfl
structure Tk where
 kind:Int
 text:List Nat
 at_:Nat
 en:Nat
 lb:Bool
noncomputable def Tk.f (t:Tk):List (String×V):=[("kind",.int t.kind),("text",.str t.text),("num",.int 0),("at",.int t.at_),("end",.int t.en),("line_before",.bool t.lb)]
noncomputable def Tk.v (t:Tk):V:=.obj "Token" t.f
theorem xk {d:Nat} (hd:2≤d) {σ:St} {t:Tk} {k:Int} {x:List Nat} {Q:V→St→Prop} {X:String→St→Prop} (q:Q (.bool (decide (t.kind=k)&&decide (t.text=x))) σ):ze (RC d) "is_token" [t.v,.int k,.str x] σ Q X:=by
 refine zg Yh hd rfl fun e he=>zC (fun h=>?_) fun h=>?_
 ·rw [h] at q;exact q
 ·rw [h] at q ⊢;exact q
noncomputable def blk (x:Nat):Bool:=x==32||x==10
noncomputable def skp (s:List Nat) (c:Nat):Nat:=c+((s.drop c).takeWhile blk).length
noncomputable def ops:List (List Nat):=[[62,61],[61,61],[61,62],[61,61,61]]
noncomputable def yV (s:List Nat) (a:Nat):List Nat:=
 if pySl s a (a+1)=[62]∨pySl s a (a+1)=[61] then ops.foldl (fun t o=>if pySl s a (a+o.length)=o then o else t) (pySl s a (a+1)) else pySl s a (a+1)
structure Sg where
 text:List Nat
 at_:Nat
 en:Nat
 line:Bool
noncomputable def sg (s:List Nat) (c:Nat):Sg:=⟨yV s (skp s c),skp s c,skp s c+(yV s (skp s c)).length,decide (10∈pySl s c (skp s c))⟩
noncomputable def Sg.v (g:Sg):V:=.tup [.str g.text,.int g.at_,.int g.en,.bool g.line]
theorem xe {s:List Nat} {a:Nat}:pySl s a (a+1)=(s.drop a).take 1:=by
 unfold pySl;congr 1;omega
theorem yX {s r:List Nat} {a x:Nat} (h:s.drop a=x::r):s.drop (a+1)=r:=by
 rw [← List.drop_drop,h];rfl
theorem Gr {s r:List Nat} {a x:Nat} (h:s.drop a=x::r):a < s.length:=by
 have:(s.drop a).length=r.length+1:=by rw [h];rfl
 rw [List.length_drop] at this;omega
theorem Uv {s r:List Nat} {a x:Nat} (h:s.drop a=x::r) (b:blk x=true):skp s a=skp s (a+1):=by
 unfold skp;rw [yX h,h,List.takeWhile_cons,b];simp;omega
theorem uk {s r:List Nat} {a x:Nat} (h:s.drop a=x::r) (b:blk x=false):skp s a=a:=by
 unfold skp;rw [h,List.takeWhile_cons,b];simp
theorem Uu {s:List Nat} {a:Nat} (h:s.drop a=[]):skp s a=a:=by
 unfold skp;rw [h];simp
theorem W7 {s:List Nat} {a:Nat}:a≤skp s a:=Nat.le_add_right _ _
theorem Qh {s:List Nat} {a x:Nat} (h:pySl s a (a+1)=[x]) (b:blk x=true):a < s.length∧skp s (a+1)=skp s a:=by
 rw [xe] at h
 cases e:s.drop a with
 | nil=>rw [e] at h;cases h
 | cons y r=>
  rw [e] at h;cases h
  exact ⟨Gr e,(Uv e b).symm⟩
theorem Qg {s:List Nat} {a:Nat} (h:pySl s a (a+1)≠[32]) (h':pySl s a (a+1)≠[10]):skp s a=a:=by
 rw [xe] at h h'
 cases e:s.drop a with
 | nil=>exact Uu e
 | cons y r=>
  rw [e] at h h'
  refine uk e ?_
  simp only [blk,Bool.or_eq_false_iff,beq_eq_false_iff_ne]
  exact ⟨fun z=>h (by rw [z];rfl),fun z=>h' (by rw [z];rfl)⟩
theorem Nb {s:List Nat} {a:Nat} (h:pySl s a (a+1)=[62]∨pySl s a (a+1)=[61]):yV s a=ops.foldl (fun t o=>if pySl s a (a+o.length)=o then o else t) (pySl s a (a+1)):=if_pos h
theorem if3 {o t:List Nat} {p:Prop} [Decidable p] (h:o.length≤3) (h':t.length≤3):(if p then o else t).length≤3:=by
 split <;> assumption
theorem Wo {s:List Nat} {a:Nat}:(yV s a).length≤3:=by
 have h:(pySl s a (a+1)).length≤3:=by rw [xe,List.length_take];omega
 unfold yV
 refine if3 ?_ h
 exact if3 (by decide) (if3 (by decide) (if3 (by decide) (if3 (by decide) h)))
noncomputable def fS (s:List Nat) (c a:Nat) (t:List Nat) (r:Frm):Frm:=("src",.str s)::("c",.int (c:Int))::("at",.int (a:Int))::("text",.str t)::r
noncomputable def W9 (k1 k2 k3:Nat):List S:=[.iff (.cmp .eq (.sl k1 (.x "src") (.x "at") (.bin k2 .add (.x "at") (.bi k3 "len" [.x "sign"]))) (.x "sign")) [.asg ["text"] (.x "sign")] []]
theorem jQ {R:Rel} {k1 k2 k3:Nat} {XS:XP} {QS:Fl→Frm→St→Prop} {keep:St→Prop} {σ:St} {s:List Nat} {c a:Nat} {t o:List Nat} {r:List V} (hs:s.length≤1000000) (ho:o.length≤1000000) {F:Frm} (hF:yo "sign" (.str o) F=fS s c a t [("sign",.str o)]) (hk:keep σ)
  (h:vu (fun F' Q' σ'=>jv R (W9 k1 k2 k3) F' Q' XS σ') (yn ["sign"]) keep QS r (fS s c a (if pySl s a (a+o.length)=o then o else t) [("sign",.str o)]) σ):
  vu (fun F' Q' σ'=>jv R (W9 k1 k2 k3) F' Q' XS σ') (yn ["sign"]) keep QS (.str o::r) F σ:=by
 show jv R (W9 k1 k2 k3) (yo "sign" (.str o) F) _ XS σ
 rw [hF]
 refine ⟨ho,W6 (a+o.length) hs (zC (fun z=>⟨5,hk,?_⟩) fun z=>⟨5,hk,?_⟩)⟩
 ·rw [if_pos (d_t z)] at h
  exact h
 ·rw [if_neg (d_f z)] at h
  exact h
inductive ISp (s:List Nat) (c:Nat) (σ:St):Nat→Frm→St→Prop
 | mk (a:Nat):skp s a=skp s c→ISp s c σ (s.length - a) [("src",.str s),("c",.int (c:Int)),("at",.int (a:Int))] σ
theorem zv {d:Nat} (hd:2≤d) {σ:St} {s:List Nat} {c:Nat} (hs:s.length≤1000) {Q:V→St→Prop} {X:String→St→Prop} (q:Q (sg s c).v σ):ze (RC d) "_law_sign" [.str s,.int (c:Int)] σ Q X:=by
 refine zg Zc hd rfl fun d _=>?_
 have hs':=za hs (k:=1000000) rfl
 refine wG (ISp s c σ) 3 (.mk c rfl) ?_
 rintro n F σ ⟨a,h1⟩ Q' X' qn qr qx
 have tn:∀ x,pySl s a (a+1)=[x]→blk x=true→Q' .next [("src",.str s),("c",.int (c:Int)),("at",.int ((a:Int)+1))] σ:=fun x e b=>
  have ⟨l,e⟩:=Qh e b
  qn 3 (.mk (a+1) (e.trans h1)) (Nat.sub_lt_sub_left l (Nat.lt_succ_self a))
 refine W6 (a+1) hs' (zC (fun e=>m_t e (tn 32 (d_t e) rfl)) fun e1=>W6 (a+1) hs' (zC (fun e=>tn 10 (d_t e) rfl) fun e2=>?_))
 clear tn qn qr qx Q' X'
 have e0:=Qg (d_f e1) (d_f e2)
 clear e1 e2
 have fin:∀ r,jv (RC d) [.ret (.tup [.x "text",.x "at",.bin 283 .add (.x "at") (.bi 284 "len" [.x "text"]),.cmp .isin (.k (.str [10])) (.sl 285 (.x "src") (.x "c") (.x "at"))])] (fS s c a (yV s a) r) (eF Q) (eX X) σ:=fun r=>
  ⟨za Wo rfl,W6 a hs' ⟨za (Nat.le_refl 4) rfl,by
   have e:sg s c=⟨yV s a,a,a+(yV s a).length,decide (10∈pySl s c a)⟩:=by unfold sg;rw [← h1,e0]
   rw [e] at q;exact q⟩⟩
 refine W6 (a+1) hs' (Mw (fun z=>?_) fun z=>?_)
 ·have z':pySl s a (a+1)=[62]∨pySl s a (a+1)=[61]:=(Bool.or_eq_true_iff.mp z).imp d_t d_t
  refine ⟨za (Nat.le_refl 4) rfl,jQ hs' (za (Nat.le_refl 2) rfl) rfl rfl (jQ hs' (za (Nat.le_refl 2) rfl) rfl rfl (jQ hs' (za (Nat.le_refl 2) rfl) rfl rfl (jQ hs' (za (Nat.le_refl 3) rfl) rfl rfl ?_)))⟩
  have f:=fin [("sign",.str [61,61,61])]
  rw [Nb z'] at f
  exact f
 ·have f:=fin []
  have z':=Bool.or_eq_false_iff.mp z
  rw [show yV s a=pySl s a (a+1) from if_neg (not_or.mpr ⟨d_f z'.1,d_f z'.2⟩)] at f
  exact f
theorem hG {s:List Nat} {a:Nat}:pySl s a (a+(pySl s a (a+1)).length)=pySl s a (a+1)∧(pySl s a (a+1)=[]↔s.drop a=[]):=by
 rw [xe]
 unfold pySl
 cases s.drop a with
 | nil=>exact ⟨List.take_nil,Iff.rfl⟩
 | cons x r=>exact ⟨by rw [Nat.add_sub_cancel_left];rfl,⟨nofun,nofun⟩⟩
theorem um {s:List Nat} {a:Nat} {P:List Nat→Prop} (h0:P (pySl s a (a+1))) (h1:∀ o∈ops,pySl s a (a+o.length)=o→P o):P (yV s a):=by
 unfold yV
 split
 ·have key:∀ (l:List (List Nat)) (t:List Nat),(∀ o∈l,o∈ops)→P t→P (l.foldl (fun t o=>if pySl s a (a+o.length)=o then o else t) t):=by
   intro l
   induction l with
   | nil=>exact fun t _ h=>h
   | cons o l ih=>
    refine fun t hl h=>ih _ (fun o ho=>hl o (.tail _ ho)) ?_
    show P (if pySl s a (a+o.length)=o then o else t)
    split
    ·rename_i q;exact h1 o (hl o (.head _)) q
    ·exact h
  exact key _ _ (fun _ h=>h) h0
 ·exact h0
theorem uo {s:List Nat} {a:Nat}:pySl s a (a+(yV s a).length)=yV s a:=um (P:=fun t=>pySl s a (a+t.length)=t) hG.1 fun _ _ h=>h
theorem Wt {s:List Nat} {a:Nat}:yV s a=[]↔s.drop a=[]:=
 ⟨fun h=>hG.2.mp (um (P:=fun t=>t=[]→pySl s a (a+1)=[]) id (fun o ho _ e=>absurd ho (by rw [e];decide)) h),fun h=>um (P:=fun t=>t=[]) (hG.2.mpr h) fun o ho e=>by
  rw [← e];unfold pySl;rw [h];exact List.take_nil⟩
theorem Qi {s:List Nat} {c:Nat}:(sg s c).text=[]↔s.length≤(sg s c).at_:=Wt.trans List.drop_eq_nil_iff
theorem jh {s:List Nat} {c:Nat}:c≤(sg s c).at_:=W7
theorem vi {s:List Nat} {c:Nat}:(sg s c).text.length≤3:=Wo
theorem ZY {s:List Nat} {c:Nat}:(sg s c).en=(sg s c).at_+(sg s c).text.length:=rfl
theorem uL {s:List Nat} {c:Nat} (h:(sg s c).text≠[]):(sg s c).at_ < (sg s c).en∧(sg s c).en≤s.length:=by
 have hl:(sg s c).text.length≠0:=fun z=>h (List.length_eq_zero_iff.mp z)
 have e:((s.drop (skp s c)).take (skp s c+(sg s c).text.length - skp s c)).length=(sg s c).text.length:=congrArg List.length (uo (s:=s) (a:=skp s c))
 rw [Nat.add_sub_cancel_left,List.length_take,List.length_drop] at e
 refine ⟨Nat.lt_add_of_pos_right (Nat.pos_of_ne_zero hl),Nat.le_trans (Nat.add_le_add_left (Nat.le_trans (Nat.le_of_eq e.symm) (Nat.min_le_right _ _)) _) (Nat.le_of_eq (Nat.add_sub_of_le (Nat.le_of_not_le fun z=>h (Qi.mpr z))))⟩
theorem zN {s:List Nat} {c:Nat} (h:(sg s c).text≠[]):c < (sg s c).en∧(sg s c).en≤s.length:=
 ⟨Nat.lt_of_le_of_lt jh (uL h).1,(uL h).2⟩
noncomputable def zt (σ σ':St):Prop:=σ'.ow=σ.ow∧∀ l c,σ.m l=some c→σ'.m l=some c
theorem zt.refl {σ:St}:zt σ σ:=⟨rfl,fun _ _ e=>e⟩
theorem zt.trans {a b c:St} (x:zt a b) (y:zt b c):zt a c:=⟨y.1.trans x.1,fun l cl e=>y.2 l cl (x.2 l cl e)⟩
theorem zj {σ:St} {l:Loc} {c:zu}:(σ.set l c).m l=some c:=if_pos rfl
theorem zl {σ:St} {l l':Loc} {c:zu} (h:l'≠l):(σ.set l c).m l'=σ.m l':=if_neg h
theorem zp {σ:St} {k:Nat} {c:zu}:(σ.new k c).m (σ.loc k)=some c:=if_pos rfl
theorem xH {σ:St} {k:Nat} {l:Loc} {c:zu} (h:l≠σ.loc k):(σ.new k c).m l=σ.m l:=if_neg h
theorem Wf.fresh {σ:St} (w:Wf σ) {k:Nat} {l:Loc} {c:zu} (h:σ.m l=some c):l≠σ.loc k:=fun z=>Nat.lt_irrefl _ (z▸w l c h:(σ.loc k).2.2 < σ.nx)
theorem zt.new {σ:St} (w:Wf σ) (k:Nat) (c:zu):zt σ (σ.new k c):=⟨rfl,fun _ _ e=>(xH (w.fresh e)).trans e⟩
theorem zt.set {σ σ':St} (x:zt σ σ') {l:Loc} (hl:σ.m l=none) (c:zu):zt σ (σ'.set l c):=⟨x.1,fun l' cl e=>(zl fun z=>zL ((z▸hl).symm.trans e)).trans (x.2 l' cl e)⟩
theorem Wf.none {σ:St} (w:Wf σ) {l:Loc} (h:σ.nx≤l.2.2):σ.m l=none:=by
 cases q:σ.m l with
 | none=>rfl
 | some c=>exact absurd (w l c q) (Nat.not_lt.mpr h)
theorem Wf.new {σ:St} (w:Wf σ) (k:Nat) (c:zu):Wf (σ.new k c):=fun l cl e=>by
 by_cases q:l=σ.loc k
 ·rw [q];exact Nat.lt_succ_self _
 ·exact Nat.lt_succ_of_lt (w l cl ((xH q).symm.trans e))
theorem Wf.set {σ:St} (w:Wf σ) {l:Loc} (h:l.2.2 < σ.nx) (c:zu):Wf (σ.set l c):=fun l' cl e=>by
 by_cases q:l'=l
 ·rw [q];exact h
 ·exact w l' cl ((zl q).symm.trans e)
theorem G6 {σ:St} {x:Nat} {l:List Nat}:j9 σ .isin (.int (x:Int)) (.tup (l.map fun (a:Nat)=>V.int (a:Int)))=some (decide (x∈l)):=by
 have e:kT (l.map fun (a:Nat)=>V.int (a:Int))=some (l.map fun (a:Nat)=>(a:Int)):=by
  induction l with
  | nil=>rfl
  | cons a l ih=>exact congrArg (fun o=>bd o fun r=>some ((a:Int)::r)) ih
 show oO (bd (kT _) fun ys=>some (decide ((x:Int)∈ys))) _=_
 rw [e]
 exact congrArg some (decide_eq_decide.mpr ⟨fun h=>(List.mem_map.mp h).elim fun a h=>Int.ofNat.inj h.2▸h.1,fun h=>List.mem_map.mpr ⟨x,h,rfl⟩⟩)
theorem xF {R:Rel} {k:Nat} {σ:St} {l:Loc} {xs:List V} {u:V} {Q:V→St→Prop} {X:String→St→Prop} (h:σ.m l=some (.lst xs)) (hn:xs.length < 1000000) (q:Q .none (σ.set l (.lst (xs++[u])))):meW R k (.ref l) "append" (.lst l) [u] σ Q X:=by
 unfold meW;exact g_ (zJ h) (.inl ⟨rfl,hn,q⟩)
noncomputable def zM (t:List Nat):Bool:=!decide (t < [97])&&!decide ([122] < t)
noncomputable def Sg.kind (g:Sg):Int:=if g.text=[] then 0 else if zM g.text then 1 else 5
noncomputable def Sg.tk (g:Sg):Tk:=⟨g.kind,g.text,g.at_,g.en,g.line⟩
noncomputable def Sg.cutTk (r:Sg):Tk:=⟨5,r.text,r.at_,r.en,false⟩
noncomputable def kZ (g r:Sg):List Tk:=if r.text=[61] then [] else [⟨5,[62],g.at_,g.at_+1,g.line⟩]
noncomputable def Tk.row (t:Tk):V:=.tup [.int t.kind,.str t.text,.int 0,.int t.at_,.int t.en,.bool t.lb]
noncomputable def yN (cs:List Nat):V:=.tup (cs.map fun (a:Nat)=>V.int (a:Int))
inductive Rows (s:List Nat) (cuts:List Nat):Nat→List Tk→Prop
 | fin {c:Nat}:(sg s c).text=[]→(sg s c).at_∉cuts→Rows s cuts c [(sg s c).tk]
 | plain {c:Nat} {ts:List Tk}:(sg s c).text≠[]→(sg s c).at_∉cuts→Rows s cuts (sg s c).en ts→Rows s cuts c ((sg s c).tk::ts)
 | cut {c:Nat} {ts:List Tk}:(sg s c).at_∈cuts→(sg s c).text≠[]→(sg s ((sg s c).at_+1)).text≠[]→Rows s cuts (sg s ((sg s c).at_+1)).en ts→Rows s cuts c (kZ (sg s c) (sg s ((sg s c).at_+1))++(sg s ((sg s c).at_+1)).cutTk::ts)
abbrev fR (s cuts:List Nat) (l:Loc) (c:Nat) (text:List Nat):Frm:=[("src",.str s),("cuts",yN cuts),("out",.ref l),("c",.int (c:Int)),("text",.str text)]
inductive IR (s cuts:List Nat) (l:Loc) (ts:List Tk) (σ:St):Nat→Frm→St→Prop
 | go {c:Nat} {done rest:List Tk} {text:List Nat} {σ':St}:text≠[]→Rows s cuts c rest→done++rest=ts→σ'.m l=some (.lst (done.map Tk.row))→zt σ σ'→done.length≤2 * c→c≤s.length→IR s cuts l ts σ (s.length - c+1) (fR s cuts l c text) σ'
 | fin {c:Nat} {σ':St}:σ'.m l=some (.lst (ts.map Tk.row))→zt σ σ'→IR s cuts l ts σ 0 (fR s cuts l c []) σ'
theorem W4 {g:Sg} {A:V→Prop} (q:A (.int g.kind)):cB (decide (g.text=[])) (op (zE "T_END") A) (cB (!decide (g.text < [97])) (cB (!decide ([122] < g.text)) (op (zE "T_NAME") A) (op (zE "T_SIGN") A)) (op (zE "T_SIGN") A)):=by
 refine zC (fun e=>(g_ Jr) ?_) fun e=>QQ (fun e'=>(g_ xS) ?_) fun e'=>(g_ zV) ?_
 ·rw [Sg.kind,if_pos (d_t e)] at q;exact q
 ·rw [Sg.kind,if_neg (d_f e),if_pos (show zM g.text=true from e')] at q;exact q
 ·rw [Sg.kind,if_neg (d_f e),if_neg (by rw [show zM g.text=false from e'];exact nofun)] at q;exact q
theorem HG {n c e k:Nat} (h:n≤2 * c) (l:c < e) (hk:k≤2):n+k≤2 * e:=Nat.le_trans (Nat.add_le_add h hk) (Nat.mul_le_mul_left 2 l)
theorem gm {ts:List Tk} {c l:Nat} (h:ts.length≤2 * c) (hc:c≤l) (hl:l≤1000):ts.length+1 < 1000000:=Nat.lt_of_le_of_lt (Nat.succ_le_succ (Nat.le_trans h (Nat.mul_le_mul_left 2 (Nat.le_trans hc hl)))) (by decide)
theorem ur {ts:List Tk} (h:ts.length+1 < 1000000):(ts.map Tk.row).length < 1000000:=by rw [List.length_map];exact Nat.lt_of_succ_lt h
theorem xQ {σ:St} {l:Loc} {ts:List Tk} {t:Tk}:(σ.set l (.lst (ts.map Tk.row++[t.row]))).m l=some (.lst ((ts++[t]).map Tk.row)):=by rw [List.map_append];exact zj
theorem gJ {d:Nat} (hd:4≤d) {σ:St} {s cuts:List Nat} {ts:List Tk} (hs:s.length≤1000) (hr:Rows s cuts 0 ts) {Q:V→St→Prop} {X:String→St→Prop} (q:∀ l σ',σ'.m l=some (.lst (ts.map Tk.row))→zt σ σ'→Q (.ref l) σ'):ze (RC d) "_law_rows" [.str s,yN cuts] σ Q X:=by
 refine xA fun w=>zg Zf hd rfl fun d hd=>⟨Nat.zero_le _,?_⟩
 have q:∀ l σ',σ'.m l=some (.lst (ts.map Tk.row))→zt σ σ'→Wf σ'→σ.nx≤σ'.nx→Q (.ref l) σ':=fun l σ' a b _ _=>q l σ' a b
 have lno:σ.m (σ.loc 286)=none:=w.none (Nat.le_refl _)
 have m0:(σ.new 286 (.lst [])).m (σ.loc 286)=some (.lst []):=zp
 have S0:=zt.new w 286 (.lst [])
 generalize σ.loc 286=l at *
 generalize σ.new 286 (.lst [])=σ1 at *
 refine wG (IR s cuts l ts σ) 5 (.go (done:=[]) (List.cons_ne_nil 109 [111,114,101]) hr rfl m0 S0 (Nat.zero_le _) (Nat.zero_le _)) ?_
 intro n F σ' I Q' X' qn qr qx
 cases I with
 | fin hm hS=>exact q _ _ hm hS
 | @go c done rest text σ' ht hR htot hm hS hdn hc=>
  refine m_t (dnt ht) (zv hd hs ((g_ G6) ?_))
  cases hR with
  | fin h1 h2=>
   refine m_f (df h2) (W4 (g:=sg s c) ((g_ (zx hm (.inl rfl))) ⟨za (Nat.le_refl 6) rfl,xF (u:=(sg s c).tk.row) hm (ur (gm hdn hc hs)) (qn 5 ?_ (Nat.succ_pos _))⟩))
   exact (congrArg (fun x=>IR s cuts l ts σ 0 (fR s cuts l (sg s c).en x) _) h1).mpr (.fin (htot▸xQ) (hS.set lno _))
  | @plain _ r h1 h2 h3=>
   have ⟨z1,z2⟩:=zN h1
   refine m_f (df h2) (W4 (g:=sg s c) ((g_ (zx hm (.inl rfl))) ⟨za (Nat.le_refl 6) rfl,xF (u:=(sg s c).tk.row) hm (ur (gm hdn hc hs)) (qn 5 (.go h1 h3 ((List.append_assoc ..).trans htot) xQ (hS.set lno _) ?_ z2) ?_)⟩))
   ·rw [List.length_append];exact HG hdn z1 (Nat.le_succ 1)
   ·exact Nat.succ_lt_succ (Nat.sub_lt_sub_left (Nat.lt_of_lt_of_le z1 z2) z1)
  | @cut _ r h1 h2 h3 h4=>
   have ⟨z1,z2⟩:=zN h3
   have z0:c < (sg s ((sg s c).at_+1)).en:=Nat.lt_of_le_of_lt (Nat.le_succ_of_le jh) z1
   have lt:=Nat.succ_lt_succ (Nat.sub_lt_sub_left (Nat.lt_of_lt_of_le z0 z2) z0)
   refine m_t (dt h1) (zv (c:=(sg s c).at_+1) hd hs (zC (fun z=>?_) fun z=>?_))
   ·have e:kZ (sg s c) (sg s ((sg s c).at_+1))=[⟨5,[62],(sg s c).at_,(sg s c).at_+1,(sg s c).line⟩]:=if_neg (XM z)
    rw [e] at htot
    refine (g_ (zx hm (.inl rfl))) ((g_ zV) ⟨za (Nat.le_refl 6) rfl,xF (u:=Tk.row ⟨5,[62],(sg s c).at_,(sg s c).at_+1,(sg s c).line⟩) hm (ur (gm hdn hc hs)) ?_⟩)
    refine (g_ (zx xQ (.inl rfl))) ((g_ zV) ⟨za (Nat.le_refl 6) rfl,xF (u:=(sg s ((sg s c).at_+1)).cutTk.row) xQ ?_ (qn 5 (.go h2 h4 ?_ xQ ((hS.set lno _).set lno _) ?_ z2) lt)⟩)
    ·rw [List.length_map,List.length_append];exact gm hdn hc hs
    ·rw [← htot,List.append_assoc,List.append_assoc];rfl
    ·rw [List.length_append,List.length_append];exact HG (k:=2) hdn z0 (Nat.le_refl 2)
   ·have e:kZ (sg s c) (sg s ((sg s c).at_+1))=[]:=if_pos (gI z)
    rw [e] at htot
    refine (g_ (zx hm (.inl rfl))) ((g_ zV) ⟨za (Nat.le_refl 6) rfl,xF (u:=(sg s ((sg s c).at_+1)).cutTk.row) hm (ur (gm hdn hc hs)) (qn 5 (.go h2 h4 ((List.append_assoc ..).trans htot) xQ (hS.set lno _) ?_ z2) lt)⟩)
    rw [List.length_append];exact HG hdn z0 (Nat.le_succ 1)
abbrev Sd:=Nat×List Nat×Nat
structure Res where
 msg:List Nat
 c:Nat
 many:Nat
 cuts:List Nat
 said:List Sd
noncomputable def Sd.v (x:Sd):V:=.tup [.int x.1,.str x.2.1,.int x.2.2]
noncomputable def xd (l:List Sd):V:=.tup (l.map Sd.v)
noncomputable def Res.v (r:Res):V:=.tup [.str r.msg,.int r.c,.int r.many,yN r.cuts,xd r.said]
noncomputable def kj:List Nat:=[107,105,110,100]
noncomputable def yy (g:Sg):Bool:=decide (g.text=[60])&&!g.line
noncomputable def stp (s:List Nat) (named:Bool) (m:Nat) (w:Bool) (c:Nat) (cuts:List Nat) (said:List Sd):Res ⊕ (Nat×Bool×Nat×List Nat×List Sd):=Nat.casesOn m (.inl ⟨[],c,0,cuts,said⟩) fun m=>Bool.casesOn w
 (if (sg s c).text=[44] then .inr (m+1,true,(sg s c).en,cuts,said) else if pySl (sg s c).text 0 1=[62] then .inr (m,false,(sg s c).at_+1,if (sg s c).text=[62,61] then cuts++[(sg s c).at_] else cuts,said) else .inl ⟨[62],c,m,cuts,said⟩)
 (if (named&&zM (sg s c).text)=true then (if yy (sg s (sg s c).en)=true then .inr (m+2,true,(sg s (sg s c).en).en,cuts,said++[(m+1,(sg s c).text,(sg s c).at_)]) else .inr (m+1,false,(sg s c).en,cuts,said++[(m+1,(sg s c).text,(sg s c).at_)])) else .inl ⟨kj,c,m+1,cuts,said⟩)
inductive Itr (s:List Nat) (named:Bool):Nat→Bool→Nat→List Nat→List Sd→Res→Prop
 | fin {m c:Nat} {w:Bool} {cuts:List Nat} {said:List Sd} {r:Res}:stp s named m w c cuts said=.inl r→Itr s named m w c cuts said r
 | go {m c m' c':Nat} {w w':Bool} {cuts cuts':List Nat} {said said':List Sd} {r:Res}:stp s named m w c cuts said=.inr (m',w',c',cuts',said')→Itr s named m' w' c' cuts' said' r→Itr s named m w c cuts said r
section
variable {s:List Nat} {named:Bool} {m c m' c':Nat} {w w':Bool} {cuts cuts':List Nat} {said said':List Sd} {r r':Res}
theorem Itr.inv (h:Itr s named m w c cuts said r):Sum.casesOn (motive:=fun _=>Prop) (stp s named m w c cuts said) (fun r'=>r=r') fun x=>Itr s named x.1 x.2.1 x.2.2.1 x.2.2.2.1 x.2.2.2.2 r:=
 Itr.rec (motive:=fun m w c cuts said r _=>Sum.casesOn (motive:=fun _=>Prop) (stp s named m w c cuts said) (fun r'=>r=r') fun x=>Itr s named x.1 x.2.1 x.2.2.1 x.2.2.2.1 x.2.2.2.2 r) (fun e=>by rw [e]) (fun e x _=>by rw [e];exact x) h
theorem Itr.ends (h:Itr s named m w c cuts said r) (e:stp s named m w c cuts said=.inl r'):r=r':=by have:=h.inv;rw [e] at this;exact this
theorem Itr.nx (h:Itr s named m w c cuts said r) (e:stp s named m w c cuts said=.inr (m',w',c',cuts',said')):Itr s named m' w' c' cuts' said' r:=by have:=h.inv;rw [e] at this;exact this
theorem Itr.det (h:Itr s named m w c cuts said r):Itr s named m w c cuts said r'→r=r':=by
 induction h with
 | fin e=>exact fun h'=>(h'.ends e).symm
 | go e _ ih=>exact fun h'=>ih (h'.nx e)
theorem vg (e:(named&&zM (sg s c).text)=false):stp s named (m+1) true c cuts said=.inl ⟨kj,c,m+1,cuts,said⟩:=if_neg (ne_true_of_eq_false e)
theorem xM (e:(named&&zM (sg s c).text)=true) (h:yy (sg s (sg s c).en)=true):stp s named (m+1) true c cuts said=.inr (m+2,true,(sg s (sg s c).en).en,cuts,said++[(m+1,(sg s c).text,(sg s c).at_)]):=(if_pos e).trans (if_pos h)
theorem jx (e:(named&&zM (sg s c).text)=true) (h:yy (sg s (sg s c).en)=false):stp s named (m+1) true c cuts said=.inr (m+1,false,(sg s c).en,cuts,said++[(m+1,(sg s c).text,(sg s c).at_)]):=(if_pos e).trans (if_neg (ne_true_of_eq_false h))
theorem yZ (e:(sg s c).text=[44]):stp s named (m+1) false c cuts said=.inr (m+1,true,(sg s c).en,cuts,said):=if_pos e
theorem xb (e:pySl (sg s c).text 0 1=[62]):stp s named (m+1) false c cuts said=.inr (m,false,(sg s c).at_+1,if (sg s c).text=[62,61] then cuts++[(sg s c).at_] else cuts,said):=(if_neg fun z=>absurd e (by rw [z];decide)).trans (if_pos e)
theorem wa (e:(sg s c).text≠[44]) (h:pySl (sg s c).text 0 1≠[62]):stp s named (m+1) false c cuts said=.inl ⟨[62],c,m,cuts,said⟩:=(if_neg e).trans (if_neg h)
end
theorem wB {t:List Nat} (h:zM t=true):t≠[]:=by
 rintro rfl;revert h;decide
theorem Q7 {s:List Nat} {named:Bool} {m c:Nat} {w:Bool} {cuts:List Nat} {said:List Sd}:Sum.casesOn (motive:=fun _=>Prop) (stp s named m w c cuts said) (fun _=>True) fun x=>c < x.2.2.1∧x.2.2.1≤s.length:=by
 cases m with
 | zero=>trivial
 | succ m=>
  cases w with
  | true=>
   cases e:named&&zM (sg s c).text with
   | false=>rw [vg e];trivial
   | true=>
    have z:=zN (s:=s) (c:=c) (wB (zb e).2)
    cases e':yy (sg s (sg s c).en) with
    | false=>rw [jx e e'];exact z
    | true=>
     have y:=zN (s:=s) (c:=(sg s c).en) (by rw [d_t (zb e').1];exact List.cons_ne_nil _ _)
     rw [xM e e'];exact ⟨Nat.lt_trans z.1 y.1,y.2⟩
  | false=>
   by_cases e:(sg s c).text=[44]
   ·rw [yZ e];exact zN (by rw [e];exact List.cons_ne_nil _ _)
   ·by_cases e':pySl (sg s c).text 0 1=[62]
    ·have z:=uL (s:=s) (c:=c) fun z=>absurd e' (by rw [z];decide)
     rw [xb e'];exact ⟨Nat.lt_succ_of_le jh,Nat.le_trans z.1 z.2⟩
    ·rw [wa e e'];trivial
theorem Xe {s:List Nat} {named:Bool} {m c m' c':Nat} {w w':Bool} {cuts cuts':List Nat} {said said':List Sd} (h:stp s named m w c cuts said=.inr (m',w',c',cuts',said')):c < c'∧c'≤s.length:=by
 have:=Q7 (s:=s) (named:=named) (m:=m) (w:=w) (c:=c) (cuts:=cuts) (said:=said)
 rw [h] at this;exact this
theorem Itr.total {s:List Nat} {named:Bool}:∀ (n:Nat) {m c:Nat} {w:Bool} {cuts:List Nat} {said:List Sd},s.length - c < n→∃ r,Itr s named m w c cuts said r:=by
 intro n
 induction n with
 | zero=>exact fun h=>absurd h (Nat.not_lt_zero _)
 | succ n ih=>
  intro m c w cuts said hn
  cases e:stp s named m w c cuts said with
  | inl r=>exact ⟨r,.fin e⟩
  | inr x=>
   obtain ⟨m',w',c',cuts',said'⟩:=x
   have ⟨a,b⟩:=Xe e
   obtain ⟨r,h⟩:=ih (m:=m') (c:=c') (w:=w') (cuts:=cuts') (said:=said') (Nat.lt_of_lt_of_le (Nat.sub_lt_sub_left (Nat.lt_of_lt_of_le a b) a) (Nat.le_of_lt_succ hn))
   exact ⟨r,.go e h⟩
inductive Ang (s:List Nat) (named:Bool) (c:Nat):Res→Prop
 | no:(sg s c).text≠[60]→Ang s named c ⟨[60],c,0,[],[]⟩
 | go {r:Res}:(sg s c).text=[60]→Itr s named 1 true (sg s c).en [] [] r→Ang s named c r
theorem Ang.s {s:List Nat} {named:Bool} {c:Nat} {r:Res} (h:Ang s named c r):((sg s c).text≠[60]∧r=⟨[60],c,0,[],[]⟩)∨((sg s c).text=[60]∧Itr s named 1 true (sg s c).en [] [] r):=by
 cases h with
 | no h=>exact .inl ⟨h,rfl⟩
 | go h x=>exact .inr ⟨h,x⟩
theorem vF {a:Bool} (h:(!a)=false):a=true:=by cases a <;> first | rfl | cases h
theorem Ed {named:Bool} {t:List Nat} {A B:Prop} (h1:(named&&zM t)=false→A) (h2:(named&&zM t)=true→B):cB (!named) (cB (!named) A B) (cB (!decide (t < [97])) (cB (!!decide ([122] < t)) A B) (cB (!false) A B)):=by
 cases named with
 | false=>exact h1 rfl
 | true=>
  show cB (!decide (t < [97])) (cB (!!decide ([122] < t)) A B) A
  exact zC (fun e=>zC (fun e'=>h1 (by unfold zM;rw [e];exact ya e')) fun e'=>h2 (by unfold zM;rw [e];exact vF e')) fun e=>h1 (by unfold zM;rw [e];rfl)
abbrev fA (s:List Nat) (c:Nat) (named:Bool) (g:V) (mv cv sv:V) (w:Bool):Frm:=
 [("src",.str s),("c",.int (c:Int)),("named",.bool named),("sign",g),("many",mv),("cuts",cv),("said",sv),("wants",.bool w)]
inductive IA (s:List Nat) (named:Bool) (g:V) (σ:St) (r:Res):Nat→Frm→St→Prop
 | mk {m c:Nat} {w:Bool} {cuts:List Nat} {said:List Sd} {mv cv sv:V}:Itr s named m w c cuts said r→c≤s.length→cuts.length≤c→said.length≤c→.int (m:Int)=mv→yN cuts=cv→xd said=sv→IA s named g σ r (s.length - c) (fA s c named g mv cv sv w) σ
theorem vk {said:List Sd} {x:Sd}:xd (said++[x])=.tup (said.map Sd.v++[x.v]):=congrArg V.tup List.map_append
theorem jb {d:Nat} (hd:4≤d) {σ:St} {s:List Nat} {c:Nat} {named:Bool} {r:Res} (hs:s.length≤1000) (hc:c≤s.length) (hr:Ang s named c r) {Q:V→St→Prop} {X:String→St→Prop} (q:Q r.v σ):ze (RC d) "_law_angles" [.str s,.int (c:Int),.bool named] σ Q X:=by
 refine zg uZ hd rfl fun d hd=>zv hd hs ?_
 rcases hr.s with ⟨h1,h2⟩ | ⟨h1,hi⟩
 ·rw [h2] at q
  exact m_t (dnt h1) ⟨Nat.zero_le _,Nat.zero_le _,za (Nat.le_refl 5) rfl,q⟩
 refine m_f (dnf h1) ⟨Nat.zero_le _,Nat.zero_le _,?_⟩
 have ⟨z1,z2⟩:=zN (s:=s) (c:=c) (by rw [h1];exact List.cons_ne_nil _ _)
 refine wG (IA s named (sg s c).v σ r) 8 (.mk (m:=1) (cuts:=[]) (said:=[]) hi z2 (Nat.zero_le _) (Nat.zero_le _) rfl rfl rfl) ?_
 clear h1 hi hc z1 z2
 intro n F σ I Q' X' qn qr qx
 cases I with
 | @mk m c w cuts said mv cv sv hi hc hu hv em eu ev=>
 rw [← em,← eu,← ev]
 have hl:∀ {n},n≤c→n+1≤1000000:=fun h=>Nat.le_trans (Nat.succ_le_succ (Nat.le_trans h (Nat.le_trans hc hs))) (by decide)
 have lt:∀ {e},c < e→e≤s.length→s.length - e < s.length - c:=fun h h'=>Nat.sub_lt_sub_left (Nat.lt_of_lt_of_le h h') h
 have pos:∀ {k:Nat},decide ((0:Int) < ((k+1:Nat):Int))=true:=dt (Int.natCast_pos.mpr (Nat.succ_pos _))
 cases m with
 | zero=>
  rw [hi.ends rfl] at q
  exact ⟨za (Nat.le_refl 5) rfl,q⟩
 | succ k=>
 refine m_t pos (zv hd hs ?_)
 cases w with
 | true=>
  refine Ed (fun e=>?_) fun e=>?_
  ·rw [hi.ends (vg e)] at q
   exact ⟨za (Nat.le_refl 5) rfl,qr _ _ _ q⟩
  ·have ⟨z1,z2⟩:=zN (s:=s) (c:=c) (wB (zb e).2)
   have sl:∀ {x:Sd} {e:Nat},c < e→(said++[x]).length≤e:=fun h=>by rw [List.length_append];exact Nat.le_trans (Nat.succ_le_succ hv) h
   refine ⟨za (Nat.le_refl 3) rfl,za (Nat.le_refl 1) rfl,(by rw [List.length_map];exact hl hv),zv hd hs ?_⟩
   cases h2:yy (sg s (sg s c).en) with
   | true=>
    have ⟨y1,y2⟩:=zN (s:=s) (c:=(sg s c).en) (by rw [d_t (zb h2).1];exact List.cons_ne_nil _ _)
    refine m_t (zb h2).1 (m_t (zb h2).2 (m_t (zb h2).2 (qn 8 ?_ (lt (Nat.lt_trans z1 y1) y2))))
    rw [(zb h2).2]
    exact .mk (m:=k+2) (hi.nx (xM e h2)) y2 (Nat.le_trans hu (Nat.le_of_lt (Nat.lt_trans z1 y1))) (sl (Nat.lt_trans z1 y1)) rfl rfl vk
   | false=>
    have go:∀ g,IA s named g σ r _ _ σ:=fun g=>.mk (m:=k+1) (hi.nx (jx e h2)) z2 (Nat.le_trans hu (Nat.le_of_lt z1)) (sl z1) rfl rfl vk
    refine zC (fun e1=>?_) fun e1=>m_f e1 (m_f e1 (qn 8 ?_ (lt z1 z2)))
    ·have e2:(!(sg s (sg s c).en).line)=false:=by rw [yy,e1] at h2;exact h2
     refine m_f e2 (m_f e2 (qn 8 ?_ (lt z1 z2)))
     rw [e2];exact go _
    ·rw [e1];exact go _
 | false=>
  refine zC (fun h1=>?_) fun h1=>HV 1 (za vi rfl) (zC (fun h2=>?_) fun h2=>?_)
  ·have ⟨z1,z2⟩:=zN (s:=s) (c:=c) (by rw [d_t h1];exact List.cons_ne_nil _ _)
   exact qn 8 (.mk (m:=k+1) (hi.nx (yZ (d_t h1))) z2 (Nat.le_trans hu (Nat.le_of_lt z1)) (Nat.le_trans hv (Nat.le_of_lt z1)) rfl rfl rfl) (lt z1 z2)
  ·have ⟨z1,z2⟩:=Xe (named:=named) (m:=k+1) (cuts:=cuts) (said:=said) (xb (d_t h2))
   have hi:=hi.nx (xb (d_t h2))
   refine zC (fun e=>?_) fun e=>?_
   ·rw [if_pos (d_t e)] at hi
    exact ⟨za (Nat.le_refl 1) rfl,(by rw [List.length_map];exact hl hu),qn 8 (.mk hi z2 (by rw [List.length_append];exact Nat.le_trans (Nat.succ_le_succ hu) z1) (Nat.le_trans hv (Nat.le_of_lt z1)) (congrArg V.int (Int.add_sub_cancel k 1).symm) (congrArg V.tup List.map_append) rfl) (lt z1 z2)⟩
   ·rw [if_neg (d_f e)] at hi
    exact qn 8 (.mk hi z2 (Nat.le_trans hu (Nat.le_of_lt z1)) (Nat.le_trans hv (Nat.le_of_lt z1)) (congrArg V.int (Int.add_sub_cancel k 1).symm) rfl rfl) (lt z1 z2)
  ·rw [hi.ends (wa (d_f h1) (d_f h2))] at q
   refine ⟨za (Nat.le_refl 5) rfl,qr _ _ _ ?_⟩
   exact (congrArg (fun i=>Q (.tup [.str [62],.int (c:Int),.int i,yN cuts,xd said]) σ) (Int.add_sub_cancel k 1)).mpr q
theorem St.ext' {a b:St} (h1:∀ l,a.m l=b.m l) (h2:a.nx=b.nx) (h3:a.ow=b.ow):a=b:=by
 obtain ⟨m,n,o⟩:=a
 obtain ⟨m',n',o'⟩:=b
 have h1:m=m':=funext h1
 have h2:n=n':=h2
 have h3:o=o':=h3
 rw [h1,h2,h3]
theorem jy {σ:St} {l:Loc} {c:zu} (h:σ.m l=some c):σ.set l c=σ:=St.ext' (fun l'=>by
 by_cases q:l'=l
 ·rw [q,zj,h]
 ·exact zl q) rfl rfl
theorem set_set {σ:St} {l:Loc} {c c':zu}:(σ.set l c).set l c'=σ.set l c':=St.ext' (fun l'=>by
 by_cases q:l'=l
 ·rw [q,zj,zj]
 ·rw [zl q,zl q,zl q]) rfl rfl
theorem Km {f:Frm→(V→St→Prop)→St→Prop} {tg:List String} {l:Loc} {keep:St→Prop} {g:V→V} {vs:List V}:∀ {acc:List V} {σ:St} {Q:St→Prop},σ.m l=some (.lst acc)→(∀ xs,keep (σ.set l (.lst xs)))→
  (∀ v∈vs,∃ F,yn tg v []=some F∧∀ (Q':V→St→Prop) (xs:List V),Q' (g v) (σ.set l (.lst xs))→f F Q' (σ.set l (.lst xs)))→acc.length+vs.length < 1000000→Q (σ.set l (.lst (acc++vs.map g)))→jl f tg l keep vs acc Q σ:=by
 induction vs with
 | nil=>
  intro acc σ Q hl _ _ _ q
  rw [List.map_nil,List.append_nil,jy hl] at q
  exact q
 | cons v vs ih=>
  intro acc σ Q hl hk hf hn q
  obtain ⟨F,h1,h2⟩:=hf v (.head _)
  have h2:=h2 (fun u σ'=>σ'.m l=some (.lst acc)∧keep σ'∧acc.length < 1000000∧jl f tg l keep vs (acc++[u]) Q (σ'.set l (.lst (acc++[u])))) acc
  have hk0:=hk acc
  rw [jy hl] at h2 hk0
  refine (g_ h1) (h2 ⟨hl,hk0,Nat.lt_of_le_of_lt (Nat.le_add_right _ _) hn,ih zj (fun xs=>by rw [set_set];exact hk xs) (fun v' hv=>?_) ?_ ?_⟩)
  ·obtain ⟨F',h3,h4⟩:=hf v' (.tail _ hv)
   exact ⟨F',h3,fun Q' xs=>by rw [set_set];exact h4 Q' xs⟩
  ·rw [List.length_append]
   exact Nat.lt_of_le_of_lt (Nat.le_of_eq (Nat.add_right_comm _ _ _)) hn
  ·rw [set_set,List.append_assoc];exact q
inductive yY where
 | none
 | fault (msg:List Nat) (c many:Nat) (cuts:List Nat)
 | ok (c:Nat) (cuts:List Nat) (opn:Nat) (head said:List Sd)
noncomputable def yY.v:yY→V
 | .none=>.none
 | .fault m c k cuts=>.tup [.str m,.int c,.int k,yN cuts,.tup []]
 | .ok c cuts o h said=>.tup [.str [],.int c,.int 0,yN cuts,.tup [.int o,xd h,xd said]]
noncomputable def kg (l:List Sd):List Sd:=l.map fun x=>(x.1+1,x.2.1,x.2.2)
section
variable {s:List Nat} {named:Bool} {c:Nat} {r r':Res}
theorem Ang.total:∃ r,Ang s named c r:=by
 by_cases e:(sg s c).text=[60]
 ·obtain ⟨r,h⟩:=Itr.total (s:=s) (named:=named) (m:=1) (w:=true) (c:=(sg s c).en) (cuts:=[]) (said:=[]) _ (Nat.lt_succ_self _)
  exact ⟨r,.go e h⟩
 ·exact ⟨_,.no e⟩
theorem Ang.det (h:Ang s named c r) (h':Ang s named c r'):r=r':=by
 rcases h.s with ⟨a,b⟩ | ⟨a,b⟩ <;> rcases h'.s with ⟨a',b'⟩ | ⟨a',b'⟩
 ·exact b.trans b'.symm
 ·exact absurd a' a
 ·exact absurd a a'
 ·exact b.det b'
end
noncomputable def ang (s:List Nat) (named:Bool) (c:Nat):Res:=(Ang.total (s:=s) (named:=named) (c:=c)).choose
theorem vB {s:List Nat} {named:Bool} {c:Nat}:Ang s named c (ang s named c):=Ang.total.choose_spec
theorem Ang.eq {s:List Nat} {named:Bool} {c:Nat} {r:Res} (h:Ang s named c r):ang s named c=r:=vB.det h
noncomputable def tlA (s:List Nat) (o:Nat) (h:List Sd) (c:Nat) (cuts:List Nat) (said:List Sd):yY ⊕ (Nat×List Nat×List Sd):=
 if (sg s c).text=[44] then .inr ((sg s c).en,cuts,said) else if (sg s c).text=[41] then .inl (.ok (sg s c).en cuts o h said) else .inl (.fault [41] c 0 cuts)
noncomputable def stA (s:List Nat) (named:Bool) (o:Nat) (h:List Sd) (c:Nat) (cuts:List Nat) (said:List Sd):yY ⊕ (Nat×List Nat×List Sd):=
 if (sg s c).text=[41] then .inl (.ok (sg s c).en cuts o h said) else if zM (sg s c).text=true then
  (if yy (sg s (sg s c).en)=true then
   (if (ang s named (sg s c).en).msg=[] then tlA s o h (ang s named (sg s c).en).c (cuts++(ang s named (sg s c).en).cuts) (said++(1,(sg s c).text,(sg s c).at_)::kg (ang s named (sg s c).en).said)
   else .inl (.fault (ang s named (sg s c).en).msg (ang s named (sg s c).en).c ((ang s named (sg s c).en).many+1) (cuts++(ang s named (sg s c).en).cuts)))
  else tlA s o h (sg s c).en cuts (said++[(1,(sg s c).text,(sg s c).at_)])) else .inl (.fault kj c 1 cuts)
inductive zY (s:List Nat) (named:Bool) (o:Nat) (h:List Sd):Nat→List Nat→List Sd→yY→Prop
 | fin {c:Nat} {cuts:List Nat} {said:List Sd} {r:yY}:stA s named o h c cuts said=.inl r→zY s named o h c cuts said r
 | go {c c':Nat} {cuts cuts':List Nat} {said said':List Sd} {r:yY}:stA s named o h c cuts said=.inr (c',cuts',said')→zY s named o h c' cuts' said' r→zY s named o h c cuts said r
noncomputable def xo (s:List Nat) (named:Bool) (o:Nat) (h:List Sd) (c:Nat) (cuts:List Nat) (said:List Sd) (r:yY):Prop:=
 Sum.casesOn (tlA s o h c cuts said) (fun r'=>r=r') fun x=>zY s named o h x.1 x.2.1 x.2.2 r
section
variable {s:List Nat} {named:Bool} {o:Nat} {h:List Sd} {c c':Nat} {cuts cuts':List Nat} {said said':List Sd} {r r':yY}
theorem zY.inv (x:zY s named o h c cuts said r):Sum.casesOn (motive:=fun _=>Prop) (stA s named o h c cuts said) (fun r'=>r=r') fun x=>zY s named o h x.1 x.2.1 x.2.2 r:=
 zY.rec (motive:=fun c cuts said r _=>Sum.casesOn (motive:=fun _=>Prop) (stA s named o h c cuts said) (fun r'=>r=r') fun x=>zY s named o h x.1 x.2.1 x.2.2 r) (fun e=>by rw [e]) (fun e x _=>by rw [e];exact x) x
theorem zY.ends (x:zY s named o h c cuts said r) (e:stA s named o h c cuts said=.inl r'):r=r':=by have:=x.inv;rw [e] at this;exact this
theorem zY.nx (x:zY s named o h c cuts said r) (e:stA s named o h c cuts said=.inr (c',cuts',said')):zY s named o h c' cuts' said' r:=by have:=x.inv;rw [e] at this;exact this
theorem zY.det (x:zY s named o h c cuts said r):zY s named o h c cuts said r'→r=r':=by
 induction x with
 | fin e=>exact fun x'=>(x'.ends e).symm
 | go e _ ih=>exact fun x'=>ih (x'.nx e)
theorem zY.tail (x:zY s named o h c cuts said r) (e:stA s named o h c cuts said=tlA s o h c' cuts' said'):xo s named o h c' cuts' said' r:=by have:=x.inv;rw [e] at this;exact this
theorem xo.arg (e:stA s named o h c cuts said=tlA s o h c' cuts' said') (x:xo s named o h c' cuts' said' r):zY s named o h c cuts said r:=by
 unfold xo at x
 cases e':tlA s o h c' cuts' said' with
 | inl r'=>rw [e'] at x;exact .fin ((e.trans e').trans (congrArg Sum.inl (Eq.symm x)))
 | inr y=>rw [e'] at x;exact .go (e.trans e') x
theorem wc (e:(sg s c).text=[41]):stA s named o h c cuts said=.inl (.ok (sg s c).en cuts o h said):=if_pos e
theorem uH (e:(sg s c).text≠[41]) (e':zM (sg s c).text=false):stA s named o h c cuts said=.inl (.fault kj c 1 cuts):=(if_neg e).trans (if_neg (ne_true_of_eq_false e'))
theorem QM (e:zM (sg s c).text=true):(sg s c).text≠[41]:=fun z=>absurd e (by rw [z];decide)
theorem h9 (e:zM (sg s c).text=true) (e':yy (sg s (sg s c).en)=true) (hm:(ang s named (sg s c).en).msg≠[]):stA s named o h c cuts said=.inl (.fault (ang s named (sg s c).en).msg (ang s named (sg s c).en).c ((ang s named (sg s c).en).many+1) (cuts++(ang s named (sg s c).en).cuts)):=
 (if_neg (QM e)).trans ((if_pos e).trans ((if_pos e').trans (if_neg hm)))
theorem uJ (e:zM (sg s c).text=true) (e':yy (sg s (sg s c).en)=true) (hm:(ang s named (sg s c).en).msg=[]):stA s named o h c cuts said=tlA s o h (ang s named (sg s c).en).c (cuts++(ang s named (sg s c).en).cuts) (said++(1,(sg s c).text,(sg s c).at_)::kg (ang s named (sg s c).en).said):=
 (if_neg (QM e)).trans ((if_pos e).trans ((if_pos e').trans (if_pos hm)))
theorem uI (e:zM (sg s c).text=true) (e':yy (sg s (sg s c).en)=false):stA s named o h c cuts said=tlA s o h (sg s c).en cuts (said++[(1,(sg s c).text,(sg s c).at_)]):=
 (if_neg (QM e)).trans ((if_pos e).trans (if_neg (ne_true_of_eq_false e')))
theorem vf (e:(sg s c).text=[44]):tlA s o h c cuts said=.inr ((sg s c).en,cuts,said):=if_pos e
theorem uC (e:(sg s c).text=[41]):tlA s o h c cuts said=.inl (.ok (sg s c).en cuts o h said):=(if_neg (by rw [e];decide)).trans (if_pos e)
theorem qZ (e:(sg s c).text≠[44]) (e':(sg s c).text≠[41]):tlA s o h c cuts said=.inl (.fault [41] c 0 cuts):=(if_neg e).trans (if_neg e')
end
inductive xG (s:List Nat) (named:Bool) (c:Nat):yY→Prop
 | none:((ang s named c).msg≠[]∨(sg s (ang s named c).c).text≠[40])→xG s named c .none
 | go {r:yY}:(ang s named c).msg=[]→(sg s (ang s named c).c).text=[40]→zY s named (sg s (ang s named c).c).at_ (ang s named c).said (sg s (ang s named c).c).en (ang s named c).cuts [] r→xG s named c r
theorem KZ {s:List Nat} {named:Bool} {m c:Nat} {w:Bool} {cuts:List Nat} {said:List Sd}:Sum.casesOn (motive:=fun _=>Prop) (stp s named m w c cuts said) (fun r=>r.c=c∧r.cuts=cuts∧r.said=said) fun x=>x.2.2.2.1.length≤cuts.length+1∧x.2.2.2.2.length≤said.length+1:=by
 have sl:∀ {x:Sd},(said++[x]).length≤said.length+1:=fun {x}=>Nat.le_of_eq List.length_append
 cases m with
 | zero=>exact ⟨rfl,rfl,rfl⟩
 | succ m=>
  cases w with
  | true=>
   cases e:named&&zM (sg s c).text with
   | false=>rw [vg e];exact ⟨rfl,rfl,rfl⟩
   | true=>
    cases e':yy (sg s (sg s c).en) with
    | false=>rw [jx e e'];exact ⟨Nat.le_succ _,sl⟩
    | true=>rw [xM e e'];exact ⟨Nat.le_succ _,sl⟩
  | false=>
   by_cases e:(sg s c).text=[44]
   ·rw [yZ e];exact ⟨Nat.le_succ _,Nat.le_succ _⟩
   ·by_cases e':pySl (sg s c).text 0 1=[62]
    ·rw [xb e']
     refine ⟨?_,Nat.le_succ _⟩
     show (if (sg s c).text=[62,61] then cuts++[(sg s c).at_] else cuts).length≤_
     split
     ·exact Nat.le_of_eq List.length_append
     ·exact Nat.le_succ _
    ·rw [wa e e'];exact ⟨rfl,rfl,rfl⟩
theorem JF {a b c c' k k':Nat} (h:k+c'≤k'+a) (hk:k'≤b+1) (hc:c < c'):k+c≤b+a:=by omega
theorem Itr.bound {s:List Nat} {named:Bool} {m c:Nat} {w:Bool} {cuts:List Nat} {said:List Sd} {r:Res} (h:Itr s named m w c cuts said r):c≤s.length→c≤r.c∧r.c≤s.length∧r.cuts.length+c≤cuts.length+r.c∧r.said.length+c≤said.length+r.c:=by
 induction h with
 | @fin m c w cuts said r e=>
  have b:=KZ (s:=s) (named:=named) (m:=m) (w:=w) (c:=c) (cuts:=cuts) (said:=said)
  rw [e] at b
  exact fun hc=>⟨Nat.le_of_eq b.1.symm,b.1▸hc,by rw [b.2.1,b.1];exact Nat.le_refl _,by rw [b.2.2,b.1];exact Nat.le_refl _⟩
 | @go m c m' c' w w' cuts cuts' said said' r e _ ih=>
  have b:=KZ (s:=s) (named:=named) (m:=m) (w:=w) (c:=c) (cuts:=cuts) (said:=said)
  rw [e] at b
  intro _
  have ⟨z1,z2⟩:=Xe e
  obtain ⟨i1,i2,i3,i4⟩:=ih z2
  exact ⟨Nat.le_trans (Nat.le_of_lt z1) i1,i2,JF i3 b.1 z1,JF i4 b.2 z1⟩
theorem gV {s:List Nat} {named:Bool} {c:Nat} (hc:c≤s.length):c≤(ang s named c).c∧(ang s named c).c≤s.length∧(ang s named c).cuts.length+c≤(ang s named c).c∧(ang s named c).said.length+c≤(ang s named c).c:=by
 rcases (vB (s:=s) (named:=named) (c:=c)).s with ⟨_,e⟩ | ⟨e,x⟩
 ·rw [e];exact ⟨Nat.le_refl _,hc,Nat.le_of_eq (Nat.zero_add _),Nat.le_of_eq (Nat.zero_add _)⟩
 ·obtain ⟨a,b⟩:=zN (s:=s) (c:=c) (by rw [e];exact List.cons_ne_nil _ _)
  obtain ⟨i1,i2,i3,i4⟩:=x.bound b
  exact ⟨Nat.le_trans (Nat.le_of_lt a) i1,i2,Nat.zero_add (ang s named c).c▸JF (b:=0) i3 (Nat.zero_le _) a,Nat.zero_add (ang s named c).c▸JF (b:=0) i4 (Nat.zero_le _) a⟩
theorem QK {t:List Nat} {A B:Prop} (h1:zM t=false→A) (h2:zM t=true→B):cB (!decide (t < [97])) (cB (!!decide ([122] < t)) A B) (cB (!false) A B):=
 zC (fun e=>zC (fun e'=>h1 (by unfold zM;rw [e];exact ya e')) fun e'=>h2 (by unfold zM;rw [e];exact vF e')) fun e=>h1 (by unfold zM;rw [e];rfl)
noncomputable def up1 (v:V):V:=Option.rec v (fun l=>List.casesOn l v fun a r=>Option.rec v (fun i=>.tup (.int (i+1)::r)) (asI a)) (asT v)
theorem KP {l:List Sd}:(l.map Sd.v).map up1=(kg l).map Sd.v:=by
 rw [kg,List.map_map,List.map_map];rfl
abbrev fT (s:List Nat) (c c':Nat) (named:Bool) (hv gv:V) (o:Nat) (cv sv:V) (r:Frm):Frm:=
 ("src",.str s)::("c",.int (c:Int))::("named",.bool named)::("head",hv)::("sign",gv)::("opens",.int (o:Int))::("cuts",cv)::("said",sv)::("text",.str (sg s c').text)::("at",.int ((sg s c').at_:Int))::("end",.int ((sg s c').en:Int))::("line",.bool (sg s c').line)::r
inductive IC (s:List Nat) (named:Bool) (hv gv:V) (o:Nat) (h:List Sd) (σ₀:St) (r:yY):Nat→Frm→St→Prop
 | mk {c:Nat} {cuts:List Nat} {said:List Sd} {cv sv:V} {σ:St}:zY s named o h c cuts said r→c≤s.length→cuts.length≤c→said.length≤c→yN cuts=cv→xd said=sv→zt σ₀ σ→Wf σ→IC s named hv gv o h σ₀ r (s.length - c) (fT s c c named hv gv o cv sv []) σ
noncomputable def tC:List S:=[.asg ["text","at","end","line"] (.call "_law_sign" [.x "src",.x "c"]),
  .iff (.cmp .eq (.x "text") (.k (.str [44]))) [.asg ["c"] (.x "end"),
   .asg ["text","at","end","line"] (.call "_law_sign" [.x "src",.x "c"])] [.iff (.cmp .ne (.x "text") (.k (.str [41]))) [.ret (.tup [.k (.str [41]),.x "c",.k (.int 0),.x "cuts",.tup []])] []]]
theorem GQ {n c l:Nat} (h:n≤c) (hc:c≤l) (hs:l≤1000):n≤1000000:=za (Nat.le_trans h (Nat.le_trans hc hs)) rfl
theorem VQ {a b c e f k:Nat} (h:a≤c) (h2:b+e≤f) (h3:c+k≤e):a+(b+k)≤f:=by omega
theorem O6 {a b c l:Nat} (h:a+(b+1)≤c) (hc:c≤l) (hl:l≤1000):0+b < 1000000∧a+1+b≤1000000:=by omega
theorem qN {d:Nat} (hd:4≤d) {s:List Nat} {named:Bool} {hv gv cv sv:V} {o n c' c:Nat} {h:List Sd} {σ₀ σ:St} {cr:yY} {cuts:List Nat} {said:List Sd} {r:Frm} (hs:s.length≤1000) {Q':Fl→Frm→St→Prop} {X':XP}
  (qn:∀ k {m F σ},IC s named hv gv o h σ₀ cr m (F.take k) σ→m < n→Q' .next F σ) (qr:∀ F σ,zt σ₀ σ→Q' (.ret cr.v) F σ) (x:xo s named o h c cuts said cr) (hc:c≤s.length) (hn:s.length - c < n) (hu:cuts.length≤c) (hv':said.length≤c) (eu:yN cuts=cv) (ev:xd said=sv) (S0:zt σ₀ σ) (W0:Wf σ):
  jv (RC d) tC (fT s c c' named hv gv o cv sv r) Q' X' σ:=by
 refine zv (zi hd rfl) hs (zC (fun e=>zv (zi hd rfl) hs ?_) fun e=>zC (fun e'=>?_) fun e'=>?_)
 ·have ⟨z1,z2⟩:=zN (s:=s) (c:=c) (by rw [d_t e];exact List.cons_ne_nil _ _)
  have x:zY s named o h (sg s c).en cuts said cr:=by unfold xo at x;rw [vf (d_t e)] at x;exact x
  exact qn 12 (.mk x z2 (Nat.le_trans hu (Nat.le_of_lt z1)) (Nat.le_trans hv' (Nat.le_of_lt z1)) eu ev S0 W0) (Nat.lt_of_le_of_lt (Nat.sub_le_sub_left (Nat.le_of_lt z1) _) hn)
 ·have x:cr=.fault [41] c 0 cuts:=by unfold xo at x;rw [qZ (d_f e) (XM e')] at x;exact x
  rw [x,yY.v,eu] at qr
  exact ⟨Nat.zero_le _,za (Nat.le_refl 5) rfl,qr _ _ S0⟩
 ·have x:cr=.ok (sg s c).en cuts o h said:=by unfold xo at x;rw [uC (gI e')] at x;exact x
  exact qn 12 (.mk (.fin ((wc (gI e')).trans (congrArg Sum.inl x.symm))) hc hu hv' eu ev S0 W0) hn
theorem XR {d:Nat} (hd:6≤d) {σ:St} {s:List Nat} {c:Nat} {named:Bool} {r:yY} (hs:s.length≤1000) (hc:c≤s.length) (hr:xG s named c r) {Q:V→St→Prop} {X:String→St→Prop} (q:∀ σ',zt σ σ'→Q r.v σ'):ze (RC d) "_law_call" [.str s,.int (c:Int),.bool named] σ Q X:=by
 refine xA fun w=>zg Zi hd rfl fun d hd=>jb hd hs hc vB (zv (zi hd rfl) hs ?_)
 refine Mw (fun e=>?_) fun e=>?_
 ·cases hr with
  | none _=>exact fun _ _=>q σ .refl
  | go h1 h2 _=>exact absurd e (by rw [dnf h1,dnf h2];exact nofun)
 have e:=Bool.or_eq_false_iff.mp e
 cases hr with
 | none h=>exact absurd (gI e.2) (h.elim (fun z=>absurd (gI e.1) z) id)
 | go h1 h2 hi=>
 have bd:=gV (s:=s) (named:=named) hc
 have ⟨z1,z2⟩:=zN (s:=s) (c:=(ang s named c).c) (by rw [h2];exact List.cons_ne_nil _ _)
 have cu:(ang s named c).cuts.length≤(sg s (ang s named c).c).en:=Nat.le_trans (Nat.le_trans (Nat.le_add_right _ c) bd.2.2.1) (Nat.le_of_lt z1)
 refine ⟨Nat.zero_le _,zv (zi hd rfl) hs ?_⟩
 refine wG (IC s named (ang s named c).v (sg s (ang s named c).c).v (sg s (ang s named c).c).at_ (ang s named c).said σ r) 12 (.mk (said:=[]) hi z2 cu (Nat.zero_le _) rfl rfl .refl w) ?_
 clear hi z1 z2 cu bd e h1 h2 hc
 intro n F σ' I Q' X' qn qr qx
 cases I with
 | @mk c' cuts said cv sv σ' hi hc hu hv eu ev hS hw=>
 have hl:said.length+1≤1000000:=Nat.le_trans (Nat.succ_le_succ (Nat.le_trans hv (Nat.le_trans hc hs))) (by decide)
 have qr':∀ F σ',zt σ σ'→Q' (.ret r.v) F σ':=fun F σ' z=>qr _ _ _ fun _ _=>q _ z
 refine zC (fun e1=>?_) fun e1=>?_
 ·refine QK (fun e2=>?_) fun e2=>?_
  ·rw [hi.ends (uH (XM e1) e2),yY.v,eu] at qr'
   exact ⟨Nat.zero_le _,za (Nat.le_refl 5) rfl,qr' _ _ hS⟩
  ·have ⟨z1,z2⟩:=zN (s:=s) (c:=c') (wB e2)
   rw [← ev]
   refine ⟨za (Nat.le_refl 3) rfl,za (Nat.le_refl 1) rfl,(by rw [List.length_map];exact hl),zv (zi hd rfl) hs ?_⟩
   refine Mx (fun h2=>?_) fun h2=>?_
   ·have bd:=gV (s:=s) (named:=named) z2
    have cb:=VQ (k:=0) hu bd.2.2.1 (Nat.le_of_lt z1)
    have ce:V.tup ((cuts.map fun (a:Nat)=>V.int (a:Int))++((ang s named (sg s c').en).cuts.map fun (a:Nat)=>V.int (a:Int)))=yN (cuts++(ang s named (sg s c').en).cuts):=congrArg V.tup List.map_append.symm
    rw [← eu]
    refine jb hd hs z2 vB ⟨(by rw [List.length_map,List.length_map];exact GQ cb bd.2.1 hs),zC (fun e3=>?_) fun e3=>?_⟩
    ·rw [hi.ends (h9 e2 h2 (XM e3)),yY.v,← ce,Int.natCast_add,Int.add_comm] at qr'
     exact ⟨Nat.zero_le _,za (Nat.le_refl 5) rfl,qr' _ _ hS⟩
    ·have tl:=hi.tail (uJ e2 h2 (gI e3))
     have sb:=VQ (k:=1) hv bd.2.2.2 z1
     have ss:xd (said++(1,(sg s c').text,(sg s c').at_)::kg (ang s named (sg s c').en).said)=.tup (said.map Sd.v++[V.tup [V.int 1,V.str (sg s c').text,V.int ((sg s c').at_:Int)]]++([]++((ang s named (sg s c').en).said.map Sd.v).map up1)):=by
      rw [KP,List.append_assoc,xd,List.map_append];rfl
     have l1:([]++((ang s named (sg s c').en).said.map Sd.v).map up1).length=(ang s named (sg s c').en).said.length:=(List.length_map _).trans (List.length_map _)
     refine Km (g:=up1) zp (fun _=>rfl) (fun v hv=>?_) ?_ ((g_ (zJ zj)) ⟨?_,?_,qN hd hs qn qr' tl bd.2.1 (Nat.sub_lt_sub_left (Nat.lt_of_lt_of_le z1 z2) (Nat.lt_of_lt_of_le z1 bd.1)) ?_ ?_ ce.symm ss (hS.trans ((zt.new hw _ _).set (hw.none (Nat.le_refl _)) _)) ((hw.new _ _).set (Nat.lt_succ_self _) _)⟩)
     ·obtain ⟨x,_,rfl⟩:=List.mem_map.mp hv
      exact ⟨_,rfl,fun Q' xs q=>⟨za (Nat.le_refl 3) rfl,q⟩⟩
     ·rw [List.length_map];exact (O6 sb bd.2.1 hs).1
     ·rw [l1];exact GQ (Nat.le_trans (Nat.le_add_right _ 1) (Nat.le_trans (Nat.le_add_left _ said.length) sb)) bd.2.1 hs
     ·rw [l1,List.length_append,List.length_map]
      exact (O6 sb bd.2.1 hs).2
     ·rw [List.length_append];exact cb
     ·rw [List.length_append,List.length_cons,kg,List.length_map];exact sb
   ·have tl:=hi.tail (uI e2 h2)
    exact qN hd hs qn qr' tl z2 (Nat.sub_lt_sub_left (Nat.lt_of_lt_of_le z1 z2) z1) (Nat.le_trans hu (Nat.le_of_lt z1)) (by rw [List.length_append];exact Nat.le_trans (Nat.succ_le_succ hv) z1) eu vk hS hw
 ·rw [hi.ends (wc (gI e1))] at q
  rw [← eu,← ev]
  exact ⟨za (Nat.le_refl 3) rfl,za (Nat.le_refl 5) rfl,fun _ _=>q _ hS⟩
set_option genInjectivity false
set_option genSizeOfSpec false
structure Dg where
 num:Int
 at_:Nat
 args:V
noncomputable def Dg.v (g:Dg):V:=.obj "Diag" [("number",.int g.num),("at",.int (g.at_:Int)),("args",g.args),("file",.str [])]
structure Sc where
 at_:Nat
 deep:Int
 pending:V
 allow:Bool
 inf:Int
 inl:Int
 ins:Int
 nocond:Bool
 retbar:Bool
 inlit:Int
structure Lc where
 nl:Nat
 ls:List V
 nc:Nat
 cs:List V
structure Mk where
 sc:Sc
 lc:Lc
 told:Nat
 spl:Nat
structure PS where
 sc:Sc
 lc:Lc
 tk:List Tk
 rows:List Dg
 splits:List (Nat×Tk)
 saved:List Mk
structure PL where
 i:Nat
 p:Nat
 t:Nat
 d:Nat
 r:Nat
 pa:Nat
 fi:Nat
 ta:Nat
 ty:Nat
 co:Nat
 na:Nat
 sp:Nat
 sa:Nat
 w:Nat
 named:Bool
 place:Nat
abbrev PL.lp (L:PL):Loc:=(L.i,60,L.p)
abbrev PL.lt (L:PL):Loc:=(L.i,12,L.t)
abbrev PL.ld (L:PL):Loc:=(L.i,61,L.d)
abbrev PL.lr (L:PL):Loc:=(L.i,1,L.r)
abbrev PL.lpa (L:PL):Loc:=(L.i,13,L.pa)
abbrev PL.lty (L:PL):Loc:=(L.i,16,L.ty)
abbrev PL.lco (L:PL):Loc:=(L.i,19,L.co)
abbrev PL.lna (L:PL):Loc:=(L.i,20,L.na)
abbrev PL.lsp (L:PL):Loc:=(L.i,21,L.sp)
abbrev PL.lsa (L:PL):Loc:=(L.i,22,L.sa)
abbrev PL.lw (L:PL):Loc:=(L.i,313,L.w)
abbrev PL.lab (L:PL) (n:Nat):Loc:=(L.i,7,n)
abbrev PL.cov (L:PL) (n:Nat):Loc:=(L.i,6,n)
noncomputable def pF (L:PL) (P:PS):List (String×V):=[("tokens",.ref L.lt),("at",.int (P.sc.at_:Int)),("diags",.ref L.ld),("parts",.ref L.lpa),("firsts",.ref (L.i,14,L.fi)),("tails",.ref (L.i,15,L.ta)),("types",.ref L.lty),("deep",.int P.sc.deep),("pending",P.sc.pending),("allow_in",.bool P.sc.allow),
 ("in_func",.int P.sc.inf),("in_loop",.int P.sc.inl),("in_switch",.int P.sc.ins),("labels",.ref (L.lab P.lc.nl)),("no_cond",.bool P.sc.nocond),("ret_bar",.bool P.sc.retbar),("in_literal",.int P.sc.inlit),("covers",.ref (L.cov P.lc.nc)),("commas",.ref L.lco),("not_arrow",.ref L.lna),("splits",.ref L.lsp),("saved",.ref L.lsa)]
noncomputable def JU (x:Nat×Tk):V:=.tup [.int (x.1:Int),x.2.v]
noncomputable def Mk.f (L:PL) (k:Mk):List (String×V):=[("at",.int (k.sc.at_:Int)),("told",.int (k.told:Int)),("splits",.int (k.spl:Int)),("covers",.ref (L.cov k.lc.nc)),("deep",.int k.sc.deep),("pending",k.sc.pending),("allow_in",.bool k.sc.allow),("in_func",.int k.sc.inf),("in_loop",.int k.sc.inl),("in_switch",.int k.sc.ins),("labels",.ref (L.lab k.lc.nl)),
 ("no_cond",.bool k.sc.nocond),("ret_bar",.bool k.sc.retbar),("in_literal",.int k.sc.inlit)]
noncomputable def Mk.v (L:PL) (k:Mk):V:=.obj "Mark" (k.f L)
noncomputable def xP:List Nat:=[35,110,97,109,101]
noncomputable def tyD (L:PL):List (List Nat×V):=if L.named then [(xP,.obj "NameKindRule" [])] else []
noncomputable def uj (L:PL) (k:Lc) (σ:St):Prop:=σ.m (L.lab k.nl)=some (.lst k.ls)∧σ.m (L.cov k.nc)=some (.lst k.cs)
noncomputable def Nds (k:Lc) (sv:List Mk):Prop:=(k.nl::sv.map (·.lc.nl)).Nodup∧(k.nc::sv.map (·.lc.nc)).Nodup
structure Par (L:PL) (P:PS) (σ:St):Prop where
 p:σ.m L.lp=some (.inst "Parser" (pF L P))
 t:σ.m L.lt=some (.lst (P.tk.map Tk.v))
 d:σ.m L.ld=some (.inst "Diags" [("rows",.ref L.lr),("file",.str [])])
 r:σ.m L.lr=some (.lst (P.rows.map Dg.v))
 sp:σ.m L.lsp=some (.lst (P.splits.map JU))
 sa:σ.m L.lsa=some (.lst (P.saved.map (Mk.v L)))
 lc:uj L P.lc σ
 mks:∀ k∈P.saved,uj L k.lc σ
 nd:Nds P.lc P.saved
 ty:σ.m L.lty=some (.ds (tyD L))
 pa:σ.m L.lpa=some (.di [(1,.obj "TypePart" []),(2,.obj "TypePart" [])])
 co:σ.m L.lco=some (.di [((L.place:Int),.bool true)])
 na:σ.m L.lna=some (.di [((L.place:Int)+7,.bool true)])
 len:P.tk.length≤1000
noncomputable def own (i:Nat) (l:Loc):Bool:=[60,12,1,21,22,6,7].contains l.2.1&&decide (l.1=i)
theorem jj {i k n:Nat} (h:[60,12,1,21,22,6,7].contains k=true):own i (i,k,n)=true:=by
 unfold own;rw [h,decide_eq_true rfl];rfl
theorem Na {i:Nat} {l:Loc} (h:l.1≠i):own i l=false:=by
 unfold own;rw [decide_eq_false h,Bool.and_false]
noncomputable def xK (i:Nat) (σ σ':St):Prop:=σ'.ow=σ.ow∧∀ l c,σ.m l=some c→own i l=false→σ'.m l=some c
section
variable {i:Nat} {a b c:St} {l:Loc} {cl:zu}
theorem xK.refl:xK i a a:=⟨rfl,fun _ _ e _=>e⟩
theorem xK.trans (x:xK i a b) (y:xK i b c):xK i a c:=⟨y.1.trans x.1,fun l cl e n=>y.2 l cl (x.2 l cl e n) n⟩
theorem zt.keep (x:zt a b):xK i a b:=⟨x.1,fun l c e _=>x.2 l c e⟩
theorem xK.set (x:xK i a b) (h:own i l=true):xK i a (b.set l cl):=⟨x.1,fun l' c e n=>(zl fun z=>zk (n.symm.trans ((congrArg (own i) z).trans h))).trans (x.2 l' c e n)⟩
theorem xK.fresh (x:xK i a b) (h:a.m l=none):xK i a (b.set l cl):=⟨x.1,fun l' c e n=>(zl fun z=>zL (h.symm.trans (z▸e))).trans (x.2 l' c e n)⟩
theorem wL {l':Loc} (h:l'≠l):(a.drop l).m l'=a.m l':=if_neg h
theorem xK.drop (x:xK i a b) (h:a.m l=none):xK i a (b.drop l):=⟨x.1,fun l' c e n=>(wL fun z=>zL (h.symm.trans (z▸e))).trans (x.2 l' c e n)⟩
theorem sk (h:a.m l=some cl) {l':Loc} {c:zu} (e:Nat.beq l.2.1 l'.2.1=false):(a.set l' c).m l=some cl:=(zl fun z=>Nat.ne_of_beq_eq_false e (congrArg (fun l:Loc=>l.2.1) z)).trans h
end
section
variable {L:PL} {P:PS} {σ σ':St}
theorem uj.sk {k:Lc} (x:uj L k σ) {l:Loc} {c:zu} (e:Nat.beq 7 l.2.1=false) (e':Nat.beq 6 l.2.1=false):uj L k (σ.set l c):=⟨Mine.sk x.1 e,Mine.sk x.2 e'⟩
theorem Par.fld (x:Par L P σ) (u:Sc) (v:Lc) (h:uj L v σ) (n:Nds v P.saved):Par L {P with sc:=u,lc:=v} (σ.set L.lp (.inst "Parser" (pF L {P with sc:=u,lc:=v}))):=
 ⟨zj,sk x.t rfl,sk x.d rfl,sk x.r rfl,sk x.sp rfl,sk x.sa rfl,h.sk rfl rfl,fun k hk=>(x.mks k hk).sk rfl rfl,n,sk x.ty rfl,sk x.pa rfl,sk x.co rfl,sk x.na rfl,x.len⟩
theorem Par.toks (x:Par L P σ) {tk:List Tk} (hl:tk.length≤1000):Par L {P with tk:=tk} (σ.set L.lt (.lst (tk.map Tk.v))):=
 ⟨sk x.p rfl,zj,sk x.d rfl,sk x.r rfl,sk x.sp rfl,sk x.sa rfl,x.lc.sk rfl rfl,fun k hk=>(x.mks k hk).sk rfl rfl,x.nd,sk x.ty rfl,sk x.pa rfl,sk x.co rfl,sk x.na rfl,hl⟩
theorem Par.rws (x:Par L P σ) {rows:List Dg}:Par L {P with rows:=rows} (σ.set L.lr (.lst (rows.map Dg.v))):=
 ⟨sk x.p rfl,sk x.t rfl,sk x.d rfl,zj,sk x.sp rfl,sk x.sa rfl,x.lc.sk rfl rfl,fun k hk=>(x.mks k hk).sk rfl rfl,x.nd,sk x.ty rfl,sk x.pa rfl,sk x.co rfl,sk x.na rfl,x.len⟩
theorem Par.spl (x:Par L P σ) {sp:List (Nat×Tk)}:Par L {P with splits:=sp} (σ.set L.lsp (.lst (sp.map JU))):=
 ⟨sk x.p rfl,sk x.t rfl,sk x.d rfl,sk x.r rfl,zj,sk x.sa rfl,x.lc.sk rfl rfl,fun k hk=>(x.mks k hk).sk rfl rfl,x.nd,sk x.ty rfl,sk x.pa rfl,sk x.co rfl,sk x.na rfl,x.len⟩
theorem Par.sav (x:Par L P σ) {sv:List Mk} (h:∀ k∈sv,uj L k.lc σ) (n:Nds P.lc sv):Par L {P with saved:=sv} (σ.set L.lsa (.lst (sv.map (Mk.v L)))):=
 ⟨sk x.p rfl,sk x.t rfl,sk x.d rfl,sk x.r rfl,sk x.sp rfl,zj,x.lc.sk rfl rfl,fun k hk=>(h k hk).sk rfl rfl,n,sk x.ty rfl,sk x.pa rfl,sk x.co rfl,sk x.na rfl,x.len⟩
noncomputable def rk (l:Loc):Bool:=[60,12,61,1,13,14,15,16,19,20,21,22,6,7].contains l.2.1
theorem Par.oth (x:Par L P σ) (h:∀ l c,rk l=true→σ.m l=some c→σ'.m l=some c):Par L P σ':=
 ⟨h _ _ rfl x.p,h _ _ rfl x.t,h _ _ rfl x.d,h _ _ rfl x.r,h _ _ rfl x.sp,h _ _ rfl x.sa,⟨h _ _ rfl x.lc.1,h _ _ rfl x.lc.2⟩,fun k hk=>⟨h _ _ rfl (x.mks k hk).1,h _ _ rfl (x.mks k hk).2⟩,x.nd,h _ _ rfl x.ty,h _ _ rfl x.pa,h _ _ rfl x.co,h _ _ rfl x.na,x.len⟩
structure Rc (L:PL) (σ₀:St) (P:PS) (σ:St):Prop where
 par:Par L P σ
 wf:Wf σ
 nx:σ₀.nx≤σ.nx
 kp:xK L.i σ₀ σ
variable {σ₀:St}
theorem Rc.re (x:Rc L σ₀ P σ):Rc L σ P σ:=⟨x.par,x.wf,Nat.le_refl _,.refl⟩
theorem Rc.on (x:Rc L σ₀ P σ) {P':PS} (y:Rc L σ P' σ'):Rc L σ₀ P' σ':=⟨y.par,y.wf,Nat.le_trans x.nx y.nx,x.kp.trans y.kp⟩
theorem Rc.sav (x:Rc L σ₀ P σ) (s:zt σ σ') (w:Wf σ') (n:σ.nx≤σ'.nx):Rc L σ₀ P σ':=⟨x.par.oth fun l c _ e=>s.2 l c e,w,Nat.le_trans x.nx n,x.kp.trans s.keep⟩
theorem Wf.drop {σ:St} (w:Wf σ) {l:Loc}:Wf (σ.drop l):=fun l' c e=>by
 by_cases q:l'=l
 ·exact zL ((if_pos q).symm.trans e)
 ·exact w l' c ((wL q).symm.trans e)
theorem Rc.drop (x:Rc L σ₀ P σ) {l:Loc} (h:σ₀.m l=none) (k:rk l=false):Rc L σ₀ P (σ.drop l):=⟨x.par.oth fun l' c r e=>(wL fun z=>zk (k.symm.trans ((congrArg rk z.symm).trans r))).trans e,x.wf.drop,x.nx,x.kp.drop h⟩
theorem Rc.set (x:Rc L σ₀ P σ) {l:Loc} (h:σ₀.m l=none) (k:rk l=false) (n:l.2.2 < σ.nx) (c:zu):Rc L σ₀ P (σ.set l c):=⟨x.par.oth fun l' c r e=>(zl fun z=>zk (k.symm.trans ((congrArg rk z.symm).trans r))).trans e,x.wf.set n c,x.nx,x.kp.fresh h⟩
theorem gA {l:Loc} {C n:String} {f:List (String×V)} (h:σ.m l=some (.inst C f)):zm σ (.ref l) n=f.lookup n:=by
 show bd (inA σ l) (fun p=>p.2.lookup n)=_
 rw [kU h];rfl
theorem Wg {l:Loc} {C n:String} {f:List (String×V)} {u:V} (h:σ.m l=some (.inst C f)) (e:((f.lookup n).isSome||zG C n)=true) (hl:f.length < 64):zO σ (.ref l) n u=some (σ.set l (.inst C (yo n u f))):=by
 show bd (inA σ l) (fun p=>if ((p.2.lookup n).isSome||zG p.1 n)=true∧p.2.length < 64 then some (σ.set l (.inst p.1 (yo n u p.2))) else none)=_
 rw [kU h]
 exact if_pos ⟨e,hl⟩
section
variable {Q:V→Prop}
theorem Rc.g (x:Rc L σ₀ P σ) {n:String} {v:V} (e:(pF L P).lookup n=some v) (q:Q v):op (zm σ (.ref L.lp) n) Q:=g_ ((gA x.par.p).trans e) q
theorem Rc.fat (x:Rc L σ₀ P σ) (q:Q (.int (P.sc.at_:Int))):op (zm σ (.ref L.lp) "at") Q:=x.g rfl q
theorem Rc.ftk (x:Rc L σ₀ P σ) (q:Q (.ref L.lt)):op (zm σ (.ref L.lp) "tokens") Q:=x.g rfl q
theorem Rc.fdg (x:Rc L σ₀ P σ) (q:Q (.ref L.ld)):op (zm σ (.ref L.lp) "diags") Q:=x.g rfl q
theorem Rc.fpa (x:Rc L σ₀ P σ) (q:Q (.ref L.lpa)):op (zm σ (.ref L.lp) "parts") Q:=x.g rfl q
theorem Rc.fty (x:Rc L σ₀ P σ) (q:Q (.ref L.lty)):op (zm σ (.ref L.lp) "types") Q:=x.g rfl q
theorem Rc.fdp (x:Rc L σ₀ P σ) (q:Q (.int P.sc.deep)):op (zm σ (.ref L.lp) "deep") Q:=x.g rfl q
theorem Rc.fpe (x:Rc L σ₀ P σ) (q:Q (P.sc.pending)):op (zm σ (.ref L.lp) "pending") Q:=x.g rfl q
theorem Rc.fal (x:Rc L σ₀ P σ) (q:Q (.bool P.sc.allow)):op (zm σ (.ref L.lp) "allow_in") Q:=x.g rfl q
theorem Rc.fif (x:Rc L σ₀ P σ) (q:Q (.int P.sc.inf)):op (zm σ (.ref L.lp) "in_func") Q:=x.g rfl q
theorem Rc.fil (x:Rc L σ₀ P σ) (q:Q (.int P.sc.inl)):op (zm σ (.ref L.lp) "in_loop") Q:=x.g rfl q
theorem Rc.fis (x:Rc L σ₀ P σ) (q:Q (.int P.sc.ins)):op (zm σ (.ref L.lp) "in_switch") Q:=x.g rfl q
theorem Rc.fla (x:Rc L σ₀ P σ) (q:Q (.ref (L.lab P.lc.nl))):op (zm σ (.ref L.lp) "labels") Q:=x.g rfl q
theorem Rc.fnc (x:Rc L σ₀ P σ) (q:Q (.bool P.sc.nocond)):op (zm σ (.ref L.lp) "no_cond") Q:=x.g rfl q
theorem Rc.frb (x:Rc L σ₀ P σ) (q:Q (.bool P.sc.retbar)):op (zm σ (.ref L.lp) "ret_bar") Q:=x.g rfl q
theorem Rc.fit (x:Rc L σ₀ P σ) (q:Q (.int P.sc.inlit)):op (zm σ (.ref L.lp) "in_literal") Q:=x.g rfl q
theorem Rc.fco (x:Rc L σ₀ P σ) (q:Q (.ref (L.cov P.lc.nc))):op (zm σ (.ref L.lp) "covers") Q:=x.g rfl q
theorem Rc.fcm (x:Rc L σ₀ P σ) (q:Q (.ref L.lco)):op (zm σ (.ref L.lp) "commas") Q:=x.g rfl q
theorem Rc.fna (x:Rc L σ₀ P σ) (q:Q (.ref L.lna)):op (zm σ (.ref L.lp) "not_arrow") Q:=x.g rfl q
theorem Rc.fsp (x:Rc L σ₀ P σ) (q:Q (.ref L.lsp)):op (zm σ (.ref L.lp) "splits") Q:=x.g rfl q
theorem Rc.fsa (x:Rc L σ₀ P σ) (q:Q (.ref L.lsa)):op (zm σ (.ref L.lp) "saved") Q:=x.g rfl q
end
theorem Rc.st (x:Rc L σ₀ P σ) (u:Sc) {n:String} {v:V} (h:((pF L P).lookup n).isSome=true) (e:yo n v (pF L P)=pF L {P with sc:=u}) {Q:St→Prop} (q:∀ σ',Rc L σ₀ {P with sc:=u} σ'→Q σ'):op (zO σ (.ref L.lp) n v) Q:=
 g_ (Wg x.par.p (by rw [h];rfl) (za (Nat.le_refl 23) rfl)) (q _ (by rw [e];exact ⟨x.par.fld u P.lc x.par.lc x.par.nd,x.wf.set (x.wf _ _ x.par.p) _,x.nx,x.kp.set (jj rfl)⟩))
theorem Rc.rv (x:Rc L σ₀ P σ) {n:String} (h:yI.contains ("Parser",n)=true) (h2:(pF L P).lookup n=none) {Q:Cal→Prop} (q:Q (.fn ("Parser."++n))):op (zR σ (.ref L.lp) n) Q:=by
 refine g_ ?_ q
 show oO (bd (oO none (inA σ L.lp)) fun p=>if (yI.contains (p.1,n)&&(p.2.lookup n).isNone)=true then some (Cal.fn (p.1++"."++n)) else none) _=_
 rw [kU x.par.p]
 show oO (if (yI.contains ("Parser",n)&&((pF L P).lookup n).isNone)=true then _ else none) _=_
 rw [h,h2];rfl
theorem yL {R:Rel} {k:Nat} {v:V} {n f:String} {vs:List V} {Q:V→St→Prop} {X:String→St→Prop} (q:ze R f (v::vs) σ Q X):meW R k v n (.fn f) vs σ Q X:=by
 unfold meW;exact q
end
noncomputable def jn (x:List Nat):Bool:=decide (x∈[[61,62],[61,61],[61,61,61]])
inductive vd (s cuts:List Nat):Nat→List Tk→Prop
 | nil:vd s cuts 0 []
 | step {c:Nat} {pre:List Tk}:vd s cuts c pre→(sg s c).text≠[]→(sg s c).at_∉cuts→vd s cuts (sg s c).en (pre++[(sg s c).tk])
 | cut {c:Nat} {pre:List Tk}:vd s cuts c pre→(sg s c).text=[62,61]→(sg s c).at_∈cuts→vd s cuts ((sg s c).at_+1) (pre++kZ (sg s c) (sg s ((sg s c).at_+1)))
abbrev Jo (en:Nat) (b:Tk):Prop:=b.kind=5∧b.at_=en∧jn (61::b.text)=true
structure jd (s:List Nat) (a:Nat):Prop where
 at_:(sg s (a+1)).at_=a+1
 line:(sg s (a+1)).line=false
 kind:(sg s (a+1)).kind=5
 yes:Jo (a+2) (sg s (a+2)).tk→(sg s (a+1)).text=61::(sg s (a+2)).text∧(sg s (a+1)).en=(sg s (a+2)).en
 no:¬ Jo (a+2) (sg s (a+2)).tk→(sg s (a+1)).text=[61]∧(sg s (a+1)).en=a+2
 nocut:∀ c,(sg s c).at_=a+1→(sg s c).text≠[62,61]
noncomputable def J1 (s:List Nat):Prop:=s.length≤1000∧∀ c,(sg s c).text=[62,61]→jd s (sg s c).at_
theorem jd.ne {s:List Nat} {a:Nat} (b:jd s a):(sg s (a+1)).text≠[]:=by
 by_cases h:Jo (a+2) (sg s (a+2)).tk
 ·rw [(b.yes h).1];exact List.cons_ne_nil _ _
 ·rw [(b.no h).1];exact List.cons_ne_nil _ _
theorem jd.tk {s:List Nat} {a:Nat} (b:jd s a):(sg s (a+1)).tk=(sg s (a+1)).cutTk:=by
 unfold Sg.tk Sg.cutTk;rw [b.kind,b.line]
noncomputable def HJ (s cuts:List Nat):Prop:=∀ a∈cuts,∃ c,(sg s c).at_=a∧(sg s c).text=[62,61]
theorem xq {t:List Nat} {a:Nat} {l:List Nat} (h:t=a::l):t≠[]:=by rw [h];exact List.cons_ne_nil _ _
theorem vd.rows {s cuts:List Nat} (g:J1 s) (hc:HJ s cuts) {c:Nat} {pre:List Tk} (h:vd s cuts c pre):∀ {ts:List Tk},Rows s cuts c ts→Rows s cuts 0 (pre++ts):=by
 induction h with
 | nil=>exact fun r=>r
 | step _ h1 h2 ih=>
  intro ts r
  rw [List.append_assoc]
  exact ih (.plain h1 h2 r)
 | @cut c pre _ h1 h2 ih=>
  intro ts r
  have b:=g.2 c h1
  rw [List.append_assoc]
  refine ih ?_
  have no:(sg s ((sg s c).at_+1)).at_∉cuts:=fun z=>by
   obtain ⟨c',e1,e2⟩:=hc _ z
   rw [b.at_] at e1
   exact b.nocut c' e1 e2
  cases r with
  | fin q=>exact absurd q b.ne
  | plain _ _ r'=>
   rw [b.tk]
   exact .cut h2 (xq h1) b.ne r'
  | cut q=>exact absurd q no
theorem VV {s cuts:List Nat} {c:Nat} (hc:∀ a∈cuts,a < c):(sg s c).at_∉cuts:=fun z=>Nat.lt_irrefl _ (Nat.lt_of_lt_of_le (hc _ z) jh)
theorem WT {s cuts:List Nat} {c:Nat} {ts:List Tk} (h:Rows s [] c ts):(∀ a∈cuts,a < c)→Rows s cuts c ts:=by
 induction h with
 | @fin c h1 _=>exact fun hc=>.fin h1 (VV hc)
 | @plain c ts h1 _ _ ih=>exact fun hc=>.plain h1 (VV hc) (ih fun x hx=>Nat.lt_trans (hc x hx) (zN h1).1)
 | cut q=>cases q
theorem vd.le {s cuts:List Nat} {c:Nat} {pre:List Tk} (h:vd s cuts c pre):c≤s.length:=by
 cases h with
 | nil=>exact Nat.zero_le _
 | step _ h1 _=>exact (uL h1).2
 | cut _ h1 _=>exact Nat.le_trans (uL (xq h1)).1 (uL (xq h1)).2
theorem Ut {l:List Nat} {a b:Nat} (h:b∉l) (h2:b < a):b∉l++[a]:=fun z=>(List.mem_append.mp z).elim h fun z=>Nat.lt_irrefl _ (List.mem_singleton.mp z▸h2)
theorem vd.more {s cuts:List Nat} {c a:Nat} {pre:List Tk} (h:vd s cuts c pre):c≤a→vd s (cuts++[a]) c pre:=by
 induction h with
 | nil=>exact fun _=>.nil
 | @step c pre _ h1 h2 ih=>
  intro ha
  have x:=(uL h1).1
  exact .step (ih (Nat.le_trans (Nat.le_trans jh (Nat.le_of_lt x)) ha)) h1 (Ut h2 (Nat.lt_of_lt_of_le x ha))
 | cut _ h1 h2 ih=>exact fun ha=>.cut (ih (Nat.le_trans (Nat.le_trans jh (Nat.le_succ _)) ha)) h1 (List.mem_append_left _ h2)
theorem Rows.head {s:List Nat} {c:Nat} {ts:List Tk} (h:Rows s [] c ts):∃ r,ts=(sg s c).tk::r∧((sg s c).text=[]→r=[])∧((sg s c).text≠[]→Rows s [] (sg s c).en r):=by
 cases h with
 | fin h1 _=>exact ⟨[],rfl,fun _=>rfl,fun z=>absurd h1 z⟩
 | plain h1 _ x=>exact ⟨_,rfl,fun z=>absurd z h1,fun _=>x⟩
 | cut q=>cases q
noncomputable def PS.mv (P:PS) (a:Nat) (tk:List Tk) (sp:List (Nat×Tk)):PS:=⟨{P.sc with at_:=a},P.lc,tk,P.rows,sp,P.saved⟩
noncomputable def PS.next (P:PS):PS:={P with sc:={P.sc with at_:=P.sc.at_+1}}
noncomputable def PS.split (P:PS) (t b:Tk):PS:=
 if Jo t.en b then P.mv (P.sc.at_+1) ((P.tk.set P.sc.at_ ⟨5,[62],t.at_,t.at_+1,t.lb⟩).set (P.sc.at_+1) ⟨5,61::b.text,t.at_+1,b.en,false⟩) (P.splits++[(P.sc.at_,t)]++[(P.sc.at_+1,b)])
 else P.mv P.sc.at_ (P.tk.set P.sc.at_ ⟨5,[61],t.at_+1,t.en,false⟩) (P.splits++[(P.sc.at_,t)])
structure At (s cuts:List Nat) (c:Nat) (P:PS):Prop where
 split:∃ pre ts,P.tk=pre++ts∧P.sc.at_=pre.length∧Rows s [] c ts∧vd s cuts c pre
 lt:∀ a∈cuts,a < c
 ok:HJ s cuts
section
variable {s cuts:List Nat} {c:Nat} {P:PS}
theorem At.le (h:At s cuts c P):c≤s.length:=by
 obtain ⟨_,_,_,_,_,x⟩:=h.split;exact x.le
theorem JN {α:Type} {pre r:List α} {x:α}:(pre++x::r)[pre.length]?=some x:=by rw [List.getElem?_append_right (Nat.le_refl _),Nat.sub_self];rfl
theorem At.cur (h:At s cuts c P):P.tk[P.sc.at_]?=some (sg s c).tk:=by
 obtain ⟨pre,ts,e1,e2,r,_⟩:=h.split
 obtain ⟨t,rfl,_⟩:=r.head
 rw [e1,e2];exact JN
theorem jH {α:Type} {l:List α} {n:Nat} {x:α} (h:l[n]?=some x):n < l.length:=(Nat.lt_or_ge n l.length).elim id fun z=>zL ((List.getElem?_eq_none z).symm.trans h)
theorem At.rows (h:At s cuts c P) (g:J1 s):Rows s cuts 0 P.tk:=by
 obtain ⟨pre,ts,e1,e2,r,x⟩:=h.split
 rw [e1]
 exact x.rows g h.ok (WT r h.lt)
theorem My {α:Type} (l:List α) (x:α):l.length.succ=(l++[x]).length:=(List.length_append (as:=l) (bs:=[x])).symm
theorem At.next (h:At s cuts c P) (ht:(sg s c).text≠[]):At s cuts (sg s c).en P.next:=by
 obtain ⟨pre,ts,e1,e2,r,x⟩:=h.split
 obtain ⟨t,rfl,_,r'⟩:=r.head
 exact ⟨⟨pre++[(sg s c).tk],t,e1.trans (List.append_assoc pre [_] t).symm,(congrArg Nat.succ e2).trans (My _ _),r' ht,.step x ht (VV h.lt)⟩,fun y hy=>Nat.lt_trans (h.lt y hy) (zN ht).1,h.ok⟩
theorem At.of (h:At s cuts c P) {P':PS} (e1:P'.tk=P.tk) (e2:P'.sc.at_=P.sc.at_):At s cuts c P':=by
 obtain ⟨pre,ts,f1,f2,r⟩:=h.split
 exact ⟨⟨pre,ts,e1.trans f1,e2.trans f2,r⟩,h.lt,h.ok⟩
theorem At.behind (h:At s cuts c P) (ht:(sg s c).text≠[]):P.tk[P.sc.at_+1]?=some (sg s (sg s c).en).tk:=(h.next ht).cur
theorem J7 {α:Type} {pre r:List α} {x y:α}:(pre++x::r).set pre.length y=pre++y::r:=by
 rw [List.set_append_right _ _ (Nat.le_refl _),Nat.sub_self];rfl
theorem Wh {α:Type} {pre r:List α} {x y z:α}:(pre++x::y::r).set (pre.length+1) z=pre++x::z::r:=by
 rw [List.set_append_right _ _ (Nat.le_succ _),Nat.succ_sub (Nat.le_refl _),Nat.sub_self];rfl
theorem At.cutAt (h:At s cuts c P) (g:J1 s) (ht:(sg s c).text=[62,61]):At s (cuts++[(sg s c).at_]) ((sg s c).at_+1) (P.split (sg s c).tk (sg s (sg s c).en).tk):=by
 have b:=g.2 c ht
 have hen:(sg s c).en=(sg s c).at_+2:=by rw [ZY,ht];rfl
 obtain ⟨pre,ts,e1,e2,r,x⟩:=h.split
 obtain ⟨t,rfl,_,r'⟩:=r.head
 have r2:=r' (xq ht)
 obtain ⟨u,rfl,u1,u2⟩:=r2.head
 have lt':∀ a∈cuts++[(sg s c).at_],a < (sg s c).at_+1:=fun a ha=>(List.mem_append.mp ha).elim (fun q=>Nat.lt_succ_of_lt (Nat.lt_of_lt_of_le (h.lt a q) jh)) fun q=>by
  rw [List.mem_singleton.mp q];exact Nat.lt_succ_self _
 have ok':HJ s (cuts++[(sg s c).at_]):=fun a ha=>(List.mem_append.mp ha).elim (h.ok a) fun q=>⟨c,(List.mem_singleton.mp q).symm,ht⟩
 have seg:=vd.cut (x.more jh) ht (List.mem_append_right _ (List.mem_singleton.mpr rfl))
 rw [hen] at r2 u2 e1 ⊢
 unfold PS.split
 show At s _ _ (if Jo (sg s c).en (sg s ((sg s c).at_+2)).tk then _ else _)
 rw [hen]
 by_cases q:Jo ((sg s c).at_+2) (sg s ((sg s c).at_+2)).tk
 ·obtain ⟨j1,j2⟩:=b.yes q
  rw [if_pos q]
  have une:(sg s ((sg s c).at_+2)).text≠[]:=fun z=>absurd q.2.2 (by show jn (61::(sg s ((sg s c).at_+2)).text)≠true;rw [z];decide)
  have cp:kZ (sg s c) (sg s ((sg s c).at_+1))=[⟨5,[62],(sg s c).at_,(sg s c).at_+1,(sg s c).line⟩]:=if_neg (by rw [j1];exact fun z=>une (List.cons.inj z).2)
  rw [cp] at seg
  refine ⟨⟨_,(sg s ((sg s c).at_+1)).tk::u,?_,(congrArg Nat.succ e2).trans (My _ _),?_,seg⟩,lt',ok'⟩
  ·show (P.tk.set P.sc.at_ _).set (P.sc.at_+1) _=_
   rw [e1,e2,J7,Wh,b.tk,List.append_assoc]
   show _=pre++(_::⟨5,(sg s ((sg s c).at_+1)).text,(sg s ((sg s c).at_+1)).at_,(sg s ((sg s c).at_+1)).en,false⟩::u)
   rw [j1,j2,b.at_];rfl
  ·exact .plain b.ne (List.not_mem_nil) (by rw [j2];exact u2 une)
 ·obtain ⟨j1,j2⟩:=b.no q
  rw [if_neg q]
  have cp:kZ (sg s c) (sg s ((sg s c).at_+1))=[]:=if_pos j1
  rw [cp,List.append_nil] at seg
  refine ⟨⟨pre,(sg s ((sg s c).at_+1)).tk::(sg s ((sg s c).at_+2)).tk::u,?_,e2,?_,seg⟩,lt',ok'⟩
  ·show P.tk.set P.sc.at_ _=_
   rw [e1,e2,J7,b.tk]
   show _=pre++(⟨5,(sg s ((sg s c).at_+1)).text,(sg s ((sg s c).at_+1)).at_,(sg s ((sg s c).at_+1)).en,false⟩::_)
   rw [j1,j2,b.at_]
   show pre++(⟨5,[61],(sg s c).at_+1,(sg s c).en,false⟩::_)=_
   rw [hen]
  ·exact .plain b.ne (List.not_mem_nil) (by rw [j2];exact r2)
end
noncomputable def xp (s:List Nat):Prop:=∀ x∈s,x∈[97,98,99,100,60,62,61,44,40,41,32,10]
noncomputable def cl (s:List Nat) (c:Nat):Nat:=(s.drop c).count 60
theorem yl {s:List Nat} {a b:Nat} (h:a≤b):cl s b≤cl s a:=by
 unfold cl
 rw [show s.drop b=(s.drop a).drop (b - a) by rw [List.drop_drop,Nat.add_sub_of_le h]]
 exact (List.drop_sublist _ _).count_le _
theorem Yf {s:List Nat} {a:Nat}:yV s a=pySl s a (a+1)∨yV s a∈ops:=um (P:=fun t=>t=pySl s a (a+1)∨t∈ops) (.inl rfl) fun _ ho _=>.inr ho
theorem w9 {s:List Nat} {c x:Nat} (h:x∈(sg s c).text):x∈s:=by
 have h':x∈yV s (skp s c):=h
 rw [← uo] at h'
 exact List.mem_of_mem_drop (List.mem_of_mem_take h')
theorem WE {s:List Nat} {c:Nat} (h:zM (sg s c).text=true):(sg s c).text.length=1:=by
 have hl:(sg s c).text.length≠0:=fun z=>wB h (List.length_eq_zero_iff.mp z)
 rcases Yf (s:=s) (a:=skp s c) with q | q
 ·have:(sg s c).text.length≤1:=by
   show (yV s (skp s c)).length≤1
   rw [q,xe,List.length_take];exact Nat.min_le_left _ _
  exact Nat.le_antisymm this (Nat.pos_of_ne_zero hl)
 ·exact zk (((by decide:∀ o∈ops,zM o=false) _ q).symm.trans h)
theorem Jf {s:List Nat} {c x:Nat} (al:xp s) (hx:[97,98,99,100,60,62,61,44,40,41,32,10].contains x=false):(decide ((sg s c).kind=5)&&decide ((sg s c).text=[x]))=false:=by
 rw [df fun z:(sg s c).text=[x]=>zk (hx.symm.trans (List.contains_iff_mem.mpr (al x (w9 (c:=c) (by rw [z];exact .head _))))),Bool.and_false]
theorem jR {s:List Nat} {c:Nat} {t:List Nat} (h:(sg s c).text=t) (h1:t≠[]) (h2:zM t=false):(sg s c).kind=5:=by
 unfold Sg.kind;rw [h,if_neg h1,h2];rfl
theorem qv {s:List Nat} {c:Nat} (h:zM (sg s c).text=true):(sg s c).kind=1:=by
 unfold Sg.kind;rw [if_neg (wB h),if_pos h]
theorem Jl {g:Sg}:g.kind=0∨g.kind=1∨g.kind=5:=by
 unfold Sg.kind
 split
 ·exact .inl rfl
 ·split
  ·exact .inr (.inl rfl)
  ·exact .inr (.inr rfl)
theorem Zp {g:Sg} {k:Int} (h:k≠0∧k≠1∧k≠5):decide (g.kind=k)=false:=df fun z=>by rcases Jl (g:=g) with q | q | q <;> rw [q] at z <;> first | exact h.1 z.symm | exact h.2.1 z.symm | exact h.2.2 z.symm
theorem G0 {s:List Nat} {c:Nat} (h:(sg s c).text=[60]):cl s (sg s c).en+1≤cl s c:=by
 have e:pySl s (skp s c) (skp s c+(sg s c).text.length)=(sg s c).text:=uo
 rw [h] at e
 have e1:(s.drop (skp s c)).take 1=[60]:=by rw [← xe];exact e
 rw [show (sg s c).en=skp s c+1 by rw [ZY,h];rfl]
 refine Nat.le_trans ?_ (yl (W7 (s:=s) (a:=c)))
 unfold cl
 cases hd:s.drop (skp s c) with
 | nil=>rw [hd] at e1;cases e1
 | cons x r=>
  rw [hd] at e1
  rw [yX hd,(List.cons.inj e1).1,List.count_cons_self]
  exact Nat.le_refl _
noncomputable def j0 (sp:List (Nat×Tk)) (tk:List Tk):List Tk:=sp.foldr (fun x tk=>tk.set x.1 x.2) tk
theorem Xb {a b:List (Nat×Tk)} {tk:List Tk}:j0 (a++b) tk=j0 a (j0 b tk):=List.foldr_append
structure Trn (tk:List Tk) (sp:List (Nat×Tk)) (tk':List Tk) (sp':List (Nat×Tk)):Prop where
 o:∃ x,sp'=sp++x∧j0 x tk'=tk∧∀ y∈x,y.1 < tk.length
 len:tk'.length=tk.length
theorem Trn.refl {tk:List Tk} {sp:List (Nat×Tk)}:Trn tk sp tk sp:=⟨⟨[],(List.append_nil _).symm,rfl,nofun⟩,rfl⟩
theorem Trn.trans {a b c:List Tk} {x y z:List (Nat×Tk)} (h:Trn a x b y) (k:Trn b y c z):Trn a x c z:=by
 obtain ⟨⟨u,e1,e2,e3⟩,l⟩:=h
 obtain ⟨⟨v,f1,f2,f3⟩,m⟩:=k
 exact ⟨⟨u++v,by rw [f1,e1,List.append_assoc],by rw [Xb,f2,e2],fun y hy=>(List.mem_append.mp hy).elim (e3 y) fun q=>l▸f3 y q⟩,m.trans l⟩
theorem Ux {α:Type} {l:List α} {n:Nat} {x y:α} (h:l[n]?=some x):(l.set n y).set n x=l:=by
 rw [List.set_set]
 refine List.ext_getElem? fun i=>?_
 by_cases q:n=i
 ·rw [← q,List.getElem?_set_self (jH h),h]
 ·rw [List.getElem?_set_ne q]
theorem Trn.one {tk:List Tk} {sp:List (Nat×Tk)} {n:Nat} {t u:Tk} (h:tk[n]?=some t):Trn tk sp (tk.set n u) (sp++[(n,t)]):=⟨⟨_,rfl,Ux h,fun y hy=>by rw [List.mem_singleton.mp hy];exact jH h⟩,List.length_set⟩
theorem vh {P:PS} {t b:Tk} (ht:P.tk[P.sc.at_]?=some t) (hb:b.kind=5→b.at_=t.en→P.tk[P.sc.at_+1]?=some b):Trn P.tk P.splits (P.split t b).tk (P.split t b).splits∧(P.split t b).splits.length≤P.splits.length+2:=by
 unfold PS.split
 by_cases q:Jo t.en b
 ·rw [if_pos q]
  exact ⟨(Trn.one ht).trans (.one ((List.getElem?_set_ne (Nat.ne_of_lt (Nat.lt_succ_self _))).trans (hb q.1 q.2.1))),by show (P.splits++[_]++[_]).length≤_;rw [List.length_append,List.length_append];exact Nat.le_refl _⟩
 ·rw [if_neg q]
  exact ⟨.one ht,by show (P.splits++[_]).length≤_;rw [List.length_append];exact Nat.le_succ _⟩
noncomputable def SpB (s:List Nat) (P:PS) (c:Nat):Prop:=P.splits.length+2 * s.length≤790000+2 * c
structure Rp (s:List Nat) (L:PL) (σ₀:St) (P:PS) (c:Nat) (cuts:List Nat) (σ:St):Prop extends Rc L σ₀ P σ where
 gd:J1 s
 al:xp s
 pl:At s cuts c P
 sb:SpB s P c
structure Rd (s:List Nat) (L:PL) (σ₀:St) (P:PS) (c:Nat) (cuts:List Nat) (σ:St):Prop extends Rp s L σ₀ P c cuts σ where
 rw_:P.rows.length < 900000
section
variable {s:List Nat} {L:PL} {P:PS} {σ₀ σ σ':St} {c:Nat} {cuts:List Nat} {d k:Nat} {Q:V→St→Prop} {X:String→St→Prop}
theorem Rd.re (x:Rd s L σ₀ P c cuts σ):Rd s L σ P c cuts σ:=⟨⟨x.toRc.re,x.gd,x.al,x.pl,x.sb⟩,x.rw_⟩
theorem Rp.on (x:Rc L σ₀ P σ) {P':PS} {c':Nat} {cuts':List Nat} (y:Rp s L σ P' c' cuts' σ'):Rp s L σ₀ P' c' cuts' σ':=⟨x.on y.toRc,y.gd,y.al,y.pl,y.sb⟩
theorem Rd.on (x:Rd s L σ₀ P c cuts σ) {P':PS} {c':Nat} {cuts':List Nat} (y:Rd s L σ P' c' cuts' σ'):Rd s L σ₀ P' c' cuts' σ':=⟨.on x.toRc y.toRp,y.rw_⟩
theorem Rd.hs (x:Rd s L σ₀ P c cuts σ):s.length≤1000:=x.gd.1
theorem Rp.with (x:Rp s L σ₀ P c cuts σ) {P':PS} (y:Rc L σ₀ P' σ') (e1:P'.tk=P.tk) (e2:P'.sc.at_=P.sc.at_) (e3:P'.splits=P.splits):Rp s L σ₀ P' c cuts σ':=⟨y,x.gd,x.al,x.pl.of e1 e2,by unfold SpB;rw [e3];exact x.sb⟩
theorem Rd.with (x:Rd s L σ₀ P c cuts σ) {u:Sc} {v:Lc} (y:Rc L σ₀ {P with sc:=u,lc:=v} σ') (e2:u.at_=P.sc.at_):Rd s L σ₀ {P with sc:=u,lc:=v} c cuts σ':=⟨x.toRp.with y rfl e2 rfl,x.rw_⟩
theorem Rd.st (x:Rd s L σ₀ P c cuts σ) (u:Sc) {n:String} {v:V} (h:((pF L P).lookup n).isSome=true) (e:yo n v (pF L P)=pF L {P with sc:=u}) (e':u.at_=P.sc.at_) {Q:St→Prop} (q:∀ σ',Rd s L σ₀ {P with sc:=u} c cuts σ'→Q σ'):op (zO σ (.ref L.lp) n v) Q:=
 x.toRc.st u h e fun σ' y=>q σ' (x.with (v:=P.lc) y e')
theorem jG {n l:Nat} (h:n < l) (hl:l≤1000):ym (n:Int) l=some n:=if_pos ⟨Int.natCast_nonneg n,Int.ofNat_lt.mpr h,Int.ofNat_lt.mpr (Eg (Nat.lt_of_lt_of_le h hl) rfl)⟩
theorem Rc.tok (x:Rc L σ₀ P σ) {n:Nat} {t:Tk} (h:P.tk[n]?=some t) {Q:V→Prop} (q:Q t.v):op (zD σ (.ref L.lt) (.int (n:Int))) Q:=by
 refine g_ ?_ q
 show oO (oO (bd (vj σ (.ref L.lt)) fun l=>bd (ym (n:Int) l.length) fun j=>l[j]?) _) _=_
 rw [show vj σ (.ref L.lt)=some (P.tk.map Tk.v) from zJ x.par.t]
 show oO (oO (bd (ym (n:Int) (P.tk.map Tk.v).length) fun j=>(P.tk.map Tk.v)[j]?) _) _=_
 rw [List.length_map,jG (jH h) x.par.len]
 show oO (oO ((P.tk.map Tk.v)[n]?) _) _=_
 rw [List.getElem?_map,h];rfl
theorem Jj {l:Loc} {xs:List V} (h:σ.m l=some (.lst xs)):G1 σ (.ref l)=some xs.length:=by
 show bd (lsA σ l) (fun l=>some l.length)=_
 rw [zJ h];rfl
theorem Rp.cur (x:Rp s L σ₀ P c cuts σ) {Q:V→Prop} (q:Q (sg s c).tk.v):op (zD σ (.ref L.lt) (.int (P.sc.at_:Int))) Q:=x.toRc.tok x.pl.cur q
theorem xj (x:Rp s L σ₀ P c cuts σ) (hd:2≤d) (q:Q (sg s c).tk.v σ):op (zR σ (.ref L.lp) "now") fun cal=>meW (RC d) k (.ref L.lp) "now" cal [] σ Q X:=
 x.rv rfl rfl (yL (zg qh hd rfl fun _ _=>x.ftk (x.fat (x.cur q))))
theorem Oi (ht:(sg s c).text≠[]):(sg s c).kind≠0:=by
 unfold Sg.kind
 rw [if_neg ht]
 split <;> decide
theorem SpB.up {P':PS} {c':Nat} (h:SpB s P c) (e:P'.splits=P.splits) (hc:c≤c'):SpB s P' c':=by
 unfold SpB;rw [e];exact Nat.le_trans h (Nat.add_le_add_left (Nat.mul_le_mul_left 2 hc) _)
theorem Rd.nx_ (x:Rd s L σ₀ P c cuts σ) (ht:(sg s c).text≠[]) (y:Rc L σ₀ P.next σ'):Rd s L σ₀ P.next (sg s c).en cuts σ':=⟨⟨y,x.gd,x.al,x.pl.next ht,x.sb.up rfl (Nat.le_of_lt (zN ht).1)⟩,x.rw_⟩
theorem Rc.step (x:Rc L σ₀ P σ) (hd:2≤d) {t:Tk} (h:P.tk[P.sc.at_]?=some t) (hk:t.kind≠0) (q:∀ σ',Rc L σ₀ P.next σ'→Q t.v σ'):op (zR σ (.ref L.lp) "step") fun cal=>meW (RC d) k (.ref L.lp) "step" cal [] σ Q X:=
 x.rv rfl rfl (yL (zg g7 hd rfl fun _ _=>x.ftk (x.fat (x.tok h ((g_ Jr) (m_t (dnt hk) (x.fat (x.st P.next.sc rfl rfl q))))))))
theorem XN (x:Rd s L σ₀ P c cuts σ) (hd:2≤d) (ht:(sg s c).text≠[]) (q:∀ σ',Rd s L σ₀ P.next (sg s c).en cuts σ'→Q (sg s c).tk.v σ'):op (zR σ (.ref L.lp) "step") fun cal=>meW (RC d) k (.ref L.lp) "step" cal [] σ Q X:=
 x.toRc.step hd x.pl.cur (Oi ht) fun σ' y=>q σ' (x.nx_ ht y)
noncomputable def sgn (s:List Nat) (c:Nat) (t:List Nat):Bool:=decide ((sg s c).kind=5)&&decide ((sg s c).text=t)
theorem jY (x:Rp s L σ₀ P c cuts σ) (hd:4≤d) {t:List Nat} (q:Q (.bool (sgn s c t)) σ):op (zR σ (.ref L.lp) "is_sign") fun cal=>meW (RC d) k (.ref L.lp) "is_sign" cal [.str t] σ Q X:=
 x.rv rfl rfl (yL (zg wu (zi hd rfl) rfl fun _ hd=>x.ftk (x.fat (x.cur ((g_ zV) (xk hd q))))))
theorem Kq (x:Rp s L σ₀ P c cuts σ) (hd:4≤d) {t:List Nat} (q:Q (.bool false) σ):op (zR σ (.ref L.lp) "is_word") fun cal=>meW (RC d) k (.ref L.lp) "is_word" cal [.str t] σ Q X:=
 x.rv rfl rfl (yL (zg wt (zi hd rfl) rfl fun _ hd=>x.ftk (x.fat (x.cur ((g_ gB) (xk hd (by
  rw [show decide ((sg s c).tk.kind=2)=false from Zp (g:=sg s c) (by decide)];exact q)))))))
theorem jZ (x:Rp s L σ₀ P c cuts σ) (hd:4≤d) (hn:zM (sg s c).text=true) {t:List Nat} (h:Nat.beq t.length 1=false) (q:Q (.bool false) σ):op (zR σ (.ref L.lp) "is_name") fun cal=>meW (RC d) k (.ref L.lp) "is_name" cal [.str t] σ Q X:=
 x.rv rfl rfl (yL (zg wx (zi hd rfl) rfl fun _ hd=>x.ftk (x.fat (x.cur ((g_ xS) (xk hd (by
  rw [show decide ((sg s c).tk.text=t)=false from df fun z=>Nat.ne_of_beq_eq_false h (z▸WE hn),Bool.and_false];exact q)))))))
theorem JE (x:Rd s L σ₀ P c cuts σ) (hd:2≤d) (ht:(sg s c).text≠[]) (q:Q (sg s (sg s c).en).tk.v σ):op (zR σ (.ref L.lp) "ahead") fun cal=>meW (RC d) k (.ref L.lp) "ahead" cal [.int 1] σ Q X:=by
 have h:=x.pl.behind ht
 refine x.rv rfl rfl (yL (zg uh hd rfl fun _ _=>x.fat (x.ftk ((g_ (Jj x.par.t)) ⟨?_,m_f (df ?_) (x.ftk (x.tok (n:=P.sc.at_+1) h q))⟩))))
 ·rw [List.length_map];exact za x.par.len rfl
 ·rw [List.length_map];exact Int.not_le.mpr (Int.ofNat_lt.mpr (jH h))
theorem vL (x:Rd s L σ₀ P c cuts σ) (hd:4≤d) {t:List Nat} (ht:t≠[]) (q1:sgn s c t=true→∀ σ',Rd s L σ₀ P.next (sg s c).en cuts σ'→Q (.bool true) σ') (q2:sgn s c t=false→Q (.bool false) σ):ze (RC d) "eat_token" [.ref L.lp,.int 5,.str t] σ Q X:=
 zg Z7 (zi hd rfl) rfl fun _ hd=>xj x.toRp hd (xk hd (zC (fun h=>q2 (ya h)) fun h=>XN x hd (fun z=>ht ((d_t (zb (vF h)).2).symm.trans z)) fun σ' y=>q1 (vF h) σ' y))
theorem jc (x:Rd s L σ₀ P c cuts σ) (hd:6≤d) {t:List Nat} (ht:t≠[]) (q1:sgn s c t=true→∀ σ',Rd s L σ₀ P.next (sg s c).en cuts σ'→Q (.bool true) σ') (q2:sgn s c t=false→Q (.bool false) σ):op (zR σ (.ref L.lp) "eat_sign") fun cal=>meW (RC d) k (.ref L.lp) "eat_sign" cal [.str t] σ Q X:=
 x.rv rfl rfl (yL (zg kQ (zi hd rfl) rfl fun _ hd=>(g_ zV) (vL x hd ht q1 q2)))
theorem gK (x:Rd s L σ₀ P c cuts σ) (hd:6≤d) {a:Nat} (h:[97,98,99,100,60,62,61,44,40,41,32,10].contains a=false) (q:Q (.bool false) σ):op (zR σ (.ref L.lp) "eat_sign") fun cal=>meW (RC d) k (.ref L.lp) "eat_sign" cal [.str [a]] σ Q X:=
 jc x hd (List.cons_ne_nil _ _) (fun z=>zk ((Jf x.al h).symm.trans z)) fun _=>q
theorem ZM (x:Rp s L σ₀ P c cuts σ) (hd:4≤d) {a:Nat} (h:[97,98,99,100,60,62,61,44,40,41,32,10].contains a=false) (q:Q (.bool false) σ):op (zR σ (.ref L.lp) "is_sign") fun cal=>meW (RC d) k (.ref L.lp) "is_sign" cal [.str [a]] σ Q X:=
 jY x hd (by rw [show sgn s c [a]=false from Jf x.al h];exact q)
end
noncomputable def St.bump (σ:St):St:={σ with nx:=σ.nx+1}
section
variable {σ:St} {d k:Nat} {Q:V→St→Prop} {X:String→St→Prop}
theorem YL {l:Loc} {c:zu} (h:σ.m l=none):(σ.set l c).drop l=σ:=St.ext' (fun l'=>by
 by_cases q:l'=l
 ·rw [q,h];exact if_pos rfl
 ·exact (wL q).trans (zl q)) rfl rfl
theorem xU:zt σ σ.bump:=⟨rfl,fun _ _ e=>e⟩
theorem Wf.bump (w:Wf σ):Wf σ.bump:=fun l c e=>Nat.lt_succ_of_lt (w l c e)
theorem vr {R:Rel} {C:String} {vs:List V} (h:["Token","Diag","Diags","Parser","Mark","Node"].contains C=true)
  (q:ze R (C++".__init__") (.ref (σ.loc k)::vs) (σ.bump.set (σ.loc k) (.inst C [])) (fun v σ'=>op (asN v) fun _=>Yq (σ.loc k) C σ' Q) X):ju R k C vs σ Q X:=by
 unfold ju
 unfold ze at q
 exact .inr ⟨h,q⟩
theorem zU {l:Loc} {C n:String} {f:List (String×V)} {u:V} {QS:St→Prop} (hf:zG C n=true) (hl:f.length < 64) (q:QS (σ.set l (.inst C (yo n u f)))):op (zO (σ.set l (.inst C f)) (.ref l) n u) QS:=
 g_ (Wg zj (by rw [hf,Bool.or_true]) hl) (by rw [set_set];exact q)
theorem QP {l:Loc} {C:String} {f:List (String×V)} (h:σ.m l=none) (hf:ZD C=true) (hn:(C=="Node")=false) (q:Q (.obj C f) σ):Yq l C (σ.set l (.inst C f)) Q:=
 (g_ (kU zj)) ⟨rfl,m_t hf (m_f hn (by rw [YL h];exact q))⟩
theorem uq (w:Wf σ) (hd:2≤d) {a b c e f g:V} (q:Q (.obj "Token" [("kind",a),("text",b),("num",c),("at",e),("end",f),("line_before",g)]) σ.bump):ju (RC d) k "Token" [a,b,c,e,f,g] σ Q X:=by
 have fo:∀ n∈["kind","text","num","at","end","line_before"],zG "Token" n=true:=by decide +kernel
 exact vr rfl (zg qg hd rfl fun _ _=>zU (fo _ (.head _)) (za (Nat.le_refl 1) rfl) (zU (fo _ (.tail _ (.head _))) (za (Nat.le_refl 2) rfl) (zU (fo _ (.tail _ (.tail _ (.head _)))) (za (Nat.le_refl 3) rfl) (zU (fo _ (.tail _ (.tail _ (.tail _ (.head _))))) (za (Nat.le_refl 4) rfl)
  (zU (fo _ (.tail _ (.tail _ (.tail _ (.tail _ (.head _)))))) (za (Nat.le_refl 5) rfl) (zU (fo _ (.tail _ (.tail _ (.tail _ (.tail _ (.tail _ (.head _))))))) (za (Nat.le_refl 6) rfl) (QP (σ:=σ.bump) (w.none (Nat.le_refl _)) rfl rfl q)))))))
theorem QO (w:Wf σ) (hd:2≤d) {a b c e:V} (q:Q (.obj "Diag" [("number",a),("at",b),("args",c),("file",e)]) σ.bump):ju (RC d) k "Diag" [a,b,c,e] σ Q X:=by
 have fo:∀ n∈["number","at","args","file"],zG "Diag" n=true:=by decide +kernel
 exact vr rfl (zg Zn hd rfl fun _ _=>zU (fo _ (.head _)) (za (Nat.le_refl 1) rfl) (zU (fo _ (.tail _ (.head _))) (za (Nat.le_refl 2) rfl) (zU (fo _ (.tail _ (.tail _ (.head _)))) (za (Nat.le_refl 3) rfl) (zU (fo _ (.tail _ (.tail _ (.tail _ (.head _))))) (za (Nat.le_refl 4) rfl)
  (QP (σ:=σ.bump) (w.none (Nat.le_refl _)) rfl rfl q)))))
end
section
variable {s:List Nat} {L:PL} {P:PS} {σ₀ σ σ':St} {c:Nat} {cuts:List Nat} {d k:Nat} {Q:V→St→Prop} {X:String→St→Prop}
noncomputable def PS.tell (P:PS) (g:Dg):PS:={P with rows:=P.rows++[g]}
theorem Rc.bump (x:Rc L σ₀ P σ):Rc L σ₀ P σ.bump:=x.sav xU x.wf.bump (Nat.le_succ _)
theorem Rc.tel (x:Rc L σ₀ P σ) (g:Dg):Rc L σ₀ (P.tell g) (σ.set L.lr (.lst ((P.rows++[g]).map Dg.v))):=⟨x.par.rws,x.wf.set (x.wf _ _ x.par.r) _,x.nx,x.kp.set (jj rfl)⟩
theorem Rc.rvD (x:Rc L σ₀ P σ) {Q:Cal→Prop} (q:Q (.fn "Diags.put")):op (zR σ (.ref L.ld) "put") Q:=by
 refine g_ ?_ q
 show oO (bd (oO none (inA σ L.ld)) fun p=>if (yI.contains (p.1,"put")&&(p.2.lookup "put").isNone)=true then some (Cal.fn (p.1++"."++"put")) else none) _=_
 rw [kU x.par.d];rfl
theorem O5 (x:Rc L σ₀ P σ) (hr:P.rows.length < 900000) (hd:4≤d) {n a:Int} {args:V} (g:Dg) (hg:g.v=.obj "Diag" [("number",.int n),("at",.int a),("args",args),("file",.str [])]) (q:∀ σ',Rc L σ₀ (P.tell g) σ'→Q .none σ'):ze (RC d) "Diags.put" [.ref L.ld,.int n,.int a,args] σ Q X:=by
 refine zg Zm (zi hd rfl) rfl fun _ hd=>(g_ ((gA x.par.d).trans rfl)) ((g_ (zx x.par.r (.inl rfl))) ((g_ ((gA x.par.d).trans rfl)) (QO x.wf hd (xF (x.bump.par.r) ?_ ?_))))
 ·rw [List.length_map];exact Nat.lt_of_lt_of_le hr (by decide)
 ·have:=x.bump.tel g
  rw [List.map_append,List.map_cons,hg] at this
  exact q _ this
theorem Rp.tel (x:Rp s L σ₀ P c cuts σ) {g:Dg} (y:Rc L σ₀ (P.tell g) σ'):Rp s L σ₀ (P.tell g) c cuts σ':=x.with y rfl rfl rfl
theorem XT (x:Rd s L σ₀ P c cuts σ) (hd:6≤d) {n:Int} (hn:0≤n∧n < 10000) {a:Nat} {args:V} (q:∀ σ',Rp s L σ₀ (P.tell ⟨n,a,args⟩) c cuts σ'→X "ParseStop" σ'):ze (RC d) "Parser.fault_at" [.ref L.lp,.int n,.int (a:Int),args] σ Q X:=
 zg kP (zi hd rfl) rfl fun _ hd=>x.fdg (x.rvD (yL (O5 x.toRc x.rw_ hd ⟨n,a,args⟩ rfl fun σ' y=>⟨rfl,hn.1,hn.2,rfl,q σ' (x.tel y)⟩)))
theorem ZN (x:Rd s L σ₀ P c cuts σ) (hd:8≤d) {n:Int} (hn:0≤n∧n < 10000) {args:V} (q:∀ σ',Rp s L σ₀ (P.tell ⟨n,(sg s c).at_,args⟩) c cuts σ'→X "ParseStop" σ'):ze (RC d) "Parser.fault" [.ref L.lp,.int n,args] σ Q X:=
 zg ug (zi hd rfl) rfl fun _ hd=>x.rv rfl rfl (xj x.toRp (zi hd rfl) (yL (XT x hd hn q)))
noncomputable def no5 (t:List Nat):V:=.tup [.str t]
theorem xB (x:Rd s L σ₀ P c cuts σ) (hd:10≤d) {t:List Nat} (ht:t≠[]) (q1:sgn s c t=true→∀ σ',Rd s L σ₀ P.next (sg s c).en cuts σ'→Q .none σ') (q2:sgn s c t=false→∀ σ',Rp s L σ₀ (P.tell ⟨1005,(sg s c).at_,no5 t⟩) c cuts σ'→X "ParseStop" σ'):op (zR σ (.ref L.lp) "need_sign") fun cal=>meW (RC d) k (.ref L.lp) "need_sign" cal [.str t] σ Q X:=
 x.rv rfl rfl (yL (zg kc (zi hd rfl) rfl fun _ hd=>(g_ zV) (vL x (zi hd rfl) ht (fun h σ' y=>q1 h σ' y) fun h=>x.rv rfl rfl ⟨za (Nat.le_refl 1) rfl,yL (ZN x hd ⟨by decide,by decide⟩ (q2 h))⟩)))
theorem YS (x:Rd s L σ₀ P c cuts σ) (hd:4≤d) (hn:zM (sg s c).text=true) (q:∀ σ',Rd s L σ₀ P.next (sg s c).en cuts σ'→Q (.str (sg s c).text) σ'):op (zR σ (.ref L.lp) "need_name") fun cal=>meW (RC d) k (.ref L.lp) "need_name" cal [] σ Q X:=
 x.rv rfl rfl (yL (zg ke (zi hd rfl) rfl fun _ hd=>xj x.toRp hd ((g_ xS) (m_f (dnf (qv hn)) (XN x hd (wB hn) q)))))
theorem XF:zE "MAX_DEEP"=some (.int 40):=by unfold zE y4;rfl
noncomputable def PS.dp (P:PS) (n:Int):PS:={P with sc:={P.sc with deep:=n}}
theorem HC (x:Rd s L σ₀ P c cuts σ) (hd:2≤d) (h:P.sc.deep < 40) (q:∀ σ',Rd s L σ₀ (P.dp (P.sc.deep+1)) c cuts σ'→Q .none σ'):op (zR σ (.ref L.lp) "down") fun cal=>meW (RC d) k (.ref L.lp) "down" cal [] σ Q X:=
 x.rv rfl rfl (yL (zg gg hd rfl fun _ _=>x.fdp (x.st (P.dp (P.sc.deep+1)).sc rfl rfl rfl fun σ' y=>y.fdp ((g_ XF) (m_f (df (Int.not_lt.mpr h)) (q σ' y))))))
theorem O3 (x:Rd s L σ₀ P c cuts σ) (hd:2≤d) (q:∀ σ',Rd s L σ₀ (P.dp (P.sc.deep - 1)) c cuts σ'→Q .none σ'):op (zR σ (.ref L.lp) "up") fun cal=>meW (RC d) k (.ref L.lp) "up" cal [] σ Q X:=
 x.rv rfl rfl (yL (zg Zj hd rfl fun _ _=>x.fdp (x.st (P.dp (P.sc.deep - 1)).sc rfl rfl rfl q)))
theorem Q6 {x:List Nat}:j9 σ .notin (.str x) (.tup Jq)=some (!jn x):=by
 show bd (inV σ (.str x) (.tup Jq)) (fun t=>some (!t))=_
 rfl
theorem Vc:zE "JOINED"=some (.tup Jq):=by unfold zE y4 vI;rfl
theorem Rc.put (x:Rc L σ₀ P σ) {n:Nat} (hn:n < P.tk.length) {u:Tk} {QS:St→Prop} (q:∀ σ',Rc L σ₀ {P with tk:=P.tk.set n u} σ'→QS σ'):zw (.ref L.lt) (.int (n:Int)) u.v σ QS:=by
 unfold zw
 have l:(P.tk.set n u).length≤1000:=by rw [List.length_set];exact x.par.len
 have e:ym (n:Int) (P.tk.map Tk.v).length=some n:=by rw [List.length_map];exact jG hn x.par.len
 have:=x.par.toks l
 rw [List.map_set] at this
 exact .inl (.inl ((g_ (zJ x.par.t)) ((g_ e) (q _ ⟨this,x.wf.set (x.wf _ _ x.par.t) _,x.nx,x.kp.set (jj rfl)⟩))))
theorem Rc.psh (x:Rc L σ₀ P σ) (hs:P.splits.length≤800000) {R:Rel} {n:Nat} {t:Tk} (q:∀ σ',Rc L σ₀ {P with splits:=P.splits++[(n,t)]} σ'→Q .none σ'):meW R k (.ref L.lsp) "append" (.lst L.lsp) [.tup [.int (n:Int),t.v]] σ Q X:=by
 refine xF x.par.sp (by rw [List.length_map];exact Nat.lt_of_le_of_lt hs (by decide)) ?_
 have:=x.par.spl (sp:=P.splits++[(n,t)])
 rw [List.map_append] at this
 exact q _ ⟨this,x.wf.set (x.wf _ _ x.par.sp) _,x.nx,x.kp.set (jj rfl)⟩
theorem SpB.le (h:SpB s P c) (hc:c≤s.length):P.splits.length≤790000:=by unfold SpB at h;omega
theorem MB {b:Tk} {en:Nat} {A B:Prop} (h1:Jo en b→B) (h2:¬ Jo en b→A):cB (!decide (b.kind=5)) (cB (!decide (b.kind=5)) A B) (cB (!decide ((b.at_:Int)=(en:Int))) (cB (!decide ((b.at_:Int)=(en:Int))) A B) (op (zE "JOINED") fun v=>op (j9 σ .notin (.str (61::b.text)) v) fun r=>cB r A B)):=
 zC (fun h=>m_t h (h2 fun z=>XM h z.1)) fun e1=>zC (fun h=>m_t h (h2 fun z=>XM h (congrArg _ z.2.1))) fun e2=>(g_ Vc) ((g_ Q6) (zC (fun h=>h2 fun z=>zk ((ya h).symm.trans z.2.2)) fun h=>h1 ⟨gI e1,Int.ofNat.inj (gI e2),vF h⟩))
theorem Rc.spl (x:Rd s L σ₀ P c cuts σ) (ht:(sg s c).text=[62,61]) (y:Rc L σ₀ (P.split (sg s c).tk (sg s (sg s c).en).tk) σ'):Rd s L σ₀ (P.split (sg s c).tk (sg s (sg s c).en).tk) ((sg s c).at_+1) (cuts++[(sg s c).at_]) σ':=by
 have e:∀ {t b},(P.split t b).rows=P.rows:=by intro t b;unfold PS.split;split <;> rfl
 refine ⟨⟨y,x.gd,x.al,x.pl.cutAt x.gd ht,?_⟩,by rw [e];exact x.rw_⟩
 have h:=(vh x.pl.cur (b:=(sg s (sg s c).en).tk) fun _ _=>x.pl.behind (xq ht)).2
 exact Nat.le_trans (Nat.add_le_add_right h _) (Nat.le_trans (Nat.le_of_eq (Nat.add_right_comm _ 2 _)) (Nat.le_trans (Nat.add_le_add_right x.sb 2) (Nat.add_le_add_left (Nat.mul_le_mul_left 2 (Nat.succ_le_succ (jh (s:=s) (c:=c)))) _)))
theorem wM (x:Rd s L σ₀ P c cuts σ) (hd:12≤d) (q1:sgn s c [62,61]=true→∀ σ',Rd s L σ₀ (P.split (sg s c).tk (sg s (sg s c).en).tk) ((sg s c).at_+1) (cuts++[(sg s c).at_]) σ'→Q .none σ')
  (q2:sgn s c [62]=true→∀ σ',Rd s L σ₀ P.next (sg s c).en cuts σ'→Q .none σ') (q3:sgn s c [62,61]=false→sgn s c [62]=false→∀ σ',Rp s L σ₀ (P.tell ⟨1005,(sg s c).at_,no5 [62]⟩) c cuts σ'→X "ParseStop" σ'):ze (RC d) "need_angle" [.ref L.lp] σ Q X:=by
 refine zg q8 (zi hd rfl) rfl fun _ hd=>xj x.toRp (zi hd rfl) ((g_ zV) (xk (zi hd rfl) (zC (fun h=>xB x hd (List.cons_ne_nil _ _) q2 (q3 (ya h))) fun h=>?_)))
 have ht:=vF h
 have hc:=(d_t (zb ht).2:(sg s c).text=_)
 have hb:=x.pl.behind (xq hc)
 have hat:=jH x.pl.cur
 have q1:=fun σ' y=>q1 ht σ' (Rc.spl x hc y)
 have sp:=x.sb.le x.pl.le
 have tl:1+(sg s (sg s c).en).text.length≤1000000:=Nat.le_trans (Nat.add_le_add_left vi 1) (by decide)
 refine JE x (zi hd rfl) (xq hc) (x.fsp ((g_ (zx x.par.sp (.inl rfl))) (x.fat ⟨za (Nat.le_refl 2) rfl,x.toRc.psh (Nat.le_trans sp (by decide)) fun σ1 y=>⟨tl,(g_ zV) (MB (b:=(sg s (sg s c).en).tk) (en:=(sg s c).tk.en) (fun j=>?_) fun j=>?_)⟩⟩)))
 ·unfold PS.split at q1
  rw [if_pos j] at q1
  refine y.fsp ((g_ (zx y.par.sp (.inl rfl))) (y.fat ⟨za (Nat.le_refl 2) rfl,y.psh (n:=P.sc.at_+1) (by show (P.splits++[_]).length≤_;rw [List.length_append];exact Nat.le_trans (Nat.succ_le_succ sp) (by decide)) fun σ2 y=>?_⟩))
  refine (g_ zV) (uq y.wf (zi hd rfl) (y.bump.ftk (y.bump.fat (y.bump.put (u:=⟨5,[62],(sg s c).at_,(sg s c).at_+1,(sg s c).line⟩) hat fun σ3 y=>?_))))
  refine (g_ zV) (uq y.wf (zi hd rfl) (y.bump.ftk (y.bump.fat (y.bump.put (n:=P.sc.at_+1) (u:=⟨5,61::(sg s (sg s c).en).text,(sg s c).at_+1,(sg s (sg s c).en).en,false⟩) (by rw [List.length_set];exact jH hb) fun σ4 y=>?_))))
  exact y.step (zi hd rfl) (t:=⟨5,[62],(sg s c).at_,(sg s c).at_+1,(sg s c).line⟩) ((List.getElem?_set_ne (Nat.succ_ne_self _)).trans (List.getElem?_set_self hat)) (show (5:Int)≠0 by decide) fun σ5 y=>q1 _ y
 ·unfold PS.split at q1
  rw [if_neg j] at q1
  exact (g_ zV) (uq y.wf (zi hd rfl) (y.bump.ftk (y.bump.fat (y.bump.put (u:=⟨5,[61],(sg s c).at_+1,(sg s c).en,false⟩) hat q1))))
end
set_option genInjectivity false
set_option genSizeOfSpec false
inductive Nd where
 | mk (name:List Nat) (at_:Nat) (kids:List Nd)
noncomputable def ndV (kind:Int) (a:List Nat) (kids:List V) (flags at_:Int):V:=.obj "Node" [("kind",.int kind),("a",.str a),("kids",.flst kids),("flags",.int flags),("at",.int at_),("nid",.int 0)]
mutual
noncomputable def Nd.v:Nd→V
 | .mk n a ks=>ndV 81 n (xr ks) 0 (a:Int)
noncomputable def xr:List Nd→List V
 | []=>[]
 | k::ks=>k.v::xr ks
end
mutual
noncomputable def Nd.size:Nd→Nat
 | .mk _ _ ks=>1+zS ks
noncomputable def zS:List Nd→Nat
 | []=>0
 | k::ks=>k.size+zS ks
end
mutual
noncomputable def Nd.height:Nd→Nat
 | .mk _ _ ks=>1+zP ks
noncomputable def zP:List Nd→Nat
 | []=>0
 | k::ks=>max k.height (zP ks)
end
mutual
noncomputable def Nd.says:Nd→Nat→List Sd
 | .mk n a ks,m=>(m,n,a)::zI ks (m+1)
noncomputable def zI:List Nd→Nat→List Sd
 | [],_=>[]
 | k::ks,m=>k.says m++zI ks m
end
theorem yW {k:Nd} {m:Nat}:∀ {ks:List Nd},xr (ks++[k])=xr ks++[k.v]∧zS (ks++[k])=zS ks+k.size∧zP (ks++[k])=max (zP ks) k.height∧zI (ks++[k]) m=zI ks m++k.says m
 | []=>⟨rfl,(Nat.zero_add _).symm,by show max k.height 0=max 0 k.height;rw [Nat.max_comm],List.append_nil _⟩
 | a::ks=>by
  have ⟨h1,h2,h3,h4⟩:=yW (k:=k) (m:=m) (ks:=ks)
  exact ⟨congrArg (a.v::·) h1,(congrArg (a.size+·) h2).trans (Nat.add_assoc ..).symm,(congrArg (max a.height) h3).trans (Nat.max_assoc ..).symm,(congrArg (a.says m++·) h4).trans (List.append_assoc ..).symm⟩
section
variable {σ:St} {d k:Nat} {Q:V→St→Prop} {X:String→St→Prop}
theorem Zt (w:Wf σ) (hd:2≤d) {kind flags at_:Int} {a:List Nat} {lk:Loc} {vs:List V} (hk:σ.m lk=some (.lst vs)) (q:Q (ndV kind a vs flags at_) (σ.bump.drop lk)):ju (RC d) k "Node" [.int kind,.str a,.ref lk,.int flags,.int at_] σ Q X:=by
 have fo:∀ n∈["kind","a","kids","flags","at","nid"],zG "Node" n=true:=by decide +kernel
 have e1:lsA σ.bump lk=some vs:=zJ hk
 refine vr rfl (zg Zk hd rfl fun _ _=>zU (fo _ (.head _)) (za (Nat.le_refl 1) rfl) (zU (fo _ (.tail _ (.head _))) (za (Nat.le_refl 2) rfl) (zU (fo _ (.tail _ (.tail _ (.head _)))) (za (Nat.le_refl 3) rfl) (zU (fo _ (.tail _ (.tail _ (.tail _ (.head _))))) (za (Nat.le_refl 4) rfl)
  (zU (fo _ (.tail _ (.tail _ (.tail _ (.tail _ (.head _)))))) (za (Nat.le_refl 5) rfl) (zU (fo _ (.tail _ (.tail _ (.tail _ (.tail _ (.tail _ (.head _))))))) (za (Nat.le_refl 6) rfl) ((g_ (kU zj)) ⟨rfl,?_⟩)))))))
 rw [YL (σ:=σ.bump) (w.none (Nat.le_refl _))]
 show Q (.obj "Node" [("kind",.int kind),("a",.str a),("kids",Option.rec (.ref lk) V.flst (lsA σ.bump lk)),("flags",.int flags),("at",.int at_),("nid",.int 0)]) (Option.rec σ.bump (fun l=>σ.bump.drop l) (bd (lsA σ.bump lk) fun _=>some lk))
 rw [e1]
 exact q
theorem Vz (w:Wf σ) (hd:4≤d) {kind at_:Int} {a:List Nat} {lk:Loc} {vs:List V} (hk:σ.m lk=some (.lst vs)) (q:Q (ndV kind a vs 0 at_) (σ.bump.drop lk)):ze (RC d) "twig" [.int kind,.str a,.ref lk,.int at_] σ Q X:=
 zg UM (zi hd rfl) rfl fun _ hd=>Zt w hd hk q
theorem Kr (w:Wf σ) (hd:4≤d) {kind flags at_:Int} {a:List Nat} {lk:Loc} {vs:List V} (hk:σ.m lk=some (.lst vs)) (q:Q (ndV kind a vs flags at_) (σ.bump.drop lk)):ze (RC d) "flagged" [.int kind,.str a,.ref lk,.int flags,.int at_] σ Q X:=
 zg Xr (zi hd rfl) rfl fun _ hd=>Zt w hd hk q
theorem gC:zE "K_LIST"=some (.int 71):=by unfold zE y4;rfl
theorem qO (w:Wf σ) (hd:4≤d) {at_:Int} {lk:Loc} {vs:List V} (hk:σ.m lk=some (.lst vs)) (q:Q (ndV 71 [] vs 0 at_) (σ.bump.drop lk)):ze (RC d) "list_of" [.ref lk,.int at_] σ Q X:=
 zg Xq (zi hd rfl) rfl fun _ hd=>(g_ gC) (Zt w hd hk q)
theorem zt.drop {σ σ':St} (x:zt σ σ') {l:Loc} (h:σ.m l=none):zt σ (σ'.drop l):=⟨x.1,fun l' c e=>(wL fun z=>zL (h.symm.trans (z▸e))).trans (x.2 l' c e)⟩
theorem Hy (w:Wf σ) (hd:4≤d) {kind at_:Int} {a:List Nat} (q:∀ σ',zt σ σ'→Wf σ'→σ.nx≤σ'.nx→Q (ndV kind a [] 0 at_) σ'):ze (RC d) "leaf" [.int kind,.str a,.int at_] σ Q X:=
 zg UN (zi hd rfl) rfl fun _ hd=>⟨Nat.zero_le _,Zt (w.new _ _) hd zp (q _ (((zt.new w _ _).trans xU).drop (w.none (Nat.le_refl _))) (w.new _ _).bump.drop (Nat.le_succ_of_le (Nat.le_succ _)))⟩
theorem Jc {R:Rel} {l:Loc} {xs:List V} {u:V} (h:σ.m l=some (.lst (xs++[u]))) (hn:xs.length < 900000) (q:Q u (σ.set l (.lst xs))):meW R k (.ref l) "pop" (.lst l) [] σ Q X:=by
 unfold meW
 refine (g_ (zJ h)) (.inr (.inl ⟨rfl,rfl,?_⟩))
 rw [List.getLast?_concat,List.dropLast_concat,List.length_append]
 exact ⟨Nat.lt_of_lt_of_le (Nat.succ_lt_succ hn) (by decide),q⟩
theorem Oh {l:Loc} {xs:List V} (h:σ.m l=some (.lst xs)) (hn:xs.length≤1000000):zZ σ (.ref l)=some (!xs.isEmpty):=by
 show bd (lsA σ l) (fun vs=>if vs.length≤1000000 then some (!vs.isEmpty) else none)=_
 rw [zJ h]
 exact if_pos hn
end
noncomputable def uQ (l:List (Nd×Nat)):List V:=l.map fun x=>.tup [x.1.v,.int (x.2:Int)]
noncomputable def wi:List (Nd×Nat)→Nat
 | []=>0
 | x::l=>wi l+x.1.size
theorem vn {a:List (Nd×Nat)}:∀ {b:List (Nd×Nat)},wi (b++a)=wi b+wi a
 | []=>(Nat.zero_add _).symm
 | x::b=>(congrArg (·+x.1.size) (vn (a:=a) (b:=b))).trans (Nat.add_right_comm ..)
theorem uS {m:Nat}:∀ {ks:List Nd},wi (ks.map fun k=>(k,m))=zS ks
 | []=>rfl
 | k::ks=>(congrArg (·+k.size) (uS (ks:=ks))).trans (Nat.add_comm ..)
theorem WI:∀ {k:Nd},1≤k.size
 | ⟨_,_,_⟩=>Nat.le_add_right _ _
theorem QD:∀ {l:List (Nd×Nat)},(uQ l).length≤wi l
 | []=>Nat.le_refl _
 | _::l=>Nat.add_le_add (QD (l:=l)) WI
theorem gu {k:Nd}:∀ {ks:List Nd},k∈ks→k.height≤zP ks
 | a::ks,h=>(List.mem_cons.mp h).elim (fun e=>e▸Nat.le_max_left _ _) fun h=>Nat.le_trans (gu h) (Nat.le_max_right _ _)
theorem Yc {a b:List (Nd×Nat)}:uQ (a++b)=uQ a++uQ b:=List.map_append
inductive KdI (F0:Frm) (l:Loc) (m:Nat) (fin:List V) (σ₀:St):List V→Frm→St→Prop
 | mk {ks:List Nd} {xs vs:List V} {σ:St}:xr ks=vs→σ.m l=some (.lst xs)→zt σ₀ σ→xs++uQ (ks.map fun k=>(k,m+1))=fin→KdI F0 l m fin σ₀ vs F0 σ
inductive CkI (pv rv:V) (l:Loc) (σ₀:St):Nat→Frm→St→Prop
 | mk {ps:List (Nd×Nat)} {vs:List V} {σ:St} {n:Nat}:uQ ps=vs→wi ps=n→σ.m l=some (.lst vs)→zt σ₀ σ→(∀ x∈ps,x.2+x.1.height≤160)→n≤100000→CkI pv rv l σ₀ n [("p",pv),("root",rv),("stack",.ref l)] σ
theorem ZA:zE "MAX_HEIGHT"=some (.int 160):=by unfold zE y4;rfl
theorem gN {d:Nat} (hd:2≤d) {σ:St} {p:V} {nd:Nd} (hh:nd.height≤150) (hs:nd.size≤100000) {Q:V→St→Prop} {X:String→St→Prop} (q:∀ σ',zt σ σ'→Wf σ'→σ.nx≤σ'.nx→Q .none σ'):ze (RC d) "check_height" [p,nd.v] σ Q X:=by
 refine xA fun w=>zg uf hd rfl fun _ _=>⟨za (Nat.le_refl 2) rfl,za (Nat.le_refl 1) rfl,?_⟩
 have lno:σ.m (σ.loc 139)=none:=w.none (Nat.le_refl _)
 have m0:(σ.new 139 (.lst [.tup [nd.v,.int 1]])).m (σ.loc 139)=some (.lst (uQ [(nd,1)])):=zp
 have S0:=zt.new w 139 (.lst [.tup [nd.v,.int 1]])
 generalize σ.loc 139=l at *
 generalize σ.new 139 (.lst [.tup [nd.v,.int 1]])=σ1 at *
 refine wG (CkI p nd.v l σ) 3 (.mk rfl rfl m0 S0 (fun x hx=>by rw [List.mem_singleton.mp hx];exact Nat.le_trans (Nat.add_le_add_left hh 1) (by decide)) (by show 0+nd.size≤_;rw [Nat.zero_add];exact hs)) ?_
 clear m0 S0 hs hh
 intro n F σ' I Q' X' qn qr qx
 cases I with
 | @mk ps vs σ' n ev en hm hS hp hn=>
 have pl:=Nat.le_trans (en▸QD (l:=ps)) hn
 rw [ev] at pl
 refine (g_ (Oh hm (Nat.le_trans pl (by decide)))) ?_
 rcases List.eq_nil_or_concat ps with rfl | ⟨qs,⟨⟨nm,a,ks⟩,m⟩,rfl⟩
 ·rw [← ev]
  exact q _ hS
 rw [List.concat_eq_append] at *
 have ev':uQ qs++[.tup [(Nd.mk nm a ks).v,.int (m:Int)]]=vs:=ev▸(Yc (a:=qs) (b:=[(Nd.mk nm a ks,m)])).symm
 have hq:=hp _ (List.mem_append_right _ (.head _))
 have sz:wi qs+(0+(1+zS ks))=n:=en▸(vn (b:=qs) (a:=[(Nd.mk nm a ks,m)])).symm
 rw [← ev'] at hm pl ⊢
 have pl:(uQ qs).length < 100001:=by rw [List.length_append] at pl;exact Nat.lt_of_lt_of_le (Nat.lt_succ_self _) (Nat.le_succ_of_le pl)
 refine m_t (by rw [List.isEmpty_eq_false_iff.mpr (List.concat_ne_nil _ _)];rfl) ((g_ (zx hm (.inr (.inl rfl)))) (Jc hm (Nat.lt_trans pl (by decide)) ((g_ ZA) (m_f (df ?_) ?_))))
 ·exact Int.not_lt.mpr (Int.ofNat_le.mpr (Nat.le_trans (Nat.le_add_right _ _) hq))
 have hb:wi (qs++ks.map fun k=>(k,m+1)) < n:=by
  rw [vn,uS,← sz,Nat.zero_add,Nat.add_comm 1]
  exact Nat.lt_succ_self _
 have hb':=Nat.le_trans (Nat.le_of_lt hb) hn
 refine qG (KdI [("p",p),("root",nd.v),("stack",.ref l),("node",(Nd.mk nm a ks).v),("level",.int (m:Int))] l m (uQ (qs++ks.map fun k=>(k,m+1))) σ) ?_ ?_ (.mk rfl zj (hS.set lno _) Yc.symm)
 ·intro F σ2 I
  cases I with
  | @mk ks' xs vs σ2 e h1 h2 h3=>
  cases ks' with
  | cons _ _=>cases e
  | nil=>
  rw [List.map_nil,uQ,List.map_nil,List.append_nil] at h3
  refine qn 3 (.mk (h3.symm) rfl h1 h2 (fun x hx=>?_) ?_) ?_
  ·rcases List.mem_append.mp hx with h | h
   ·exact hp _ (List.mem_append_left _ h)
   ·obtain ⟨k,h',rfl⟩:=List.mem_map.mp h
    exact Nat.le_trans (Nat.add_le_add_left (gu h') _) (Nat.le_trans (Nat.le_of_eq (Nat.add_assoc m 1 _)) hq)
  ·exact hb'
  ·exact hb
 ·intro v r F σ2 I Q2 qn2 _ _
  cases I with
  | @mk ks' xs vs σ2 e h1 h2 h3=>
  cases ks' with
  | nil=>cases e
  | cons k ks'=>
  cases e
  refine (g_ (zx h1 (.inl rfl))) ⟨za (Nat.le_refl 2) rfl,xF h1 ?_ (qn2 5 rfl (.mk rfl zj (h2.set lno _) ?_))⟩
  ·have:=congrArg List.length h3
   rw [List.length_append] at this
   exact Nat.lt_of_le_of_lt (Nat.le_trans (this▸Nat.le_add_right _ _) (Nat.le_trans QD hb')) (by decide)
  ·exact (List.append_assoc ..).trans h3
theorem dla {y n k d:Nat} (h:y+n≤d) (e:Nat.ble k n=true):k≤d:=Nat.le_trans (Nat.le_of_ble_eq_true e) (Nat.le_trans (Nat.le_add_left n y) h)
theorem dlb {y n k d:Nat} (h:y+n≤d) (e:Nat.ble k n=true):y+k≤d:=Nat.le_trans (Nat.add_le_add_left (Nat.le_of_ble_eq_true e) y) h
theorem GS {R:Rel} {F:Frm} {σ:St} {QS:Fl→Frm→St→Prop} {XS:XP} {t:E} {B:Frm→(Fl→Frm→St→Prop)→XP→St→Prop} (h:∀ K:St→Prop,wpB R F t (fun t σ'=>cB t (K σ') (QS .next F σ')) (fun C σ=>XS .held C F σ) σ):KN R t B F QS XS σ:=
 ⟨fun _ F' σ'=>F'=F∧σ'=σ,0,F.length,⟨List.take_length,rfl⟩,fun n F' σ' z=>by rw [z.1,z.2];exact h _⟩
theorem Gf:zE "T_NUM"=some (.int 3):=by unfold zE y4;rfl
theorem Gd:zE "T_STR"=some (.int 4):=by unfold zE y4;rfl
theorem V8:zE "T_TPL_WHOLE"=some (.int 6):=by unfold zE y4;rfl
theorem V9:zE "T_TPL_HEAD"=some (.int 7):=by unfold zE y4;rfl
theorem Vb:zE "K_FUNC"=some (.int 27):=by unfold zE y4;rfl
theorem wH:zE "K_TREF"=some (.int 81):=by unfold zE y4;rfl
theorem jI:zE "PART_TYPE"=some (.int 1):=by unfold zE y4;rfl
theorem vJ:zE "PART_EXPR"=some (.int 2):=by unfold zE y4;rfl
theorem MJ:zE "OWN_PARTS"=some (.tup GW):=by unfold zE y4 vI;rfl
theorem ZB:zE "KIND_WORDS"=some (.tup GV):=by unfold zE y4 vI;rfl
theorem XE:zE "OPERATOR_WORDS"=some (.tup GU):=by unfold zE y4 vI;rfl
noncomputable def vG (g:Sg):List Nat:=if g.kind=5 then g.text else if g.kind=1 then xP else []
section
variable {s:List Nat} {L:PL} {P:PS} {σ₀ σ σ':St} {c:Nat} {cuts:List Nat} {d k:Nat} {Q:V→St→Prop} {X:String→St→Prop}
theorem YR (hd:2≤d) {g:Sg} (q:Q (.str (vG g)) σ):ze (RC d) "token_key" [g.tk.v] σ Q X:=by
 refine zg hY hd rfl fun _ _=>(g_ zV) ?_
 unfold vG at q
 rcases Jl (g:=g) with h | h | h <;> rw [h] at q
 ·refine m_f (df (by show g.kind≠5;rw [h];decide)) ((g_ gB) (m_f (df (by show g.kind≠2;rw [h];decide)) ((g_ xS) (m_f (df (by show g.kind≠1;rw [h];decide)) ((g_ Gf) (m_f (df (by show g.kind≠3;rw [h];decide)) ((g_ Gd) (m_f (df (by show g.kind≠4;rw [h];decide)) ((g_ V8) (m_f (df (by show g.kind≠6;rw [h];decide)) ((g_ V9) (m_f (df (by show g.kind≠7;rw [h];decide)) q))))))))))))
 ·exact m_f (df (by show g.kind≠5;rw [h];decide)) ((g_ gB) (m_f (df (by show g.kind≠2;rw [h];decide)) ((g_ xS) (m_t (dt h) q))))
 ·exact m_t (dt h) (m_t (dt h) q)
theorem Ks (x:Rp s L σ₀ P c cuts σ) (hd:6≤d) {nd:Nd} (q:Q (.bool false) σ):ze (RC d) "extends_here" [.ref L.lp,nd.v] σ Q X:=by
 obtain ⟨nm,a,ks⟩:=nd
 refine zg (k:=4) ue (zi hd rfl) rfl fun _ hd=>(g_ Vb) (xj x (zi hd rfl) ?_)
 exact zC (fun h=>q) fun h=>Kq x hd q
theorem J3 {t:List Nat}:((tyD L).lookup t).isSome=(L.named&&decide (t=xP)):=by
 unfold tyD
 cases L.named with
 | false=>rfl
 | true=>
  show (List.lookup t [(xP,V.obj "NameKindRule" [])]).isSome=decide (t=xP)
  rw [List.lookup_cons]
  by_cases q:t=xP
  ·rw [dt q,q,beq_self_eq_true];rfl
  ·rw [df q,beq_eq_false_iff_ne.mpr q];rfl
theorem Yu (al:xp s):decide (vG (sg s c)=xP)=zM (sg s c).text:=by
 unfold vG
 cases h:zM (sg s c).text with
 | true=>rw [qv h];rfl
 | false=>
  by_cases e:(sg s c).text=[]
  ·rw [show (sg s c).kind=0 from if_pos e];rfl
  ·rw [jR rfl e h,if_pos rfl]
   exact df fun z=>absurd (al 35 (w9 (c:=c) (by rw [z];exact .head _))) (by decide)
theorem MC (x:Rp s L σ₀ P c cuts σ):j9 σ .notin (.str (vG (sg s c))) (.ref L.lty)=some (!(L.named&&zM (sg s c).text)):=by
 show bd (oO (bd (dsA σ L.lty) fun d=>some (d.lookup (vG (sg s c))).isSome) _) (fun t=>some (!t))=_
 rw [xJ x.par.ty]
 show some (!((tyD L).lookup (vG (sg s c))).isSome)=_
 rw [J3,Yu x.al]
theorem QZ (x:Rc L σ₀ P σ) {t:List Nat} (h:decide (t=xP)=false):inV σ (.str t) (.ref L.lty)=some false:=by
 show oO (bd (dsA σ L.lty) fun d=>some (d.lookup t).isSome) _=_
 rw [xJ x.par.ty]
 show some ((tyD L).lookup t).isSome=_
 rw [J3,h,Bool.and_false]
theorem G5 (x:Rc L σ₀ P σ) (h:L.named=true):zD σ (.ref L.lty) (.str xP)=some (.obj "NameKindRule" []):=by
 show bd (dsA σ L.lty) (fun d=>d.lookup xP)=_
 rw [xJ x.par.ty]
 show (tyD L).lookup xP=_
 unfold tyD
 rw [h];rfl
theorem WA {l:List (List Nat)} {t:List Nat} {n:Nat} (ht:t.length≤n) (h:l.all (fun w=>Nat.blt n w.length)=true):decide (t∈l)=false:=
 df fun z=>absurd (Nat.le_of_ble_eq_true (List.all_eq_true.mp h t z)) (Nat.not_le.mpr (Nat.lt_succ_of_le ht))
theorem Wy {t:List Nat} (ht:t.length≤2):decide (t∈([[97,110,121],[117,110,107,110,111,119,110],[110,101,118,101,114],[117,110,100,101,102,105,110,101,100],[115,116,114,105,110,103],[110,117,109,98,101,114],[98,111,111,108,101,97,110],[111,98,106,101,99,116]]:List (List Nat)))=false:=WA ht rfl
theorem Wz {t:List Nat} (ht:t.length≤4):decide (t∈([[107,101,121,111,102],[114,101,97,100,111,110,108,121],[105,110,102,101,114]]:List (List Nat)))=false:=WA ht rfl
theorem VB (x:Rd s L σ₀ P c cuts σ) (hd:6≤d) (hn:zM (sg s c).text=true) (q:Q .none σ):ze (RC d) "refuse_odd_kind" [.ref L.lp] σ Q X:=
 zg kN (zi hd rfl) rfl fun _ hd=>JE x (zi hd rfl) (wB hn) (jZ x.toRp hd hn rfl (jZ x.toRp hd hn rfl (jZ x.toRp hd hn rfl (jZ x.toRp hd hn rfl q))))
theorem VL (x:Rd s L σ₀ P c cuts σ) (hd:8≤d) (hn:zM (sg s c).text=true) (q:∀ σ',Rd s L σ₀ P.next (sg s c).en cuts σ'→Q (.str (sg s c).text) σ'):ze (RC d) "read_dotted" [.ref L.lp] σ Q X:=
 zg uV (zi hd rfl) rfl fun _ hd=>xj x.toRp (zi hd rfl) (YS x (zi hd rfl) hn fun σ' y=>GS fun _=>gK y hd rfl (q σ' y))
end
noncomputable def dg (msg:List Nat) (a:Nat):Dg:=if msg=kj then ⟨1110,a,.tup []⟩ else ⟨1005,a,no5 msg⟩
noncomputable def KOk (s:List Nat) (named:Bool) (c c2:Nat) (cuts2:List Nat) (says:List Sd):Prop:=zM (sg s c).text=true∧((yy (sg s (sg s c).en)=false∧c2=(sg s c).en∧cuts2=[]∧says=[(1,(sg s c).text,(sg s c).at_)])∨
 ∃ said,yy (sg s (sg s c).en)=true∧ang s named (sg s c).en=⟨[],c2,0,cuts2,said⟩∧says=(1,(sg s c).text,(sg s c).at_)::kg said)
noncomputable def KA (s:List Nat) (named:Bool) (c c2:Nat) (cuts2:List Nat) (msg:List Nat) (n:Nat):Prop:=((named&&zM (sg s c).text)=false∧msg=kj∧c2=c∧cuts2=[]∧n=1)∨
 (zM (sg s c).text=true∧yy (sg s (sg s c).en)=true∧msg≠[]∧∃ said k,ang s named (sg s c).en=⟨msg,c2,k,cuts2,said⟩∧n=k+1)
mutual
theorem Xm:∀ (nd:Nd) (m:Nat),nd.says (m+1)=kg (nd.says m)
 | .mk n a ks,m=>congrArg ((m+1,n,a)::·) (j7 ks (m+1))
theorem j7:∀ (nds:List Nd) (m:Nat),zI nds (m+1)=kg (zI nds m)
 | [],_=>rfl
 | k::ks,m=>(congr (congrArg HAppend.hAppend (Xm k m)) (j7 ks m)).trans List.map_append.symm
end
structure Et (s:List Nat) (named:Bool) (tk0:List Tk) (sp0:List (Nat×Tk)) (c:Nat) (nd:Nd) (tk:List Tk) (sp:List (Nat×Tk)) (c2:Nat) (cuts2:List Nat):Prop where
 trn:Trn tk0 sp0 tk sp
 lt:c < c2
 hgt:nd.height+cl s c2≤1+cl s c
 siz:nd.size+c≤c2
 itr:∀ m cu sa r,Itr s named (m+1) false c2 (cu++cuts2) (sa++nd.says (m+1)) r→Itr s named (m+1) true c cu sa r
 ok:KOk s named c c2 cuts2 (nd.says 1)
structure Ob (s:List Nat) (named:Bool) (tk0:List Tk) (sp0:List (Nat×Tk)) (c:Nat) (msg:List Nat) (n:Nat) (tk:List Tk) (sp:List (Nat×Tk)) (c2:Nat) (cuts2:List Nat):Prop where
 trn:Trn tk0 sp0 tk sp
 le:c≤c2
 cnt:n+cl s c2≤1+cl s c
 itr:∀ m cu sa,∃ sa',Itr s named (m+1) true c cu sa ⟨msg,c2,m+n,cu++cuts2,sa'⟩
 bad:KA s named c c2 cuts2 msg n
structure JP (s:List Nat) (named:Bool) (tk0:List Tk) (sp0:List (Nat×Tk)) (c:Nat) (nds:List Nd) (tk:List Tk) (sp:List (Nat×Tk)) (c2:Nat) (cuts2:List Nat):Prop where
 trn:Trn tk0 sp0 tk sp
 lt:c < c2
 hgt:zP nds+cl s c2≤cl s c
 up:cl s c2+1≤cl s c
 siz:zS nds+c < c2
 txt:(sg s c).text=[60]
 itr:∀ m cu sa r,Itr s named m false c2 (cu++cuts2) (sa++zI nds (m+1)) r→Itr s named (m+1) true (sg s c).en cu sa r
structure XZ (s:List Nat) (named:Bool) (tk0:List Tk) (sp0:List (Nat×Tk)) (c:Nat) (msg:List Nat) (n:Nat) (tk:List Tk) (sp:List (Nat×Tk)) (c2:Nat) (cuts2:List Nat):Prop where
 trn:Trn tk0 sp0 tk sp
 le:c≤c2
 cnt:n+cl s c2≤cl s c
 itr:(sg s c).text=[60]→∀ m cu sa,∃ sa',Itr s named (m+1) true (sg s c).en cu sa ⟨msg,c2,m+n,cu++cuts2,sa'⟩
 no:(sg s c).text≠[60]→msg=[60]∧c2=c∧n=0∧cuts2=[]
 ne:msg≠[]
noncomputable def PS.bad (P:PS) (a:Nat) (tk:List Tk) (sp:List (Nat×Tk)) (g:Dg) (dp:Int) (nc:Bool):PS:=⟨{P.sc with at_:=a,deep:=dp,nocond:=nc},P.lc,tk,P.rows++[g],sp,P.saved⟩
noncomputable def PS.nc (P:PS) (b:Bool):PS:={P with sc:={P.sc with nocond:=b}}
noncomputable def KQ (s:List Nat) (L:PL) (σ₀:St) (P:PS) (c:Nat) (cuts:List Nat) (Q:V→St→Prop):Prop:=∀ nd a tk sp c2 cuts2 σ',Et s L.named P.tk P.splits c nd tk sp c2 cuts2→Rd s L σ₀ (P.mv a tk sp) c2 (cuts++cuts2) σ'→Q nd.v σ'
noncomputable def KX (s:List Nat) (L:PL) (σ₀:St) (P:PS) (c:Nat) (cuts:List Nat) (j:Nat) (X:String→St→Prop):Prop:=∀ msg n a tk sp c2 cuts2 σ',Ob s L.named P.tk P.splits c msg (n+j) tk sp c2 cuts2→Rp s L σ₀ (P.bad a tk sp (dg msg (sg s c2).at_) (P.sc.deep+(n:Int)) false) c2 (cuts++cuts2) σ'→X "ParseStop" σ'
noncomputable def RQ (s:List Nat) (L:PL) (σ₀:St) (P:PS) (c:Nat) (cuts:List Nat) (Q:V→St→Prop):Prop:=∀ l nds a tk sp c2 cuts2 σ',JP s L.named P.tk P.splits c nds tk sp c2 cuts2→Rd s L σ₀ (P.mv a tk sp) c2 (cuts++cuts2) σ'→σ₀.m l=none→rk l=false→σ'.m l=some (.lst (xr nds))→Q (.ref l) σ'
noncomputable def RX (s:List Nat) (L:PL) (σ₀:St) (P:PS) (c:Nat) (cuts:List Nat) (X:String→St→Prop):Prop:=∀ msg n a tk sp c2 cuts2 σ',XZ s L.named P.tk P.splits c msg n tk sp c2 cuts2→Rp s L σ₀ (P.bad a tk sp (dg msg (sg s c2).at_) (P.sc.deep+(n:Int)) (if n=0 then P.sc.nocond else false)) c2 (cuts++cuts2) σ'→X "ParseStop" σ'
structure Lim (s:List Nat) (dp:Int) (c:Nat) (n:Int):Prop where
 up:dp+(cl s c:Int)≤n
 lo:-1≤dp
noncomputable def vC (s:List Nat) (L:PL) (c0:Nat):Prop:=∀ {P:PS} {σ₀ σ:St} {c:Nat} {cuts:List Nat} {d:Nat} {Q:V→St→Prop} {X:String→St→Prop},c0 < c→Rd s L σ₀ P c cuts σ→Lim s P.sc.deep c 40→24 * cl s c+38≤d→RQ s L σ₀ P c cuts Q→RX s L σ₀ P c cuts X→ze (RC d) "read_type_args" [.ref L.lp] σ Q X
section
variable {s:List Nat} {L:PL} {P:PS} {σ₀ σ σ':St} {c:Nat} {cuts:List Nat} {d k:Nat} {Q:V→St→Prop} {X:String→St→Prop}
theorem Lim.at {dp n:Int} (h:Lim s dp c n) {c':Nat} (hc:c≤c'):Lim s dp c' n:=⟨Int.le_trans (Int.add_le_add_left (Int.ofNat_le.mpr (yl hc)) _) h.up,h.lo⟩
theorem Rd.bd (x:Rd s L σ₀ P c cuts σ) {l:Loc} (h:σ₀.m l=none) (r:rk l=false):Rd s L σ₀ P c cuts (σ.bump.drop l):=⟨⟨x.toRc.bump.drop h r,x.gd,x.al,x.pl,x.sb⟩,x.rw_⟩
theorem Rd.nw (x:Rd s L σ₀ P c cuts σ) (k:Nat) (cl:zu):Rd s L σ₀ P c cuts (σ.new k cl):=⟨⟨x.toRc.sav (zt.new x.wf k cl) (x.wf.new k cl) (Nat.le_succ _),x.gd,x.al,x.pl,x.sb⟩,x.rw_⟩
theorem Rc.no (x:Rc L σ₀ P σ) {l:Loc} (h:σ.m l=none) (o:own L.i l=false):σ₀.m l=none:=by
 cases e:σ₀.m l with
 | none=>rfl
 | some c=>exact absurd ((x.kp.2 l c e o).symm.trans h) nofun
theorem xf {i:Nat} {l:Loc} (h:rk l=false):own i l=false:=by
 unfold own
 cases e:[60,12,1,21,22,6,7].contains l.2.1 with
 | false=>rfl
 | true=>exact zk (h.symm.trans ((by decide:∀ k∈[60,12,1,21,22,6,7],[60,12,61,1,13,14,15,16,19,20,21,22,6,7].contains k=true) _ (List.contains_iff_mem.mp e)))
theorem jg {t:List Nat} (h1:t≠[]) (h2:zM t=false):sgn s c t=decide ((sg s c).text=t):=by
 unfold sgn
 by_cases q:(sg s c).text=t
 ·rw [dt q,dt (jR q h1 h2)];rfl
 ·rw [df q,Bool.and_false]
theorem uT:yy (sg s c)=(sgn s c [60]&&!(sg s c).line):=by rw [jg (List.cons_ne_nil _ _) rfl];rfl
theorem dlc {n:Nat} (h:24 * cl s c+n≤d) {c':Nat} (hc:c≤c') (e:Nat.ble k n=true):24 * cl s c'+k≤d:=Nat.le_trans (Nat.add_le_add (Nat.mul_le_mul_left 24 (yl hc)) (Nat.le_of_ble_eq_true e)) h
theorem Hw (x:Rd s L σ₀ P c cuts σ) (hR:vC s L c) (hnm:zM (sg s c).text=true) (hL:L.named=true) (hnc:P.sc.nocond=false) (lm:Lim s P.sc.deep c 40) {ov:V} (hd:24 * cl s c+40≤d) (q:KQ s L σ₀ P c cuts Q) (r:KX s L σ₀ P c cuts 1 X):ze (RC d) "NameKindRule.take" [ov,.ref L.lp,.none] σ Q X:=by
 have ne:=wB hnm
 obtain ⟨ce,ce'⟩:=zN ne
 have wl:(sg s c).tk.text.length≤2:=Nat.le_trans (Nat.le_of_eq (WE hnm)) (by decide)
 refine zg (k:=24 * cl s c+38) jB hd rfl fun d hd=>xj x.toRp (dla hd rfl) ((g_ ZB) (m_f (Wy wl) (VB x (dla hd rfl) hnm (VL x (dla hd rfl) hnm fun σ1 y=>⟨Nat.zero_le _,?_⟩))))
 have m2:(σ1.new 200 (.lst [])).m (σ1.loc 200)=some (.lst []):=zp
 have no:σ₀.m (σ1.loc 200)=none:=y.no (y.wf.none (Nat.le_refl _)) rfl
 have y:=y.nw 200 (.lst [])
 have rk0:rk (σ1.loc 200)=false:=rfl
 generalize σ1.loc 200=l at *
 generalize σ1.new 200 (.lst [])=σ2 at *
 have hc:=Nat.le_of_lt ce
 have flat:yy (sg s (sg s c).en)=false→ze (RC d) "twig" [.int 81,.str (sg s c).text,.ref l,.int ((sg s c).at_:Int)] σ2 Q X:=fun ho=>
  Vz y.wf (dla hd rfl) m2 (q (.mk (sg s c).text (sg s c).at_ []) _ _ _ _ [] _ ⟨.refl,ce,Nat.add_le_add_left (yl hc) 1,Nat.succ_add_eq_add_succ 0 c▸Nat.zero_add (c+1)▸ce,fun m cu sa r hi=>.go (jx (by rw [hL,hnm];rfl) ho) (List.append_nil cu▸hi),hnm,.inl ⟨ho,rfl,rfl,rfl⟩⟩ (by rw [List.append_nil];exact y.bd no rk0))
 refine jY y.toRp (dla hd rfl) (zC (fun h1=>xj y.toRp (dla hd rfl) (zC (fun h2=>?_) fun h2=>?_)) fun h1=>m_f h1 ?_)
 ·have hop:yy (sg s (sg s c).en)=true:=by rw [uT,h1];exact h2
  refine hR ce y (lm.at hc) (dlc hd hc rfl) (fun l3 nds a tk sp c2 cuts2 σ3 ok y no3 rk3 m3=>(g_ wH) (Vz y.wf (dla hd rfl) m3 (q (.mk (sg s c).text (sg s c).at_ nds) a tk sp c2 cuts2 _ ⟨ok.trn,Nat.lt_trans ce ok.lt,?_,?_,fun m cu sa r hi=>.go (xM (by rw [hL,hnm];rfl) hop) (ok.itr (m+1) cu _ r (by rw [List.append_assoc];exact hi)),hnm,.inr ⟨_,hop,Ang.eq (.go ok.txt (ok.itr 0 [] [] _ (.fin rfl))),congrArg (_::·) (j7 nds 1)⟩⟩ (y.bd no3 rk3)))) fun msg n a tk sp c2 cuts2 σ3 bad y=>?_
  ·exact Nat.le_trans (Nat.le_of_eq (Nat.add_assoc 1 _ _)) (Nat.add_le_add_left (Nat.le_trans ok.hgt (yl hc)) 1)
  ·exact Nat.le_trans (Nat.le_of_eq (by show 1+zS nds+c=_;rw [Nat.add_comm 1,Nat.add_assoc,Nat.add_comm 1])) (Nat.le_trans (Nat.add_le_add_left ce _) (Nat.le_of_lt ok.siz))
  ·have txt:=d_t (zb hop).1
   have y':=(congrArg (fun b=>Rp s L σ₀ (P.next.bad a tk sp (dg msg (sg s c2).at_) (P.sc.deep+(n:Int)) b) c2 (cuts++cuts2) σ3) (show (if n=0 then P.sc.nocond else false)=false by rw [hnc,ite_self])).mp y
   refine r msg n a tk sp c2 cuts2 σ3 ⟨bad.trn,Nat.le_trans hc bad.le,?_,fun m cu sa=>?_,.inr ⟨hnm,hop,bad.ne,?_⟩⟩ y'
   ·exact Nat.le_trans (Nat.le_of_eq (by rw [Nat.add_right_comm,Nat.add_comm])) (Nat.add_le_add_left (Nat.le_trans bad.cnt (yl hc)) 1)
   ·obtain ⟨sa',hi⟩:=bad.itr txt (m+1) cu (sa++[(m+1,(sg s c).text,(sg s c).at_)])
    exact ⟨sa',.go (xM (by rw [hL,hnm];rfl) hop) (Nat.succ_add_eq_add_succ m n▸hi)⟩
   ·obtain ⟨sa',hi⟩:=bad.itr txt 0 [] []
    exact ⟨sa',_,Ang.eq (.go txt hi),congrArg Nat.succ (Nat.zero_add n).symm⟩
 ·exact (g_ wH) (flat (by rw [uT,h1];exact h2))
 ·exact (g_ wH) (flat (by rw [uT,h1];rfl))
theorem qP (x:Rd s L σ₀ P c cuts σ) (hR:vC s L c) (lm:Lim s P.sc.deep c 40) (hd:24 * cl s c+42≤d) (q:KQ s L σ₀ P c cuts Q) (r:KX s L σ₀ P c cuts 1 X):ze (RC d) "read_hanging" [.ref L.lp] σ Q X:=by
 refine zg (k:=24 * cl s c+40) ud hd rfl fun d hd=>x.fnc (x.st (P.nc false).sc rfl rfl rfl fun σ1 y=>xj y.toRp (dla hd rfl) (YR (dla hd rfl) (y.fty ((g_ (MC y.toRp)) (zC (fun h=>?_) fun h=>?_)))))
 ·have h:=ya h
  refine y.rv rfl rfl ⟨Nat.zero_le _,yL (ZN y (dla hd rfl) ⟨by decide,by decide⟩ fun σ' z=>r kj 0 P.sc.at_ P.tk P.splits c [] σ' ⟨.refl,Nat.le_refl _,Nat.le_refl _,fun m cu sa=>⟨sa,.fin ?_⟩,.inl ⟨h,rfl,rfl,rfl,rfl⟩⟩ ?_)⟩
  ·rw [List.append_nil];exact vg h
  ·rw [List.append_nil]
   exact (congrArg (fun i=>Rp s L σ₀ ((P.nc false).bad P.sc.at_ P.tk P.splits ⟨1110,(sg s c).at_,.tup []⟩ i false) c cuts σ') (Int.add_zero _)).mpr z
 ·have h:=zb (vF h)
  refine y.fty ?_
  rw [show vG (sg s c)=xP from d_t ((Yu x.al).trans h.2)]
  refine (g_ (G5 y.toRc h.1)) (yL (Hw y hR h.2 h.1 rfl lm hd (fun nd a tk sp c2 cuts2 σ2 ok y=>GS fun _=>ZM y.toRp (dla hd rfl) rfl (y.st (P.mv a tk sp).sc rfl rfl rfl fun σ3 z=>q nd a tk sp c2 cuts2 σ3 ok z)) r))
theorem XQ (x:Rd s L σ₀ P c cuts σ) (hR:vC s L c) (lm:Lim s P.sc.deep c 40) (hd:24 * cl s c+44≤d) (q:KQ s L σ₀ P c cuts Q) (r:KX s L σ₀ P c cuts 1 X):ze (RC d) "read_operator" [.ref L.lp] σ Q X:=
 zg (k:=24 * cl s c+42) vp hd rfl fun d hd=>xj x.toRp (dla hd rfl) ((g_ xS) (zC (fun h=>(g_ XE) (m_f (Wz (Nat.le_succ_of_le vi)) (m_f (Wz (Nat.le_succ_of_le vi)) (qP x hR lm hd q r)))) fun h=>m_f h (qP x hR lm hd q r)))
theorem Gz (x:Rd s L σ₀ P c cuts σ) (hR:vC s L c) (lm:Lim s P.sc.deep c 40) (hd:24 * cl s c+46≤d) (q:KQ s L σ₀ P c cuts Q) (r:KX s L σ₀ P c cuts 1 X):ze (RC d) "read_inter" [.ref L.lp] σ Q X:=
 zg (k:=24 * cl s c+44) gZ hd rfl fun d hd=>gK x (dla hd rfl) rfl (XQ x hR lm hd (fun nd a tk sp c2 cuts2 σ2 ok y=>ZM y.toRp (dla hd rfl) rfl (q nd a tk sp c2 cuts2 σ2 ok y)) r)
theorem Gv (x:Rd s L σ₀ P c cuts σ) (hR:vC s L c) (lm:Lim s P.sc.deep c 40) (hd:24 * cl s c+48≤d) (q:KQ s L σ₀ P c cuts Q) (r:KX s L σ₀ P c cuts 1 X):ze (RC d) "read_union" [.ref L.lp] σ Q X:=
 zg (k:=24 * cl s c+46) gY hd rfl fun d hd=>gK x (dla hd rfl) rfl (Gz x hR lm hd (fun nd a tk sp c2 cuts2 σ2 ok y=>ZM y.toRp (dla hd rfl) rfl (q nd a tk sp c2 cuts2 σ2 ok y)) r)
theorem VM (x:Rd s L σ₀ P c cuts σ) (hR:vC s L c) (lm:Lim s P.sc.deep c 40) (hd:24 * cl s c+50≤d) (q:KQ s L σ₀ P c cuts Q) (r:KX s L σ₀ P c cuts 1 X):ze (RC d) "read_branch" [.ref L.lp] σ Q X:=
 zg (k:=24 * cl s c+48) uW hd rfl fun d hd=>x.fty ((g_ (QZ x.toRc rfl)) (Gv x hR lm hd q r))
theorem VD (x:Rd s L σ₀ P c cuts σ) (hR:vC s L c) (lm:Lim s P.sc.deep c 40) (hd:24 * cl s c+52≤d) (q:KQ s L σ₀ P c cuts Q) (r:KX s L σ₀ P c cuts 1 X):ze (RC d) "ptypes_read_kind" [.ref L.lp] σ Q X:=
 zg (k:=24 * cl s c+50) k8 hd rfl fun d hd=>VM x hR lm hd (fun nd a tk sp c2 cuts2 σ2 ok y=>y.fnc (zC (fun h=>m_t h (q nd a tk sp c2 cuts2 σ2 ok y)) fun h=>Ks y.toRp (dla hd rfl) (q nd a tk sp c2 cuts2 σ2 ok y))) r
theorem Gx (x:Rd s L σ₀ P c cuts σ) (hR:vC s L c) (lm:Lim s P.sc.deep c 40) {ov:V} (hd:24 * cl s c+54≤d) (q:KQ s L σ₀ P c cuts Q) (r:KX s L σ₀ P c cuts 1 X):ze (RC d) "TypePart.parse" [ov,.ref L.lp] σ Q X:=
 zg (k:=24 * cl s c+52) wq hd rfl fun d hd=>VD x hR lm hd q r
end
section
variable {s:List Nat} {L:PL} {P:PS} {σ₀ σ σ':St} {c:Nat} {cuts:List Nat} {d k:Nat} {Q:V→St→Prop} {X:String→St→Prop}
theorem Rd.sv (x:Rd s L σ₀ P c cuts σ) (h:zt σ σ') (w:Wf σ') (n:σ.nx≤σ'.nx):Rd s L σ₀ P c cuts σ':=⟨⟨x.toRc.sav h w n,x.gd,x.al,x.pl,x.sb⟩,x.rw_⟩
theorem YA (x:Rc L σ₀ P σ) {n:Int} (hn:n=1∨n=2):j9 σ .notin (.int n) (.ref L.lpa)=some false:=by
 show bd (bd (diA σ L.lpa) fun d=>some (d.lookup n).isSome) (fun t=>some (!t))=_
 rw [gH x.par.pa]
 rcases hn with h | h <;> rw [h] <;> rfl
theorem XC (x:Rc L σ₀ P σ) {n:Int} (hn:n=1∨n=2):zD σ (.ref L.lpa) (.int n)=some (.obj "TypePart" []):=by
 show oO (oO (bd (lsA σ L.lpa) fun l=>bd (ym n l.length) fun j=>l[j]?) (bd (diA σ L.lpa) fun d=>d.lookup n)) _=_
 rw [gH x.par.pa,show lsA σ L.lpa=none by unfold lsA;rw [x.par.pa];rfl]
 rcases hn with h | h <;> rw [h] <;> rfl
theorem UO {n:Int} (hn:n=1∨n=2):decide (n∈[(3:Int),4,5,6])=false:=by
 rcases hn with h | h <;> rw [h] <;> rfl
theorem HO {a:Int} {n:Nat}:a+1+(n:Int)=a+((n+1:Nat):Int):=by rw [Int.add_assoc,Int.add_comm 1];rfl
theorem Zw {dp:Int} (h:Lim s dp c 39):dp < 40∧cl s c≤40:=⟨Int.lt_of_le_of_lt (Int.le_trans (Int.le_add_of_nonneg_right (Int.natCast_nonneg _)) h.up) (by decide),by have:=h.up;have:=h.lo;omega⟩
theorem VE (x:Rd s L σ₀ P c cuts σ) (hR:vC s L c) (lm:Lim s P.sc.deep c 39) {n:Int} (hn:n=1∨n=2) (hd:24 * cl s c+56≤d) (q:KQ s L σ₀ P c cuts Q) (r:KX s L σ₀ P c cuts 0 X):ze (RC d) "Parser.part" [.ref L.lp,.int n] σ Q X:=by
 have ⟨l1,l2⟩:=Zw lm
 have lm':Lim s (P.sc.deep+1) c 40:=⟨by have:=lm.up;omega,by have:=lm.lo;omega⟩
 refine zg (k:=24 * cl s c+54) g8 hd rfl fun d hd=>x.fpa ((g_ (YA x.toRc hn)) (HC x (dla hd rfl) l1 fun σ1 y=>(g_ MJ) (m_f (UO hn) (y.fpa ((g_ (XC y.toRc hn)) (yL (Gx y hR lm' hd (fun nd a tk sp c2 cuts2 σ2 ok y=>?_) fun msg n a tk sp c2 cuts2 σ2 bad z=>?_)))))))
 ·have fin:∀ σ3,Rd s L σ₀ (((P.dp (P.sc.deep+1)).mv a tk sp).dp (P.sc.deep+1 - 1)) c2 (cuts++cuts2) σ3→Q nd.v σ3:=fun σ3 z=>q nd a tk sp c2 cuts2 σ3 ok (by rw [Int.add_sub_cancel] at z;exact z)
  refine y.fdp (zC (fun _=>gN (dla hd rfl) ?_ ?_ fun σ3 h3 w3 n3=>O3 (y.sv h3 w3 n3) (dla hd rfl) fin) fun _=>O3 y (dla hd rfl) fin)
  ·exact Nat.le_trans (Nat.le_trans (Nat.le_add_right _ _) ok.hgt) (Nat.le_trans (Nat.add_le_add_left l2 1) (by decide))
  ·exact Nat.le_trans (Nat.le_trans (Nat.le_add_right _ _) ok.siz) (Nat.le_trans y.pl.le (Nat.le_trans x.hs (by decide)))
 ·exact r msg (n+1) a tk sp c2 cuts2 σ2 bad ((congrArg (fun i=>Rp s L σ₀ (P.bad a tk sp (dg msg (sg s c2).at_) i false) c2 (cuts++cuts2) σ2) HO).mp z)
theorem YT (x:Rd s L σ₀ P c cuts σ) (hR:vC s L c) (lm:Lim s P.sc.deep c 39) (hd:24 * cl s c+58≤d) (q:KQ s L σ₀ P c cuts Q) (r:KX s L σ₀ P c cuts 0 X):ze (RC d) "kind_with" [.ref L.lp,.bool false] σ Q X:=
 zg (k:=24 * cl s c+56) Z6 hd rfl fun _ hd=>x.fnc (x.st (P.nc false).sc rfl rfl rfl fun _ y=>y.rv rfl rfl ((g_ jI) (yL (VE y hR lm (.inl rfl) hd (fun nd a tk sp c2 cuts2 _ ok z=>z.st (P.mv a tk sp).sc rfl rfl rfl fun σ' z=>q nd a tk sp c2 cuts2 σ' ok z) r))))
end
theorem J4 {s:List Nat} {c:Nat} (h:pySl (sg s c).text 0 1=[62]):(sg s c).text=[62]∨(sg s c).text=[62,61]:=by
 rcases Yf (s:=s) (a:=skp s c) with q | q
 ·refine .inl ?_
  have e:(sg s c).text=pySl s (skp s c) (skp s c+1):=q
  have l:(sg s c).text.length≤1:=by rw [e,xe,List.length_take];exact Nat.min_le_left _ _
  rw [show pySl (sg s c).text 0 1=(sg s c).text from List.take_of_length_le l] at h
  exact h
 ·exact (by decide:∀ t∈ops,pySl t 0 1=[62]→t=[62]∨t=[62,61]) _ q h
theorem ZV {P:PS} {t b:Tk}:P.split t b=P.mv (P.split t b).sc.at_ (P.split t b).tk (P.split t b).splits:=by
 unfold PS.split;split <;> rfl
theorem KA.ne {s:List Nat} {named:Bool} {c c2:Nat} {cuts2:List Nat} {msg:List Nat} {n:Nat} (h:KA s named c c2 cuts2 msg n):msg≠[]∧n≠0:=by
 rcases h with ⟨_,e,_,_,e'⟩ | ⟨_,_,h,_,_,_,e'⟩
 ·rw [e,e'];exact ⟨List.cons_ne_nil _ _,by decide⟩
 ·rw [e'];exact ⟨h,Nat.succ_ne_zero _⟩
noncomputable def KwH (s:List Nat) (L:PL) (c0:Nat):Prop:=∀ {P:PS} {σ₀ σ:St} {c:Nat} {cuts:List Nat} {d:Nat} {Q:V→St→Prop} {X:String→St→Prop},c0 < c→Rd s L σ₀ P c cuts σ→Lim s P.sc.deep c 39→24 * cl s c+58≤d→KQ s L σ₀ P c cuts Q→KX s L σ₀ P c cuts 0 X→ze (RC d) "kind_with" [.ref L.lp,.bool false] σ Q X
inductive RI (s:List Nat) (L:PL) (σ₀:St) (P:PS) (c:Nat) (cuts:List Nat) (l:Loc):Nat→Frm→St→Prop
 | mk {nds:List Nd} {a:Nat} {tk:List Tk} {sp:List (Nat×Tk)} {c2:Nat} {cuts2:List Nat} {σ:St} {vs:List V}:Rd s L σ₀ (P.mv a tk sp) c2 (cuts++cuts2) σ→σ.m l=some (.lst vs)→xr nds=vs→Trn P.tk P.splits tk sp→c < c2→cl s c2+1≤cl s c→zP nds+cl s c2≤cl s c→zS nds+c < c2→
  (∀ m cu sa r,Itr s L.named (m+1) false c2 (cu++cuts2) (sa++zI nds (m+1)) r→Itr s L.named (m+1) true (sg s c).en cu sa r)→RI s L σ₀ P c cuts l (s.length - c2) [("p",.ref L.lp),("args",.ref l)] σ
section
variable {s:List Nat} {L:PL} {P:PS} {σ₀ σ σ':St} {c:Nat} {cuts:List Nat} {d k:Nat} {Q:V→St→Prop} {X:String→St→Prop}
theorem Rd.set_ (x:Rd s L σ₀ P c cuts σ) {l:Loc} (h:σ₀.m l=none) (r:rk l=false) {c0:zu} (hm:σ.m l=some c0) (c1:zu):Rd s L σ₀ P c cuts (σ.set l c1):=⟨⟨x.toRc.set h r (x.wf _ _ hm) c1,x.gd,x.al,x.pl,x.sb⟩,x.rw_⟩
theorem UX {a b k n:Nat} (h:a+k≤n) (h':b+k≤n):max a b+k≤n:=(Nat.le_total a b).elim (fun z=>by rw [Nat.max_eq_right z];exact h') fun z=>by rw [Nat.max_eq_left z];exact h
theorem Uw {a b c c2 e c3:Nat} (h:a+c < c2) (h1:c2 < e) (h2:b+e≤c3):a+b+c < c3:=by omega
theorem Itr.angle {named:Bool} {m c:Nat} {cu:List Nat} {sa:List Sd} {r:Res} (h:pySl (sg s c).text 0 1=[62]) {cu':List Nat} (e:(if (sg s c).text=[62,61] then cu++[(sg s c).at_] else cu)=cu') (x:Itr s named m false ((sg s c).at_+1) cu' sa r):Itr s named (m+1) false c cu sa r:=.go (xb h) (e▸x)
theorem WJ:∀ {ks:List Nd},(xr ks).length≤zS ks
 | []=>Nat.le_refl _
 | _::_=>Nat.le_trans (Nat.add_le_add WJ WI) (Nat.le_of_eq (Nat.add_comm _ _))
theorem dlt {n:Nat} (h:24 * cl s c+n≤d) {c':Nat} (hc:cl s c'+1≤cl s c) (e:Nat.ble k (n+24)=true):24 * cl s c'+k≤d:=Nat.le_trans (Nat.add_le_add_left (Nat.le_of_ble_eq_true e) _) (Nat.le_trans (by omega) h)
theorem ZX (h:sgn s c [62,61]=true):pySl (sg s c).text 0 1=[62]:=by rw [d_t (zb h).2];rfl
theorem VA (x:Rd s L σ₀ P c cuts σ) (hK:KwH s L c) (lm:Lim s P.sc.deep c 40) (hd:24 * cl s c+38≤d) (q:RQ s L σ₀ P c cuts Q) (r:RX s L σ₀ P c cuts X):ze (RC d) "read_type_args" [.ref L.lp] σ Q X:=by
 refine zg (k:=24 * cl s c+36) wo hd rfl fun d hd=>xB x (dla hd rfl) (List.cons_ne_nil _ _) (fun h σ1 y=>?_) fun h σ1 y=>?_
 rotate_left
 ·have h:(sg s c).text≠[60]:=d_f ((jg (List.cons_ne_nil _ _) rfl).symm.trans h)
  refine r [60] 0 P.sc.at_ P.tk P.splits c [] σ1 ⟨.refl,Nat.le_refl _,Nat.le_of_eq (Nat.zero_add _),fun z=>absurd z h,fun _=>⟨rfl,rfl,rfl,rfl⟩,List.cons_ne_nil _ _⟩ ?_
  rw [List.append_nil]
  exact (congrArg (fun i=>Rp s L σ₀ (P.bad P.sc.at_ P.tk P.splits ⟨1005,(sg s c).at_,no5 [60]⟩ i P.sc.nocond) c cuts σ1) (Int.add_zero _)).mpr y
 have ht:(sg s c).text=[60]:=d_t (zb h).2
 have lt1:=G0 ht
 have ⟨ce,ce'⟩:=zN (xq ht)
 have lmk:∀ {c':Nat},cl s c'+1≤cl s c→Lim s P.sc.deep c' 39:=fun {c'} h=>⟨by have:=lm.up;omega,lm.lo⟩
 refine hK ce y (lmk lt1) (dlt hd lt1 rfl) (fun nd a tk sp c2 cuts2 σ2 ok y=>⟨za (Nat.le_refl 1) rfl,?_⟩) fun msg n a tk sp c2 cuts2 σ2 bad y=>?_
 rotate_left
 ·have ⟨ne,n0⟩:=bad.bad.ne
  exact r msg n a tk sp c2 cuts2 σ2 ⟨bad.trn,Nat.le_trans (Nat.le_of_lt ce) bad.le,Nat.le_trans bad.cnt (Nat.le_trans (Nat.le_of_eq (Nat.add_comm _ _)) lt1),fun _=>bad.itr,fun z=>absurd ht z,ne⟩ (by rw [if_neg (show ¬ n=0 from n0)];exact y)
 have m0:(σ2.new 221 (.lst [nd.v])).m (σ2.loc 221)=some (.lst [nd.v]):=zp
 have no:σ₀.m (σ2.loc 221)=none:=y.no (y.wf.none (Nat.le_refl _)) rfl
 have y:=y.nw 221 (.lst [nd.v])
 have rk0:rk (σ2.loc 221)=false:=rfl
 generalize σ2.loc 221=l at *
 generalize σ2.new 221 (.lst [nd.v])=σ3 at *
 have sum:∀ {c':Nat},c2≤c'→cl s c'+1≤cl s c:=fun h=>Nat.le_trans (Nat.succ_le_succ (yl (Nat.le_trans (Nat.le_of_lt ok.lt) h))) lt1
 refine wG (RI s L σ₀ P c cuts l) 2 (.mk (nds:=[nd]) y m0 rfl ok.trn (Nat.lt_trans ce ok.lt) (sum (Nat.le_refl _)) ?_ ?_ fun m cu sa r hi=>ok.itr m cu sa r (List.append_nil (nd.says (m+1))▸hi)) ?_
 ·exact Nat.le_trans (Nat.le_trans (Nat.le_of_eq (by show max nd.height 0+_=_;rw [Nat.max_zero])) ok.hgt) (Nat.le_trans (Nat.le_of_eq (Nat.add_comm _ _)) lt1)
 ·exact Nat.lt_of_lt_of_le (Nat.add_lt_add_left ce _) ok.siz
 clear m0 y h ok sum
 intro n F σ4 I Q' X' qn qr qx
 cases I with
 | @mk nds a tk sp c2 cuts2 σ4 vs y hm ev trn lt up hgt siz itr=>
 refine jc y.re (dla hd rfl) (List.cons_ne_nil _ _) (fun h σ5 z=>?_) fun h=>wM y.re (dla hd rfl) (fun h2 σ5 z=>?_) (fun h2 σ5 z=>?_) fun h2 h3 σ5 z=>?_
 ·have hm5:=z.kp.2 _ _ hm (xf rk0)
  have hc:=(d_t (zb h).2:(sg s c2).text=[44])
  have ⟨e1,e2⟩:=zN (xq hc)
  have up':cl s (sg s c2).en+1≤cl s c:=Nat.le_trans (Nat.succ_le_succ (yl (Nat.le_of_lt e1))) up
  refine (g_ (zx hm5 (.inl rfl))) (hK (Nat.lt_trans lt e1) z.re (lmk up') (dlt hd up' rfl) (fun nd a tk sp c3 cuts3 σ6 ok w=>?_) fun msg n a tk sp c3 cuts3 σ6 bad w=>?_)
  ·have hm6:=w.kp.2 _ _ hm5 (xf rk0)
   have w:=y.on (z.on w)
   rw [List.append_assoc] at w
   refine xF hm6 ?_ (qn 2 (.mk (nds:=nds++[nd]) (w.set_ no rk0 hm6 _) zj (by rw [(yW (m:=0)).1,ev]) (trn.trans ok.trn) ?_ ?_ ?_ ?_ ?_) ?_)
   ·rw [← ev];exact Nat.lt_of_le_of_lt (Nat.le_trans WJ (Nat.le_trans (Nat.le_add_right _ c) (Nat.le_trans (Nat.le_of_lt siz) (Nat.le_trans y.pl.le x.hs)))) (by decide)
   ·exact Nat.lt_trans lt (Nat.lt_trans e1 ok.lt)
   ·exact Nat.le_trans (Nat.succ_le_succ (yl (Nat.le_of_lt ok.lt))) up'
   ·rw [(yW (m:=0)).2.2.1]
    exact UX (Nat.le_trans (Nat.add_le_add_left (yl (Nat.le_of_lt (Nat.lt_trans e1 ok.lt))) _) hgt) (Nat.le_trans ok.hgt (Nat.le_trans (Nat.le_of_eq (Nat.add_comm _ _)) up'))
   ·rw [(yW (m:=0)).2.1];exact Uw siz e1 ok.siz
   ·exact fun m cu sa r hi=>itr m cu sa r (.go (yZ hc) (ok.itr m (cu++cuts2) _ r (by rw [List.append_assoc,List.append_assoc,← yW.2.2.2];exact hi)))
   ·exact Nat.sub_lt_sub_left (Nat.lt_of_lt_of_le e1 e2) (Nat.lt_trans e1 ok.lt)
  ·have ⟨ne,n0⟩:=bad.bad.ne
   have w:=Rp.on (y.on z).toRc w
   rw [List.append_assoc] at w
   refine qx _ _ _ (r msg n a tk sp c3 (cuts2++cuts3) σ6 ⟨trn.trans bad.trn,Nat.le_trans (Nat.le_of_lt (Nat.lt_trans lt e1)) bad.le,Nat.le_trans bad.cnt (Nat.le_trans (Nat.le_of_eq (Nat.add_comm _ _)) up'),fun _ m cu sa=>?_,fun z=>absurd ht z,ne⟩ (by rw [if_neg (show ¬ n=0 from n0)];exact w))
   obtain ⟨sa',hi⟩:=bad.itr m (cu++cuts2) (sa++zI nds (m+1))
   rw [List.append_assoc] at hi
   exact ⟨sa',itr m cu sa _ (.go (yZ hc) hi)⟩
 ·have hc:=(d_t (zb h2).2:(sg s c2).text=[62,61])
  have w:=y.on z
  rw [ZV,List.append_assoc] at w
  have l2:c2 < (sg s c2).at_+1:=Nat.lt_succ_of_le jh
  exact q l nds _ _ _ _ _ σ5 ⟨trn.trans (vh (P:=P.mv a tk sp) y.pl.cur fun _ _=>y.pl.behind (xq hc)).1,Nat.lt_trans lt l2,Nat.le_trans (Nat.add_le_add_left (yl (Nat.le_of_lt l2)) _) hgt,Nat.le_trans (Nat.succ_le_succ (yl (Nat.le_of_lt l2))) up,Nat.lt_trans siz l2,ht,fun m cu sa r hi=>itr m cu sa r (.angle (ZX h2) (if_pos hc) (by rw [List.append_assoc];exact hi))⟩ w no rk0 (ev▸z.kp.2 _ _ hm (xf rk0))
 ·have hc:=(d_t (zb h2).2:(sg s c2).text=[62])
  have ⟨l2,_⟩:=zN (xq hc)
  have e:(sg s c2).en=(sg s c2).at_+1:=by rw [ZY,hc];rfl
  exact q l nds (a+1) tk sp _ _ σ5 ⟨trn,Nat.lt_trans lt l2,Nat.le_trans (Nat.add_le_add_left (yl (Nat.le_of_lt l2)) _) hgt,Nat.le_trans (Nat.succ_le_succ (yl (Nat.le_of_lt l2))) up,Nat.lt_trans siz l2,ht,fun m cu sa r hi=>itr m cu sa r (.angle (by rw [hc];rfl) (if_neg (by rw [hc];decide)) (e▸hi))⟩ (y.on z) no rk0 (ev▸z.kp.2 _ _ hm (xf rk0))
 ·have h1:(sg s c2).text≠[44]:=d_f ((jg (List.cons_ne_nil _ _) rfl).symm.trans h)
  have h4:pySl (sg s c2).text 0 1≠[62]:=fun z=>(J4 z).elim (d_f ((jg (List.cons_ne_nil _ _) rfl).symm.trans h3)) (d_f ((jg (List.cons_ne_nil _ _) rfl).symm.trans h2))
  refine r [62] 0 a tk sp c2 cuts2 σ5 ⟨trn,Nat.le_of_lt lt,Nat.le_trans (Nat.le_of_eq (Nat.zero_add _)) (Nat.le_trans (Nat.le_succ _) up),fun _ m cu sa=>⟨_,itr m cu sa _ (.fin (wa h1 h4))⟩,fun z=>absurd ht z,List.cons_ne_nil _ _⟩ ?_
  exact (congrArg (fun i=>Rp s L σ₀ (P.bad a tk sp ⟨1005,(sg s c2).at_,no5 [62]⟩ i P.sc.nocond) c2 (cuts++cuts2) σ5) (Int.add_zero _)).mpr (Rp.on y.toRc z)
theorem qB {s:List Nat} {L:PL}:∀ (n c0:Nat),s.length≤c0+n→KwH s L c0∧vC s L c0
 | 0,c0,h=>⟨fun hc x=>absurd (Nat.lt_of_lt_of_le hc x.pl.le) (Nat.not_lt.mpr h),fun hc x=>absurd (Nat.lt_of_lt_of_le hc x.pl.le) (Nat.not_lt.mpr h)⟩
 | n+1,c0,h=>by
  have ih:=qB (s:=s) (L:=L) n (c0+1) (Nat.le_trans h (Nat.le_of_eq (Nat.succ_add_eq_add_succ c0 n).symm))
  have up:∀ {c:Nat},c0 < c→KwH s L c∧vC s L c:=fun {c} hc=>⟨fun hc'=>ih.1 (Nat.lt_of_le_of_lt hc hc'),fun hc'=>ih.2 (Nat.lt_of_le_of_lt hc hc')⟩
  exact ⟨fun hc x lm hd q r=>YT x (up hc).2 lm hd q r,fun hc x lm hd q r=>VA x (up hc).1 lm hd q r⟩
theorem hO {s:List Nat} {L:PL} {c:Nat}:KwH s L c∧vC s L c:=qB s.length c (Nat.le_add_left _ _)
end
inductive Oc (l:Loc) (σ:St) (xs:List V) (n:Nat):Nat→Frm→St→Prop
 | mk {k:Nat} {σ':St}:(n+k≤xs.length∨k=0)→σ.set l (.lst (xs.take (n+k)))=σ'→Oc l σ xs n k [("rows",.ref l),("count",.int (n:Int))] σ'
section
variable {σ:St} {d k:Nat} {Q:V→St→Prop} {X:String→St→Prop}
theorem gL (hd:2≤d) {l:Loc} {xs:List V} (hl:σ.m l=some (.lst xs)) (hx:xs.length≤900000) {n:Nat} (q:Q .none (σ.set l (.lst (xs.take n)))):ze (RC d) "cut_rows" [.ref l,.int (n:Int)] σ Q X:=by
 refine zg Yi hd rfl fun _ _=>?_
 have tl:∀ {j:Nat},(xs.take j).length≤900000:=fun {j}=>Nat.le_trans (by rw [List.length_take];exact Nat.min_le_right _ _) hx
 refine wG (Oc l σ xs n) (n:=xs.length - n) 2 (.mk ?_ ?_) ?_
 ·rcases Nat.le_total n xs.length with h | h
  ·exact .inl (Nat.le_of_eq (Nat.add_sub_of_le h))
  ·exact .inr (Nat.sub_eq_zero_of_le h)
 ·rw [List.take_of_length_le (by rw [Nat.add_comm];exact Nat.le_add_of_sub_le (Nat.le_refl _)),jy hl]
 intro j F σ' I Q' X' qn qr qx
 cases I with
 | @mk σ' hj e=>
 rw [← e]
 refine (g_ (Jj zj)) ⟨Nat.le_trans tl (by decide),?_⟩
 cases j with
 | zero=>exact m_f (df (Int.not_lt.mpr (Int.ofNat_le.mpr (by rw [List.length_take];exact Nat.min_le_left _ _)))) q
 | succ j=>
  have hj:n+j < xs.length:=hj.elim id nofun
  have tk:xs.take (n+(j+1))=xs.take (n+j)++[xs[n+j]]:=List.take_succ_eq_append_getElem hj
  refine m_t (dt (Int.ofNat_lt.mpr (by rw [List.length_take,Nat.min_eq_left (show n+(j+1)≤xs.length from hj)];exact Nat.lt_succ_of_le (Nat.le_add_right _ _)))) ((g_ (zx zj (.inr (.inl rfl)))) (Jc (zj.trans (by rw [tk])) (Nat.lt_of_lt_of_le (by rw [List.length_take,Nat.min_eq_left (Nat.le_of_lt hj)];exact hj) hx) ?_))
  rw [set_set]
  exact qn 2 (.mk (.inl (Nat.le_of_lt hj)) rfl) (Nat.lt_succ_self _)
theorem Xh {l:Loc} {xs:List V} (h:σ.m l=some (.lst xs)) (hn:xs.length≤1000000) (q:Q (.ref (σ.loc k)) (σ.new k (.lst xs))):y0 k (.ref l) .none .none σ Q:=by
 unfold y0
 refine (g_ (zJ h)) ⟨hn,?_⟩
 rw [show pySl xs (0:Int).toNat (xs.length:Int).toNat=xs from List.take_of_length_le (Nat.le_refl _)]
 exact q
theorem Zs {l:Loc} (h:l.2.2 < σ.nx):l≠σ.loc k:=fun z=>Nat.lt_irrefl _ (z▸h:(σ.loc k).2.2 < σ.nx)
theorem xg {α:Type} {f:α→V} {l:Loc} {xs:List α} (h:σ.m l=some (.lst (xs.map f))):G1 σ (.ref l)=some xs.length:=(Jj h).trans (congrArg some (List.length_map f))
theorem new_set {l:Loc} {c c':zu} (h:l.2.2 < σ.nx):(σ.set l c).new k c'=(σ.new k c').set l c:=St.ext' (fun l'=>by
 by_cases q:l'=l
 ·rw [q,zj,xH (σ:=σ.set l c) (Zs h),zj]
 ·rw [zl q]
  by_cases q':l'=σ.loc k
  ·rw [q'];exact zp.trans zp.symm
  ·rw [xH (σ:=σ) q',xH (σ:=σ.set l c) q',zl q]) rfl rfl
theorem xy {l:Loc} {C n:String} {f:List (String×V)} {u:V} {c:zu} {QS:St→Prop} (h:l.2.2 < σ.nx) (hf:zG C n=true) (hl:f.length < 64) (q:QS ((σ.new k c).set l (.inst C (yo n u f)))):op (zO ((σ.set l (.inst C f)).new k c) (.ref l) n u) QS:=by
 rw [new_set h];exact zU hf hl q
end
structure gW (P:PS):Prop where
 rows:P.rows.length≤900000
 spl:P.splits.length≤800000
 cov:P.lc.cs.length≤1000
 lab:P.lc.ls.length≤1000
 sav:P.saved.length≤100
noncomputable def zT (P:PS) (a b:Nat):Mk:=⟨P.sc,⟨b,P.lc.ls,a,P.lc.cs⟩,P.rows.length,P.splits.length⟩
section
variable {L:PL} {P:PS} {σ₀ σ σ':St} {d k:Nat} {Q:V→St→Prop} {X:String→St→Prop}
theorem QN (x:Rc L σ₀ P σ) (hd:2≤d) (ho:σ.ow=L.i) (sm:gW P) (hk:rk (σ.loc k)=false) (q:Q ((zT P (σ.nx+1) (σ.nx+2)).v L) ((σ.bump.new 6 (.lst P.lc.cs)).new 7 (.lst P.lc.ls))):ju (RC d) k "Mark" [.ref L.lp] σ Q X:=by
 have fo:∀ n∈["at","told","splits","covers","deep","pending","allow_in","in_func","in_loop","in_switch","labels","no_cond","ret_bar","in_literal"],zG "Mark" n=true:=by decide +kernel
 have no:σ.m (σ.loc k)=none:=x.wf.none (Nat.le_refl _)
 have no':σ₀.m (σ.loc k)=none:=x.no no (xf hk)
 have nx:(σ.loc k).2.2 < σ.bump.nx:=Nat.lt_succ_self _
 refine vr rfl (zg Zl hd rfl fun _ _=>?_)
 generalize σ.loc k=lm at *
 have X1:∀ c,Rc L σ₀ P (σ.bump.set lm c):=fun c=>x.bump.set no' hk nx c
 have X2:∀ c,Rc L σ₀ P ((σ.bump.new 6 (.lst P.lc.cs)).set lm c):=fun c=>(x.bump.sav (zt.new x.wf.bump 6 _) (x.wf.bump.new _ _) (Nat.le_succ _)).set no' hk (Nat.lt_succ_of_lt nx) c
 refine (X1 _).fat (zU (fo _ (.head _)) (za (Nat.le_refl 1) rfl) ((X1 _).fdg ((g_ ((gA (X1 _).par.d).trans rfl)) ((g_ (xg (X1 _).par.r)) ⟨?_,zU (fo _ (.tail _ (.head _))) (za (Nat.le_refl 2) rfl) ((X1 _).fsp ((g_ (xg (X1 _).par.sp)) ⟨?_,zU (fo _ (.tail _ (.tail _ (.head _)))) (za (Nat.le_refl 3) rfl) ((X1 _).fco (Xh (X1 _).par.lc.2 ?_ (xy nx (fo _ (.tail _ (.tail _ (.tail _ (.head _))))) (za (Nat.le_refl 4) rfl) ?_)))⟩))⟩))))
 ·exact Nat.le_trans sm.rows (by decide)
 ·exact Nat.le_trans sm.spl (by decide)
 ·exact Nat.le_trans sm.cov (by decide)
 have X3:∀ c,Rc L σ₀ P (((σ.bump.new 6 (.lst P.lc.cs)).new 7 (.lst P.lc.ls)).set lm c):=fun c=>((x.bump.sav (zt.new x.wf.bump 6 _) (x.wf.bump.new _ _) (Nat.le_succ _)).sav (zt.new (x.wf.bump.new _ _) 7 _) ((x.wf.bump.new _ _).new _ _) (Nat.le_succ _)).set no' hk (Nat.lt_succ_of_lt (Nat.lt_succ_of_lt nx)) c
 have no3:((σ.bump.new 6 (.lst P.lc.cs)).new 7 (.lst P.lc.ls)).m lm=none:=(xH (Zs (Nat.lt_succ_of_lt nx))).trans ((xH (Zs nx)).trans no)
 unfold Mk.v Mk.f PL.lab PL.cov at q
 rw [← ho] at q
 refine (X2 _).fdp (zU (fo _ (.tail _ (.tail _ (.tail _ (.tail _ (.head _)))))) (za (Nat.le_refl 5) rfl) ((X2 _).fpe (zU (fo _ (.tail _ (.tail _ (.tail _ (.tail _ (.tail _ (.head _))))))) (za (Nat.le_refl 6) rfl) ((X2 _).fal (zU (fo _ (.tail _ (.tail _ (.tail _ (.tail _ (.tail _ (.tail _ (.head _)))))))) (za (Nat.le_refl 7) rfl) ((X2 _).fif (zU (fo _ (.tail _ (.tail _ (.tail _ (.tail _ (.tail _ (.tail _ (.tail _ (.head _))))))))) (za (Nat.le_refl 8) rfl) ((X2 _).fil (zU (fo _ (.tail _ (.tail _ (.tail _ (.tail _ (.tail _ (.tail _ (.tail _ (.tail _ (.head _)))))))))) (za (Nat.le_refl 9) rfl) ((X2 _).fis (zU (fo _ (.tail _ (.tail _ (.tail _ (.tail _ (.tail _ (.tail _ (.tail _ (.tail _ (.tail _ (.head _))))))))))) (za (Nat.le_refl 10) rfl) ((X2 _).fla (Xh (X2 _).par.lc.1 ?_ (xy (Nat.lt_succ_of_lt nx) (fo _ (.tail _ (.tail _ (.tail _ (.tail _ (.tail _ (.tail _ (.tail _ (.tail _ (.tail _ (.tail _ (.head _)))))))))))) (za (Nat.le_refl 11) rfl) ((X3 _).fnc (zU (fo _ (.tail _ (.tail _ (.tail _ (.tail _ (.tail _ (.tail _ (.tail _ (.tail _ (.tail _ (.tail _ (.tail _ (.head _))))))))))))) (za (Nat.le_refl 12) rfl) ((X3 _).frb (zU (fo _ (.tail _ (.tail _ (.tail _ (.tail _ (.tail _ (.tail _ (.tail _ (.tail _ (.tail _ (.tail _ (.tail _ (.tail _ (.head _)))))))))))))) (za (Nat.le_refl 13) rfl) ((X3 _).fit (zU (fo _ (.tail _ (.tail _ (.tail _ (.tail _ (.tail _ (.tail _ (.tail _ (.tail _ (.tail _ (.tail _ (.tail _ (.tail _ (.tail _ (.head _))))))))))))))) (za (Nat.le_refl 14) rfl) (QP (σ:=(σ.bump.new 6 (.lst P.lc.cs)).new 7 (.lst P.lc.ls)) no3 rfl rfl q)))))))))))))))))))))
 exact Nat.le_trans sm.lab (by decide)
theorem Yn {n:Nat} {l:List Nat} {b:Nat} (h:(n::l).Nodup) (hb:∀ x∈n::l,x < b):(n::(l++[b])).Nodup:=by
 have:(n::l++[b]).Nodup:=List.nodup_append.mpr ⟨h,List.nodup_cons.mpr ⟨List.not_mem_nil,List.nodup_nil⟩,fun x hx y hy z=>by rw [List.mem_singleton.mp hy] at z;exact Nat.lt_irrefl _ (z▸hb x hx)⟩
 exact this
theorem WQ {n b:Nat} {l:List Mk} {f:Mk→Nat} (h:n < b) (h':∀ k∈l,f k < b):∀ x∈n::l.map f,x < b:=fun x hx=>(List.mem_cons.mp hx).elim (fun e=>e▸h) fun hx=>(List.mem_map.mp hx).elim fun k e=>e.2▸h' k e.1
theorem Ys {α:Type} {l:List α} {x:α}:((l++[x]).length:Int) - 1=(l.length:Int):=by
 rw [List.length_append];exact Int.add_sub_cancel (l.length:Int) 1
theorem VF (x:Rc L σ₀ P σ) (ho:σ.ow=L.i) (sm:gW P) (hd:4≤d) (q:∀ a b σ',Rc L σ₀ {P with saved:=P.saved++[zT P a b]} σ'→Q (.int (P.saved.length:Int)) σ'):op (zR σ (.ref L.lp) "mark") fun cal=>meW (RC d) k (.ref L.lp) "mark" cal [] σ Q X:=by
 refine x.rv rfl rfl (yL (zg g9 (zi hd rfl) rfl fun _ hd=>x.fsa ((g_ (zx x.par.sa (.inl rfl))) (QN x hd ho sm rfl ?_))))
 have y:=(x.bump.sav (zt.new x.wf.bump 6 (.lst P.lc.cs)) (x.wf.bump.new _ _) (Nat.le_succ _)).sav (zt.new (x.wf.bump.new _ _) 7 (.lst P.lc.ls)) ((x.wf.bump.new _ _).new _ _) (Nat.le_succ _)
 have mk:uj L (zT P (σ.nx+1) (σ.nx+2)).lc ((σ.bump.new 6 (.lst P.lc.cs)).new 7 (.lst P.lc.ls)):=by
  unfold uj PL.lab PL.cov
  rw [← ho]
  exact ⟨zp,(xH (Zs (Nat.lt_succ_self _))).trans zp⟩
 have nd:Nds P.lc (P.saved++[zT P (σ.nx+1) (σ.nx+2)]):=by
  unfold Nds
  rw [List.map_append,List.map_append]
  exact ⟨Yn x.par.nd.1 (WQ (Nat.lt_add_right 2 (x.wf _ _ x.par.lc.1)) fun k hk=>Nat.lt_add_right 2 (x.wf _ _ (x.par.mks k hk).1)),Yn x.par.nd.2 (WQ (Nat.lt_add_right 1 (x.wf _ _ x.par.lc.2)) fun k hk=>Nat.lt_add_right 1 (x.wf _ _ (x.par.mks k hk).2))⟩
 have z:=y.par.sav (fun k hk=>(List.mem_append.mp hk).elim (y.par.mks k) fun hk=>List.mem_singleton.mp hk▸mk) nd
 generalize (σ.bump.new 6 (.lst P.lc.cs)).new 7 (.lst P.lc.ls)=σ3 at *
 have z:Rc L σ₀ {P with saved:=P.saved++[zT P (σ.nx+1) (σ.nx+2)]} (σ3.set L.lsa (.lst (P.saved.map (Mk.v L)++[(zT P (σ.nx+1) (σ.nx+2)).v L]))):=⟨by rw [List.map_append] at z;exact z,y.wf.set (y.wf _ _ y.par.sa) _,y.nx,y.kp.set (jj rfl)⟩
 refine xF y.par.sa (by rw [List.length_map];exact Nat.lt_of_le_of_lt sm.sav (by decide)) (z.fsa ((g_ (xg z.par.sa)) ⟨by rw [List.length_append];exact Nat.le_trans (Nat.succ_le_succ sm.sav) (by decide),?_⟩))
 have:=q _ _ _ z
 rw [← Ys (x:=zT P (σ.nx+1) (σ.nx+2))] at this
 exact this
noncomputable def PS.cut (P:PS) (n:Nat):PS:={P with saved:=P.saved.take n}
theorem Nds.take {v:Lc} {sv:List Mk} {n:Nat} (h:Nds v sv):Nds v (sv.take n):=⟨h.1.sublist (.cons_cons _ ((List.take_sublist _ _).map _)),h.2.sublist (.cons_cons _ ((List.take_sublist _ _).map _))⟩
theorem Rc.cut (x:Rc L σ₀ P σ) (n:Nat):Rc L σ₀ (P.cut n) (σ.set L.lsa (.lst ((P.saved.map (Mk.v L)).take n))):=by
 have:=x.par.sav (sv:=P.saved.take n) (fun k hk=>x.par.mks k (List.mem_of_mem_take hk)) x.par.nd.take
 rw [List.map_take] at this
 exact ⟨this,x.wf.set (x.wf _ _ x.par.sa) _,x.nx,x.kp.set (jj rfl)⟩
theorem Vt:∀ n < 200,(Hq ((n:Nat):Int)).length≤100:=by decide +kernel
theorem vK (x:Rc L σ₀ P σ) (hd:4≤d) (h:P.saved.length≤100) {n:Nat} (hn:n < 200) (q1:P.saved.length≤n→X "HostFault" σ) (q2:∀ k,P.saved[n]?=some k→∀ σ',Rc L σ₀ (P.cut n) σ'→uj L k.lc σ'→Q (k.v L) σ'):ze (RC d) "take_mark" [.ref L.lp,.int (n:Int)] σ Q X:=by
 refine zg (k:=2) hZ (zi hd rfl) rfl fun _ hd=>x.fsa ((g_ (xg x.par.sa)) ⟨Nat.le_trans h (by decide),zC (fun e=>?_) fun e=>x.fsa ?_⟩)
 ·have e:=Int.ofNat_le.mp (d_t e)
  exact ⟨rfl,Int.natCast_nonneg n,Int.ofNat_lt.mpr (Nat.lt_of_lt_of_le hn (by decide)),Nat.le_trans (Nat.add_le_add_left (Vt n hn) 18) (by decide),rfl,q1 e⟩
 ·have e:=Nat.lt_of_not_le fun z=>d_f e (Int.ofNat_le.mpr z)
  have it:zD σ (.ref L.lsa) (.int (n:Int))=some (P.saved[n].v L):=by
   show oO (oO (bd (vj σ (.ref L.lsa)) fun l=>bd (ym (n:Int) l.length) fun j=>l[j]?) _) _=_
   rw [show vj σ (.ref L.lsa)=some (P.saved.map (Mk.v L)) from zJ x.par.sa]
   show oO (oO (bd (ym (n:Int) (P.saved.map (Mk.v L)).length) fun j=>(P.saved.map (Mk.v L))[j]?) _) _=_
   rw [List.length_map,jG e (Nat.le_trans h (by decide))]
   show oO (oO ((P.saved.map (Mk.v L))[n]?) _) _=_
   rw [List.getElem?_map,List.getElem?_eq_getElem e];rfl
  exact (g_ it) (x.fsa (gL hd x.par.sa (by rw [List.length_map];exact Nat.le_trans h (by decide)) (q2 _ (List.getElem?_eq_getElem e) _ (x.cut n) ((x.par.mks _ (List.getElem_mem e)).sk rfl rfl))))
theorem VK (x:Rc L σ₀ P σ) (hd:6≤d) (h:P.saved.length≤100) {n:Nat} (hn:n < 200) (q1:P.saved.length≤n→X "HostFault" σ) (q2:n < P.saved.length→∀ σ',Rc L σ₀ (P.cut n) σ'→Q .none σ'):op (zR σ (.ref L.lp) "keep") fun cal=>meW (RC d) k (.ref L.lp) "keep" cal [.int (n:Int)] σ Q X:=
 x.rv rfl rfl (yL (zg gc (zi hd rfl) rfl fun _ hd=>vK x hd h hn q1 fun _ e σ' y _=>q2 (jH e) σ' y))
end
noncomputable def PS.back (P:PS) (k:Mk):PS:=⟨k.sc,k.lc,j0 (P.splits.drop k.spl) P.tk,P.rows.take k.told,P.splits.take k.spl,P.saved⟩
structure Bk (L:PL) (k:Mk) (σ₀:St) (P:PS) (σ:St):Prop extends Rc L σ₀ P σ where
 hk:uj L k.lc σ
 hn:Nds k.lc P.saved
section
variable {L:PL} {P:PS} {σ₀ σ σ':St} {d k:Nat} {kk:Mk} {Q:V→St→Prop} {X:String→St→Prop}
theorem Bk.fld (x:Bk L kk σ₀ P σ) (u:Sc) (v:Lc) (h:uj L v σ) (n:Nds v P.saved) {m:String} {w:V} (e1:((pF L P).lookup m).isSome=true) (e:yo m w (pF L P)=pF L {P with sc:=u,lc:=v}) {Q:St→Prop} (q:∀ σ',Bk L kk σ₀ {P with sc:=u,lc:=v} σ'→Q σ'):op (zO σ (.ref L.lp) m w) Q:=
 g_ (Wg x.par.p (by rw [e1];rfl) (za (Nat.le_refl 23) rfl)) (q _ (by rw [e];exact ⟨⟨x.par.fld u v h n,x.wf.set (x.wf _ _ x.par.p) _,x.nx,x.kp.set (jj rfl)⟩,x.hk.sk rfl rfl,x.hn⟩))
theorem Bk.st (x:Bk L kk σ₀ P σ) (u:Sc) {m:String} {w:V} (e1:((pF L P).lookup m).isSome=true) (e:yo m w (pF L P)=pF L {P with sc:=u}) {Q:St→Prop} (q:∀ σ',Bk L kk σ₀ {P with sc:=u} σ'→Q σ'):op (zO σ (.ref L.lp) m w) Q:=
 x.fld u P.lc x.par.lc x.par.nd e1 e q
theorem Bk.put (x:Bk L kk σ₀ P σ) {n:Nat} (hn:n < P.tk.length) {u:Tk} {QS:St→Prop} (q:∀ σ',Bk L kk σ₀ {P with tk:=P.tk.set n u} σ'→QS σ'):zw (.ref L.lt) (.int (n:Int)) u.v σ QS:=by
 unfold zw
 have e:ym (n:Int) (P.tk.map Tk.v).length=some n:=by rw [List.length_map];exact jG hn x.par.len
 have:=x.par.toks (tk:=P.tk.set n u) (by rw [List.length_set];exact x.par.len)
 rw [List.map_set] at this
 exact .inl (.inl ((g_ (zJ x.par.t)) ((g_ e) (q _ ⟨⟨this,x.wf.set (x.wf _ _ x.par.t) _,x.nx,x.kp.set (jj rfl)⟩,x.hk.sk rfl rfl,x.hn⟩))))
theorem Xa {sp:List (Nat×Tk)} {tk:List Tk}:(j0 sp tk).length=tk.length:=by
 induction sp with
 | nil=>rfl
 | cons a sp ih=>exact List.length_set.trans ih
inductive BkI (L:PL) (kk:Mk) (σ₀:St) (P:PS) (F:Frm):Nat→Frm→St→Prop
 | mk {j:Nat} {σ:St} {P':PS}:(kk.spl+j≤P.splits.length∨j=0)→{P with splits:=P.splits.take (kk.spl+j),tk:=j0 (P.splits.drop (kk.spl+j)) P.tk}=P'→Bk L kk σ₀ P' σ→BkI L kk σ₀ P F j F σ
theorem XO (x:Bk L kk σ₀ P σ) (hd:4≤d) (sm:gW P) (low:∀ y∈P.splits.drop kk.spl,y.1 < P.tk.length) (q:∀ σ',Rc L σ₀ (P.back kk) σ'→Q .none σ'):ze (RC d) "Mark.put_back" [kk.v L,.ref L.lp] σ Q X:=by
 refine zg vq (zi hd rfl) rfl fun _ hd=>x.st {P.sc with at_:=kk.sc.at_} rfl rfl fun σ1 y=>y.fdg ((g_ ((gA y.par.d).trans rfl)) (gL hd y.par.r (by rw [List.length_map];exact sm.rows) ?_))
 have z:Bk L kk σ₀ {P with sc:={P.sc with at_:=kk.sc.at_},rows:=P.rows.take kk.told} (σ1.set L.lr (.lst ((P.rows.map Dg.v).take kk.told))):=by
  have:=y.par.rws (rows:=P.rows.take kk.told)
  rw [List.map_take] at this
  exact ⟨⟨this,y.wf.set (y.wf _ _ y.par.r) _,y.nx,y.kp.set (jj rfl)⟩,y.hk.sk rfl rfl,y.hn⟩
 refine z.fld {P.sc with at_:=kk.sc.at_} {P.lc with nc:=kk.lc.nc,cs:=kk.lc.cs} ⟨z.par.lc.1,z.hk.2⟩ ⟨z.par.nd.1,z.hn.2⟩ rfl rfl fun σ2 z=>?_
 clear y hd
 refine wG (BkI L kk σ₀ ⟨{P.sc with at_:=kk.sc.at_},{P.lc with nc:=kk.lc.nc,cs:=kk.lc.cs},P.tk,P.rows.take kk.told,P.splits,P.saved⟩ [("self",kk.v L),("p",.ref L.lp)]) (n:=P.splits.length - kk.spl) 2 (.mk ?_ ?_ z) ?_
 ·rcases Nat.le_total kk.spl P.splits.length with h | h
  ·exact .inl (Nat.le_of_eq (Nat.add_sub_of_le h))
  ·exact .inr (Nat.sub_eq_zero_of_le h)
 ·have h:P.splits.length≤kk.spl+(P.splits.length - kk.spl):=by rw [Nat.add_comm];exact Nat.le_add_of_sub_le (Nat.le_refl _)
  rw [List.take_of_length_le h,List.drop_eq_nil_of_le h];rfl
 intro j F σ' I Q' X' qn qr qx
 cases I with
 | @mk σ' P' hj e z=>
 cases e
 refine z.fsp ((g_ (xg z.par.sp)) ⟨Nat.le_trans (by rw [List.length_take];exact Nat.min_le_right _ _) (Nat.le_trans sm.spl (by decide)),?_⟩)
 cases j with
 | zero=>
  exact m_f (df (Int.not_lt.mpr (Int.ofNat_le.mpr (by rw [List.length_take];exact Nat.min_le_left _ _)))) (z.st ⟨kk.sc.at_,kk.sc.deep,P.sc.pending,P.sc.allow,P.sc.inf,P.sc.inl,P.sc.ins,P.sc.nocond,P.sc.retbar,P.sc.inlit⟩ rfl rfl fun _ z=>z.st ⟨kk.sc.at_,kk.sc.deep,kk.sc.pending,P.sc.allow,P.sc.inf,P.sc.inl,P.sc.ins,P.sc.nocond,P.sc.retbar,P.sc.inlit⟩ rfl rfl fun _ z=>z.st ⟨kk.sc.at_,kk.sc.deep,kk.sc.pending,kk.sc.allow,P.sc.inf,P.sc.inl,P.sc.ins,P.sc.nocond,P.sc.retbar,P.sc.inlit⟩ rfl rfl fun _ z=>z.st ⟨kk.sc.at_,kk.sc.deep,kk.sc.pending,kk.sc.allow,kk.sc.inf,P.sc.inl,P.sc.ins,P.sc.nocond,P.sc.retbar,P.sc.inlit⟩ rfl rfl fun _ z=>z.st ⟨kk.sc.at_,kk.sc.deep,kk.sc.pending,kk.sc.allow,kk.sc.inf,kk.sc.inl,P.sc.ins,P.sc.nocond,P.sc.retbar,P.sc.inlit⟩ rfl rfl fun _ z=>z.st ⟨kk.sc.at_,kk.sc.deep,kk.sc.pending,kk.sc.allow,kk.sc.inf,kk.sc.inl,kk.sc.ins,P.sc.nocond,P.sc.retbar,P.sc.inlit⟩ rfl rfl fun _ z=>z.fld ⟨kk.sc.at_,kk.sc.deep,kk.sc.pending,kk.sc.allow,kk.sc.inf,kk.sc.inl,kk.sc.ins,P.sc.nocond,P.sc.retbar,P.sc.inlit⟩ kk.lc z.hk z.hn rfl rfl fun _ z=>z.st ⟨kk.sc.at_,kk.sc.deep,kk.sc.pending,kk.sc.allow,kk.sc.inf,kk.sc.inl,kk.sc.ins,kk.sc.nocond,P.sc.retbar,P.sc.inlit⟩ rfl rfl fun _ z=>z.st ⟨kk.sc.at_,kk.sc.deep,kk.sc.pending,kk.sc.allow,kk.sc.inf,kk.sc.inl,kk.sc.ins,kk.sc.nocond,kk.sc.retbar,P.sc.inlit⟩ rfl rfl fun _ z=>z.st ⟨kk.sc.at_,kk.sc.deep,kk.sc.pending,kk.sc.allow,kk.sc.inf,kk.sc.inl,kk.sc.ins,kk.sc.nocond,kk.sc.retbar,kk.sc.inlit⟩ rfl rfl fun _ z=>q _ z.toRc)
 | succ j=>
  have hj:kk.spl+j < P.splits.length:=hj.elim id nofun
  have tk:(P.splits.take (kk.spl+(j+1))).map JU=(P.splits.take (kk.spl+j)).map JU++[JU P.splits[kk.spl+j]]:=by
   rw [← Nat.add_assoc,List.take_succ_eq_append_getElem hj,List.map_append];rfl
  have dr:P.splits.drop (kk.spl+j)=P.splits[kk.spl+j]::P.splits.drop (kk.spl+(j+1)):=List.drop_eq_getElem_cons hj
  have lo:=low P.splits[kk.spl+j] (List.mem_of_mem_drop (i:=j) (by rw [List.drop_drop,dr];exact .head _))
  refine m_t (dt (Int.ofNat_lt.mpr (by rw [List.length_take,Nat.min_eq_left (show kk.spl+(j+1)≤P.splits.length from hj)];exact Nat.lt_succ_of_le (Nat.le_add_right _ _)))) (z.fsp ((g_ (zx z.par.sp (.inr (.inl rfl)))) (Jc (z.par.sp.trans (by rw [tk])) (by rw [List.length_map,List.length_take];exact Nat.lt_of_le_of_lt (Nat.min_le_right _ _) (Nat.lt_of_le_of_lt sm.spl (by decide))) ?_)))
  have y:Bk L kk σ₀ _ (σ'.set L.lsp (.lst ((P.splits.take (kk.spl+j)).map JU))):=⟨⟨z.par.spl,z.wf.set (z.wf _ _ z.par.sp) _,z.nx,z.kp.set (jj rfl)⟩,z.hk.sk rfl rfl,z.hn⟩
  exact y.ftk (y.put (by show _ < (j0 _ _).length;rw [Xa];exact lo) fun σ3 y=>qn 2 (.mk (.inl (Nat.le_of_lt hj)) (by rw [dr];rfl) y) (Nat.lt_succ_self _))
theorem Par.mkNd (x:Par L P σ) {n:Nat} (h:P.saved[n]?=some kk):Nds kk.lc (P.saved.take n):=by
 have hn:=jH h
 have e:P.saved.take (n+1)=P.saved.take n++[kk]:=by
  rw [List.take_succ_eq_append_getElem hn,(List.getElem_eq_iff hn).mpr h]
 have f:∀ f:Mk→Nat,(P.saved.map f).Nodup→(f kk::(P.saved.take n).map f).Nodup:=fun f hf=>by
  have:=hf.sublist ((List.take_sublist (n+1) P.saved).map f)
  rw [e,List.map_append] at this
  exact (List.perm_append_comm.nodup_iff).mp this
 exact ⟨f _ (List.nodup_cons.mp x.nd.1).2,f _ (List.nodup_cons.mp x.nd.2).2⟩
theorem XU (x:Rc L σ₀ P σ) (hd:6≤d) (sm:gW P) {n:Nat} (hn:n < 200) (low:∀ k,P.saved[n]?=some k→∀ y∈P.splits.drop k.spl,y.1 < P.tk.length) (q1:P.saved.length≤n→X "HostFault" σ) (q2:∀ k,P.saved[n]?=some k→∀ σ',Rc L σ₀ ((P.cut n).back k) σ'→Q .none σ'):op (zR σ (.ref L.lp) "back") fun cal=>meW (RC d) k (.ref L.lp) "back" cal [.int (n:Int)] σ Q X:=
 x.rv rfl rfl (yL (zg gh (zi hd rfl) rfl fun _ hd=>vK x hd sm.sav hn q1 fun kk e σ' y m=>yL (XO ⟨y,m,x.par.mkNd e⟩ hd ⟨sm.rows,sm.spl,sm.cov,sm.lab,Nat.le_trans (by show (P.saved.take n).length≤_;rw [List.length_take];exact Nat.min_le_right _ _) sm.sav⟩ (low kk e) (q2 kk e))))
end
theorem MD {R:Rel} {F:Frm} {σ:St} {QS:Fl→Frm→St→Prop} {XS:XP} {t:E} {B:Frm→(Fl→Frm→St→Prop)→XP→St→Prop} (I:Nat→Frm→St→Prop) (J:Frm→St→Prop) {n:Nat} (k:Nat) (i0:I n (F.take k) σ) (fin:∀ F σ,J F σ→QS .next F σ)
  (step:∀ n F σ,I n F σ→∀ (K:Frm→St→Prop) (Q':Fl→Frm→St→Prop) (X':XP),(∀ F σ,J F σ→K F σ)→(∀ k {m F σ},I m (F.take k) σ→m < n→Q' .next F σ)→(∀ F σ,J F σ→Q' .brk F σ)→(∀ C F σ,XS .held C F σ→X' .fly C F σ)→
   wpB R F t (fun t σ=>cB t (B F Q' X' σ) (K F σ)) (fun C σ=>XS .held C F σ) σ):KN R t B F QS XS σ:=
 ⟨I,n,k,i0,fun n F σ h=>step n F σ h (fun F σ=>QS .next F σ) _ _ fin (fun k m _ _ h l=>⟨m,k,l,h⟩) fin fun _ _ _ h=>h⟩
theorem KOk.arg {s:List Nat} {named:Bool} {o:Nat} {h:List Sd} {c c2:Nat} {cuts cuts2:List Nat} {says said:List Sd} {r:yY} (x:KOk s named c c2 cuts2 says) (y:xo s named o h c2 (cuts++cuts2) (said++says) r):zY s named o h c cuts said r:=by
 rcases x with ⟨x1,⟨x2,e1,e2,e3⟩ | ⟨sd,x2,x3,e⟩⟩
 ·rw [e1,e2,e3,List.append_nil] at y
  exact xo.arg (uI x1 x2) y
 ·rw [e] at y
  exact xo.arg (uJ x1 x2 (by rw [x3])) (by rw [x3];exact y)
theorem KA.arg {s:List Nat} {named:Bool} {o:Nat} {h:List Sd} {c c2 n:Nat} {cuts cuts2 msg:List Nat} {said:List Sd} (hn:named=true) (x:KA s named c c2 cuts2 msg n) (ht:(sg s c).text≠[41]):zY s named o h c cuts said (.fault msg c2 n (cuts++cuts2)):=by
 rcases x with ⟨x1,e1,e2,e3,e4⟩ | ⟨x1,x2,x3,sd,k,x4,e⟩
 ·rw [hn] at x1
  rw [e1,e2,e3,e4,List.append_nil]
  exact .fin (uH ht x1)
 ·refine .fin ((h9 x1 x2 (by rw [x4];exact x3)).trans ?_)
  rw [x4,e]
noncomputable def PS.al (P:PS) (b:Bool):PS:={P with sc:={P.sc with allow:=b}}
structure AgI (s:List Nat) (L:PL) (P:PS) (c:Nat) (nds:List Nd) (tk:List Tk) (sp:List (Nat×Tk)) (c2:Nat):Prop where
 trn:Trn P.tk P.splits tk sp
 lt:c < c2
 hgt:zP nds≤100
 siz:zS nds≤c2
structure Of (s:List Nat) (L:PL) (P:PS) (c:Nat) (msg:List Nat) (n:Nat) (tk:List Tk) (sp:List (Nat×Tk)) (c2:Nat) (cuts2:List Nat):Prop where
 trn:Trn P.tk P.splits tk sp
 le:c≤c2
 cnt:n+cl s c2≤1+cl s c
 ne:msg≠[]
 arg:∀ o h cu,zY s L.named o h (sg s c).en cu [] (.fault msg c2 n (cu++cuts2))
inductive AI (s:List Nat) (L:PL) (σ₀:St) (P:PS) (c:Nat) (cuts:List Nat) (l:Loc):Nat→Frm→St→Prop
 | mk {nds:List Nd} {a:Nat} {tk:List Tk} {sp:List (Nat×Tk)} {c2:Nat} {cuts2:List Nat} {σ:St} {vs:List V}:Rd s L σ₀ ((P.al true).mv a tk sp) c2 (cuts++cuts2) σ→σ.m l=some (.lst vs)→xr nds=vs→AgI s L P c nds tk sp c2→
  (∀ o h cu r,zY s L.named o h c2 (cu++cuts2) (zI nds 1) r→zY s L.named o h (sg s c).en cu [] r)→AI s L σ₀ P c cuts l (s.length - c2) [("p",.ref L.lp),("at",.int ((sg s c).at_:Int)),("allow_in",.bool P.sc.allow),("rows",.ref l)] σ
inductive AJ (s:List Nat) (L:PL) (σ₀:St) (P:PS) (c:Nat) (cuts:List Nat) (l:Loc):Frm→St→Prop
 | mk {nds:List Nd} {a:Nat} {tk:List Tk} {sp:List (Nat×Tk)} {c2:Nat} {cuts2:List Nat} {σ:St} {vs:List V}:Rd s L σ₀ ((P.al true).mv a tk sp) c2 (cuts++cuts2) σ→σ.m l=some (.lst vs)→xr nds=vs→AgI s L P c nds tk sp c2→
  ((sg s c2).text=[41]→∀ o h cu,zY s L.named o h (sg s c).en cu [] (.ok (sg s c2).en (cu++cuts2) o h (zI nds 1)))→((sg s c2).text≠[41]→∀ o h cu,zY s L.named o h (sg s c).en cu [] (.fault [41] c2 0 (cu++cuts2)))→AJ s L σ₀ P c cuts l [("p",.ref L.lp),("at",.int ((sg s c).at_:Int)),("allow_in",.bool P.sc.allow),("rows",.ref l)] σ
section
variable {s:List Nat} {L:PL} {P:PS} {σ₀ σ σ':St} {c:Nat} {cuts:List Nat} {d k:Nat} {Q:V→St→Prop} {X:String→St→Prop}
theorem Hz (x:Rd s L σ₀ P c cuts σ) (lm:Lim s P.sc.deep c 39) (hd:24 * cl s c+58≤d) (q:KQ s L σ₀ P c cuts Q) (r:KX s L σ₀ P c cuts 0 X):ze (RC d) "read_item" [.ref L.lp] σ Q X:=
 zg (k:=24 * cl s c+56) Z0 hd rfl fun d hd=>xj x.toRp (dla hd rfl) (jc x (dla hd rfl) (List.cons_ne_nil _ _) (fun h=>absurd (x.al 46 (w9 (c:=c) (by rw [(d_t (zb h).2:(sg s c).text=_)];exact .head _))) (by decide)) fun _=>x.rv rfl rfl ((g_ vJ) (yL (VE x hO.2 lm (.inr rfl) hd q r))))
theorem HD (x:Rd s L σ₀ P c cuts σ) (hL:L.named=true) (ht:(sg s c).text=[40]) (lm:Lim s P.sc.deep c 39) (hd:24 * cl s c+60≤d)
  (q:∀ nds a tk sp c2 cuts2 σ',AgI s L P c nds tk sp c2→(∀ o h cu,zY s L.named o h (sg s c).en cu [] (.ok c2 (cu++cuts2) o h (zI nds 1)))→Rd s L σ₀ (P.mv a tk sp) c2 (cuts++cuts2) σ'→Q (ndV 71 [] (xr nds) 0 ((sg s c).at_:Int)) σ')
  (r:∀ msg n a tk sp c2 cuts2 σ',Of s L P c msg n tk sp c2 cuts2→Rp s L σ₀ ((P.al true).bad a tk sp (dg msg (sg s c2).at_) (P.sc.deep+(n:Int)) (if n=0 then P.sc.nocond else false)) c2 (cuts++cuts2) σ'→X "ParseStop" σ'):ze (RC d) "read_args" [.ref L.lp] σ Q X:=by
 refine zg (k:=24 * cl s c+58) Z5 hd rfl fun d hd=>xj x.toRp (dla hd rfl) (xB x (dla hd rfl) (List.cons_ne_nil _ _) (fun h σ1 y=>y.fal (y.st (P.al true).next.sc rfl rfl rfl fun σ2 y=>⟨Nat.zero_le _,?_⟩)) fun h=>zk (h.symm.trans ((jg (List.cons_ne_nil _ _) rfl).trans (dt ht))))
 clear h
 have ⟨ce,ce'⟩:=zN (xq ht)
 have m0:(σ2.new 237 (.lst [])).m (σ2.loc 237)=some (.lst []):=zp
 have no:σ₀.m (σ2.loc 237)=none:=y.no (y.wf.none (Nat.le_refl _)) rfl
 have y:=y.nw 237 (.lst [])
 have rk0:rk (σ2.loc 237)=false:=rfl
 generalize σ2.loc 237=l at *
 generalize σ2.new 237 (.lst [])=σ3 at *
 refine MD (AI s L σ₀ P c cuts l) (AJ s L σ₀ P c cuts l) 4 (.mk (nds:=[]) (cuts2:=[]) (by rw [List.append_nil];exact y) m0 rfl ⟨.refl,ce,Nat.zero_le _,Nat.zero_le _⟩ fun o h cu r hr=>List.append_nil cu▸hr) ?_ ?_
 ·intro F σ4 J
  cases J with
  | @mk nds a tk sp c2 cuts2 σ4 vs y hm ev ag j1 j2=>
  refine xB y.re (dla hd rfl) (List.cons_ne_nil _ _) (fun h σ5 z=>z.st (P.mv (a+1) tk sp).sc rfl rfl rfl fun σ6 w=>?_) fun h σ5 z=>?_
  ·have h:=(d_t (zb h).2:(sg s c2).text=[41])
   have ⟨e1,_⟩:=zN (xq h)
   rw [← ev] at hm
   exact qO w.wf (dla hd rfl) (w.kp.2 _ _ hm (xf rk0)) (q nds (a+1) tk sp _ cuts2 _ ⟨ag.trn,Nat.lt_trans ag.lt e1,ag.hgt,Nat.le_trans ag.siz (Nat.le_of_lt e1)⟩ (j1 h) ((y.on w).bd no rk0))
  ·have h:=d_f ((jg (List.cons_ne_nil _ _) rfl).symm.trans h)
   refine r [41] 0 a tk sp c2 cuts2 σ5 ⟨ag.trn,Nat.le_of_lt ag.lt,Nat.le_trans (Nat.le_of_eq (Nat.zero_add _)) (Nat.le_trans (yl (Nat.le_of_lt ag.lt)) (Nat.le_add_left _ _)),List.cons_ne_nil _ _,j2 h⟩ ?_
   exact (congrArg (fun i=>Rp s L σ₀ ((P.al true).bad a tk sp ⟨1005,(sg s c2).at_,no5 [41]⟩ i P.sc.nocond) c2 (cuts++cuts2) σ5) (Int.add_zero _)).mpr (Rp.on y.toRc z)
 ·intro n F σ4 I K Q' X' qj qn qb qx
  cases I with
  | @mk nds a tk sp c2 cuts2 σ4 vs y hm ev ag arg=>
  refine jY y.toRp (dla hd rfl) (zC (fun h1=>?_) fun h1=>?_)
  ·have nt:(sg s c2).text≠[41]:=d_f ((jg (List.cons_ne_nil _ _) rfl).symm.trans (ya h1))
   have lc:=Nat.le_of_lt ag.lt
   refine (g_ (zx hm (.inl rfl))) (Hz y.re (lm.at lc) (dlc hd lc rfl) (fun nd a2 tk2 sp2 c3 cuts3 σ5 ok w=>?_) fun msg n a2 tk2 sp2 c3 cuts3 σ5 bad w=>?_)
   ·have hm5:=w.kp.2 _ _ hm (xf rk0)
    have W:=(y.on w).set_ no rk0 hm5 (.lst (vs++[nd.v]))
    have e3:xr (nds++[nd])=vs++[nd.v]:=by rw [(yW (m:=0)).1,ev]
    have ag':AgI s L P c (nds++[nd]) tk2 sp2 c3:=⟨ag.trn.trans ok.trn,Nat.lt_trans ag.lt ok.lt,by rw [(yW (m:=0)).2.2.1];exact Nat.max_le.mpr ⟨ag.hgt,Nat.le_trans (Nat.le_trans (Nat.le_add_right _ _) ok.hgt) (Nat.le_trans (Nat.add_le_add_left (Zw (lm.at lc)).2 1) (by decide))⟩,by rw [(yW (m:=0)).2.1];exact Nat.le_trans (Nat.le_of_eq (Nat.add_comm _ _)) (Nat.le_trans (Nat.add_le_add_left ag.siz _) ok.siz)⟩
    have tl:∀ o h cu r,xo s L.named o h c3 (cu++(cuts2++cuts3)) (zI (nds++[nd]) 1) r→zY s L.named o h (sg s c).en cu [] r:=fun o h cu r x=>arg o h cu r (ok.ok.arg (by rw [List.append_assoc,← yW.2.2.2];exact x))
    rw [List.append_assoc] at W
    refine xF hm5 ?_ (jc W.re (dla hd rfl) (List.cons_ne_nil _ _) (fun h σ6 z=>qn 4 (.mk (W.on z) (z.kp.2 _ _ zj (xf rk0)) e3 ⟨ag'.trn,?_,ag'.hgt,?_⟩ ?_) ?_) fun h=>qb _ _ (.mk W zj e3 ag' ?_ ?_))
    ·rw [← ev];exact Nat.lt_of_le_of_lt (Nat.le_trans WJ (Nat.le_trans ag.siz (Nat.le_trans y.pl.le x.hs))) (by decide)
    ·exact Nat.lt_trans ag'.lt (zN (xq (d_t (zb h).2))).1
    ·exact Nat.le_trans ag'.siz (Nat.le_of_lt (zN (xq (d_t (zb h).2))).1)
    ·exact fun o h' cu r x=>tl o h' cu r (by unfold xo;rw [vf (d_t (zb h).2)];exact x)
    ·have ⟨e1,e2⟩:=zN (xq (d_t (zb h).2))
     exact Nat.sub_lt_sub_left (Nat.lt_of_lt_of_le (Nat.lt_trans ok.lt e1) e2) (Nat.lt_trans ok.lt e1)
    ·exact fun e o h' cu=>tl o h' cu _ (by unfold xo;rw [uC e])
    ·exact fun e o h' cu=>tl o h' cu _ (by unfold xo;rw [qZ (d_f ((jg (List.cons_ne_nil _ _) rfl).symm.trans h)) e])
   ·have ⟨ne,n0⟩:=bad.bad.ne
    have w:=Rp.on y.toRc w
    rw [List.append_assoc] at w
    exact qx _ _ _ (r msg n a2 tk2 sp2 c3 (cuts2++cuts3) σ5 ⟨ag.trn.trans bad.trn,Nat.le_trans lc bad.le,Nat.le_trans bad.cnt (Nat.add_le_add_left (yl lc) 1),ne,fun o h cu=>arg o h cu _ (by rw [← List.append_assoc];exact KA.arg hL bad.bad nt)⟩ (by rw [if_neg (show ¬ n=0 from n0)];exact w))
  ·have e:=(d_t (zb (vF h1)).2:(sg s c2).text=[41])
   exact qj _ _ (.mk y hm ev ag (fun e o h cu=>arg o h cu _ (.fin (wc e))) fun z=>absurd e z)
end
theorem JP.ang {s:List Nat} {named:Bool} {tk0 tk:List Tk} {sp0 sp:List (Nat×Tk)} {c c2:Nat} {nds:List Nd} {cuts2:List Nat} (ok:JP s named tk0 sp0 c nds tk sp c2 cuts2):Mine.ang s named c=⟨[],c2,0,cuts2,zI nds 1⟩:=Ang.eq (.go ok.txt (ok.itr 0 [] [] _ (.fin rfl)))
theorem XZ.ang {s:List Nat} {named:Bool} {tk0 tk:List Tk} {sp0 sp:List (Nat×Tk)} {c c2 n:Nat} {msg:List Nat} {cuts2:List Nat} (h:XZ s named tk0 sp0 c msg n tk sp c2 cuts2):∃ sa,Mine.ang s named c=⟨msg,c2,n,cuts2,sa⟩:=by
 by_cases t:(sg s c).text=[60]
 ·obtain ⟨sa,hi⟩:=h.itr t 0 [] []
  rw [Nat.zero_add n] at hi
  exact ⟨sa,Ang.eq (.go t hi)⟩
 ·obtain ⟨e1,e2,e3,e4⟩:=h.no t
  exact ⟨[],by rw [e1,e2,e3,e4];exact Ang.eq (.no t)⟩
noncomputable def PS.lcs (P:PS) (a b:Nat):PS:={P with lc:=⟨b,P.lc.ls,a,P.lc.cs⟩}
theorem jP {α:Type} {l:List α} {x:List α}:(l++x).take l.length=l:=by rw [List.take_append_of_le_length (Nat.le_refl _),List.take_length]
theorem JH {P P2:PS} {a b:Nat} {m:List Mk} {r:List Dg} (t:Trn P.tk P.splits P2.tk P2.splits) (hr:P2.rows=P.rows++r) (hs:P2.saved=P.saved++m):(P2.cut P.saved.length).back (zT P a b)=P.lcs a b:=by
 obtain ⟨⟨x,e1,e2,e3⟩,l⟩:=t
 show (⟨P.sc,⟨b,P.lc.ls,a,P.lc.cs⟩,j0 (P2.splits.drop P.splits.length) P2.tk,P2.rows.take P.rows.length,P2.splits.take P.splits.length,P2.saved.take P.saved.length⟩:PS)=_
 rw [e1,hr,hs,jP,jP,jP,List.drop_left,e2]
 rfl
theorem YX {P P2:PS} {a b:Nat} (t:Trn P.tk P.splits P2.tk P2.splits):∀ y∈P2.splits.drop (zT P a b).spl,y.1 < P2.tk.length:=by
 obtain ⟨⟨x,e1,e2,e3⟩,l⟩:=t
 rw [l,e1]
 show ∀ y∈(P.splits++x).drop P.splits.length,_
 rw [List.drop_left]
 exact e3
theorem Yt {α:Type} {l:List α} {x y:α} (h:(l++[x])[l.length]?=some y):x=y:=by rw [JN] at h;exact Option.some.inj h
section
variable {s:List Nat} {L:PL} {P:PS} {σ₀ σ σ':St} {c:Nat} {cuts:List Nat} {d k:Nat} {Q:V→St→Prop} {X:String→St→Prop}
theorem qo (hd:2≤d) {g:Sg} (q:Q (.bool false) σ):ze (RC d) "is_template" [g.tk.v] σ Q X:=
 zg uX hd rfl fun _ _=>(g_ V8) (m_f (Zp (g:=g) (by decide)) ((g_ V9) (by
  show Q (.bool (decide (g.kind=7))) σ
  rw [Zp (by decide)];exact q)))
theorem Rd.sdp (x:Rd s L σ₀ P c cuts σ) {i j:Int} (e:i=j) {Q:St→Prop} (q:∀ σ',Rd s L σ₀ (P.dp j) c cuts σ'→Q σ'):op (zO σ (.ref L.lp) "deep" (.int i)) Q:=by
 rw [e];exact x.st (P.dp j).sc rfl rfl rfl q
theorem Kd (x:Rc L σ₀ P σ):j9 σ .notin (.int 1) (.ref L.lpa)=some false:=YA x (.inl rfl)
theorem O4 (x:Rd s L σ₀ P c cuts σ) (ho:σ.ow=L.i) (sm:gW P) (hs:P.saved.length < 100) (hr:P.rows.length≤800000) (lm:Lim s P.sc.deep c 39) (hd1:0≤P.sc.deep) (hd:24 * cl s c+40≤d)
  (q:∀ nds a tk sp c2 cuts2 σ',JP s L.named P.tk P.splits c nds tk sp c2 cuts2→(sg s c2).text=[40]→Rd s L σ₀ (P.mv a tk sp) c2 (cuts++cuts2) σ'→Q (ndV 71 [] (xr nds) 0 ((sg s c).at_:Int)) σ')
  (qn:(ang s L.named c).msg≠[]∨(sg s (ang s L.named c).c).text≠[40]→∀ a b σ',Rc L σ₀ (P.lcs a b) σ'→Q .none σ'):ze (RC d) "try_type_args" [.ref L.lp] σ Q X:=by
 have lm':Lim s (P.sc.deep - 1) c 40:=⟨by have:=lm.up;omega,by omega⟩
 refine zg (k:=24 * cl s c+38) vo hd rfl fun d hd=>(g_ jI) (x.fpa ((g_ (Kd x.toRc)) (xj x.toRp (dla hd rfl) (VF x.toRc ho sm (dla hd rfl) fun a b σ1 y=>⟨Nat.zero_le _,?_⟩))))
 have y:Rd s L σ₀ {P with saved:=P.saved++[zT P a b]} c cuts σ1:=⟨x.toRp.with y rfl rfl rfl,x.rw_⟩
 have y:=y.nw 250 (.lst [])
 generalize σ1.new 250 (.lst [])=σ2 at *
 have sl:∀ {m:Mk},(P.saved++[m]).length≤100:=fun {m}=>by rw [List.length_append];exact hs
 have ex:∀ {m:Mk} {A:Prop},(P.saved++[m]).length≤P.saved.length→A:=fun {m} {A} h=>by rw [List.length_append] at h;exact absurd h (Nat.not_succ_le_self _)
 have lt:P.saved.length < 200:=Nat.lt_of_lt_of_le hs (by decide)
 have bk:∀ {P2:PS} {r:List Dg},Trn P.tk P.splits P2.tk P2.splits→P2.rows=P.rows++r→P2.saved=P.saved++[zT P a b]→((ang s L.named c).msg≠[]∨(sg s (ang s L.named c).c).text≠[40])→∀ k,P2.saved[P.saved.length]?=some k→∀ σ',Rc L σ₀ ((P2.cut P.saved.length).back k) σ'→Q .none σ':=fun t h1 h2 h3 k hk σ' z=>by
  rw [h2] at hk
  rw [← Yt hk,JH t h1 h2] at z
  exact qn h3 a b σ' z
 have lo:∀ {P2:PS},Trn P.tk P.splits P2.tk P2.splits→P2.saved=P.saved++[zT P a b]→∀ k,P2.saved[P.saved.length]?=some k→∀ y∈P2.splits.drop k.spl,y.1 < P2.tk.length:=fun t h2 k hk=>by
  rw [h2] at hk
  rw [← Yt hk]
  exact YX t
 refine y.fdp (y.st (({P with saved:=P.saved++[zT P a b]}:PS).dp (P.sc.deep - 1)).sc rfl rfl rfl fun σ3 y=>VA y hO.1 lm' hd (fun l nds a2 tk sp c2 cuts2 σ4 ok z no rk0 hm=>z.fdp ?_) fun msg n a2 tk sp c2 cuts2 σ4 bad z=>?_)
 ·refine z.re.sdp (Int.sub_add_cancel P.sc.deep 1) fun σ5 w=>?_
  have hm5:=w.kp.2 _ _ hm (xf rk0)
  have W:=z.on w
  refine jY w.toRp (dla hd rfl) (xj w.toRp (dla hd rfl) (qo (dla hd rfl) (zC (fun h=>?_) fun h=>?_)))
  ·refine VK w.re.toRc (dla hd rfl) sl lt ex fun _ σ6 v=>?_
   have V:Rc L σ₀ (P.mv a2 tk sp) σ6:=(congrArg (fun sv=>Rc L σ₀ ({P.mv a2 tk sp with saved:=sv}:PS) σ6) (jP (l:=P.saved) (x:=[zT P a b]))).mp (W.toRc.on v)
   have V':Rd s L σ₀ (P.mv a2 tk sp) c2 (cuts++cuts2) σ6:=⟨W.toRp.with V rfl rfl rfl,x.rw_⟩
   exact qO V.wf (dla hd rfl) (v.kp.2 _ _ hm5 (xf rk0)) (q nds a2 tk sp c2 cuts2 _ ok (d_t (zb h).2) (V'.bd no rk0))
  ·refine XU W.toRc (dla hd rfl) ⟨Nat.le_trans hr (by decide),Nat.le_trans (w.sb.le w.pl.le) (by decide),sm.cov,sm.lab,sl⟩ lt (lo ok.trn rfl) ex (bk (r:=[]) ok.trn (List.append_nil _).symm rfl (.inr ?_))
   rw [ok.ang]
   exact d_f ((jg (List.cons_ne_nil _ _) rfl).symm.trans h)
 ·obtain ⟨sa,e⟩:=bad.ang
  refine XU z.toRc (dla hd rfl) ⟨?_,Nat.le_trans (z.sb.le z.pl.le) (by decide),sm.cov,sm.lab,sl⟩ lt (lo bad.trn rfl) ex (bk bad.trn rfl rfl (.inl ?_))
  ·show (P.rows++[_]).length≤_
   rw [List.length_append];exact Nat.le_trans (Nat.succ_le_succ hr) (by decide)
  ·rw [e];exact bad.ne
theorem YC:zE "K_CALL"=some (.int 18):=by unfold zE y4;rfl
theorem Ka {named:Bool} {r:Res} (h:Itr s named 1 true c [] [] r) (hm:r.msg=[]):named=true:=by
 cases named with
 | true=>rfl
 | false=>rw [h.ends (vg rfl)] at hm;exact absurd hm (List.cons_ne_nil _ _)
theorem Gw (x:Rd s L σ₀ P c cuts σ) (ho:σ.ow=L.i) (sm:gW P) (hs:P.saved.length < 100) (hr:P.rows.length≤800000) (lm:Lim s P.sc.deep c 39) (hd1:0≤P.sc.deep) (hd:24 * cl s c+70≤d) {ov:V} {nm:List Nat} {fl lat:Int}
  (q0:xG s L.named c .none→∀ a b σ',Rc L σ₀ (P.lcs a b) σ'→Q .none σ')
  (q1:∀ ks as opn a tk sp c2 cuts2 σ',xG s L.named c (.ok c2 cuts2 opn (zI ks 1) (zI as 1))→zP ks≤100∧zS ks≤1000∧zP as≤100∧zS as≤1000→Trn P.tk P.splits tk sp→Rd s L σ₀ (P.mv a tk sp) c2 (cuts++cuts2) σ'→Q (ndV 18 [] [ndV 8 nm [] 0 lat,ndV 71 [] (xr as) 0 ((opn:Nat):Int),ndV 71 [] (xr ks) 0 ((sg s c).at_:Int)] fl lat) σ')
  (r:∀ msg n a tk sp c2 cuts2 σ',xG s L.named c (.fault msg c2 n cuts2)→Trn P.tk P.splits tk sp→msg≠[]→n+cl s c2≤cl s c→Rp s L σ₀ ((P.al true).bad a tk sp (dg msg (sg s c2).at_) (P.sc.deep+(n:Int)) (if n=0 then P.sc.nocond else false)) c2 (cuts++cuts2) σ'→X "ParseStop" σ'):ze (RC d) "KindArgsTail.take" [ov,.ref L.lp,ndV 8 nm [] 0 lat,.int fl] σ Q X:=by
 refine zg (k:=24 * cl s c+68) jC hd rfl fun d hd=>O4 x ho sm hs hr lm hd1 (dlb hd rfl) (fun nds a tk sp c2 cuts2 σ1 ok t40 y=>?_) fun h a b σ1 y=>q0 (.none h) a b σ1 y
 have lc:=Nat.le_of_lt ok.lt
 have e:=ok.ang
 refine HD y (Ka (ok.itr 0 [] [] _ (.fin rfl)) rfl) t40 (lm.at lc) (dlc hd lc rfl) (fun as a2 tk2 sp2 c3 cuts3 σ2 ag arg w=>(g_ YC) ⟨za (Nat.le_refl 3) rfl,?_⟩) fun msg n a2 tk2 sp2 c3 cuts3 σ2 ag w=>?_
 ·have W:=w.nw 247 (.lst [ndV 8 nm [] 0 lat,ndV 71 [] (xr as) 0 ((sg s c2).at_:Int),ndV 71 [] (xr nds) 0 ((sg s c).at_:Int)])
  have no:σ₀.m (σ2.loc 247)=none:=w.no (w.wf.none (Nat.le_refl _)) rfl
  rw [List.append_assoc] at W
  refine Kr W.wf (dla hd rfl) zp (q1 nds as _ a2 tk2 sp2 c3 (cuts2++cuts3) _ (.go (by rw [e]) (by rw [e];exact t40) (by rw [e];exact arg _ _ _)) ⟨?_,?_,ag.hgt,Nat.le_trans ag.siz (Nat.le_trans w.pl.le x.hs)⟩ (ok.trn.trans ag.trn) (W.bd no rfl))
  ·exact Nat.le_trans (Nat.le_trans (Nat.le_add_right _ _) ok.hgt) (Nat.le_trans (Zw lm).2 (by decide))
  ·exact Nat.le_trans (Nat.le_trans (Nat.le_add_right _ _) (Nat.le_of_lt ok.siz)) (Nat.le_trans y.pl.le x.hs)
 ·rw [List.append_assoc] at w
  exact r msg n a2 tk2 sp2 c3 (cuts2++cuts3) σ2 (.go (by rw [e]) (by rw [e];exact t40) (by rw [e];exact ag.arg _ _ _)) (ok.trn.trans ag.trn) ag.ne (Nat.le_trans ag.cnt (Nat.le_trans (Nat.le_of_eq (Nat.add_comm _ _)) ok.up)) w
end
set_option genInjectivity false
set_option genSizeOfSpec false
mutual
theorem Vm:∀ v:V,PyData.eqv v.py v.py=true
 | .none=>rfl
 | .bool b=>by simp [V.py,PyData.eqv]
 | .int i=>by simp [V.py,PyData.eqv]
 | .str s=>by simp [V.py,PyData.eqv]
 | .tup l=>by simp only [V.py,PyData.eqv];exact xT l
 | .flst l=>by simp only [V.py,PyData.eqv];exact xT l
 | .obj _ _=>rfl
 | .ref _=>rfl
theorem xT:∀ l:List V,PyData.eqvAll (wg l) (wg l)=true
 | []=>rfl
 | v::r=>by simp only [wg,PyData.eqvAll,Vm v,xT r];rfl
end
theorem yp {n:Nat}:∀ {l:List V},zq n l=true↔∀ v∈l,v.plain n=true
 | []=>⟨fun _ _ h=>absurd h List.not_mem_nil,fun _=>rfl⟩
 | v::r=>by
  show (v.plain n&&zq n r)=true↔_
  rw [Bool.and_eq_true,yp,List.forall_mem_cons]
section
variable {σ:St} {a b:V} {l:List V}
noncomputable def isT (v:V):Bool:=(asT v).isSome||(asN v).isSome||(asB v).isSome
theorem JA (hp:zq 19 l=true):eqV σ (.tup l) (.tup l)=some true:=by
 have h:∀ A B:Option Bool,oO none (oO none (if (zq 19 l&&zq 19 l)=true then A else B))=A:=fun A B=>by rw [hp];rfl
 exact (h _ none).trans (congrArg some (xT l))
theorem ZG (hp:zq 19 l=true):j9 σ .eq (.tup l) (.tup l)=some true:=JA hp
theorem Zr (hp:zq 19 l=true):j9 σ .ne (.tup l) (.tup l)=some false:=by
 show oO none (bd (eqV σ (.tup l) (.tup l)) fun t=>some (!t))=_
 rw [JA hp];rfl
theorem J9 {la:Loc} (h:σ.m la=some (.lst l)):σ.see (.ref la)=.flst l:=by
 show Option.rec (motive:=fun _=>V) (.ref la) V.flst (lsA σ la)=_
 rw [zJ h]
theorem YJ {la lb:Loc} (ha:σ.m la=some (.lst l)) (hb:σ.m lb=some (.lst l)) (hp:zq 19 l=true):eqV σ (.ref la) (.ref lb)=some true:=by
 show oO none (oO none (if ((σ.see (.ref la)).plain 20&&(σ.see (.ref lb)).plain 20)=true then some (PyData.eqv (σ.see (.ref la)).py (σ.see (.ref lb)).py) else none))=_
 rw [J9 ha,J9 hb]
 have h:∀ A B:Option Bool,oO none (oO none (if (zq 19 l&&zq 19 l)=true then A else B))=A:=fun A B=>by rw [hp];rfl
 exact (h _ none).trans (congrArg some (xT l))
theorem Jz {la lb:Loc} (ha:σ.m la=some (.lst l)) (hb:σ.m lb=some (.lst l)) (hp:zq 19 l=true):j9 σ .eq (.ref la) (.ref lb)=some true:=YJ ha hb hp
theorem Jg {la lb:Loc} (ha:σ.m la=some (.lst l)) (hb:σ.m lb=some (.lst l)) (hp:zq 19 l=true):j9 σ .ne (.ref la) (.ref lb)=some false:=by
 show oO (bd (diA σ la) _) (bd (eqV σ (.ref la) (.ref lb)) fun t=>some (!t))=_
 rw [show diA σ la=none by unfold diA;rw [ha];rfl,YJ ha hb hp];rfl
end
noncomputable def Dg.row (g:Dg):V:=.tup [.int g.num,.int (g.at_:Int),g.args]
noncomputable def sdv (c:Nat) (cuts:List Nat) (deep:Int) (told:List Dg) (labels covers:List V) (plain:V) (allow bare:Bool):List (List Nat×V):=
 [([99],.int (c:Int)),([99,117,116,115],yN cuts),([100,101,101,112],.int deep),([116,111,108,100],.tup (told.map Dg.row)),([108,97,98,101,108,115],.tup labels),([99,111,118,101,114,115],.tup covers),([112,108,97,105,110],plain),([97,108,108,111,119],.bool allow),([98,97,114,101],.bool bare)]
noncomputable def PS.plain (P:PS):V:=.tup [P.sc.pending,.int P.sc.inf,.int P.sc.inl,.int P.sc.ins,.bool P.sc.retbar,.int P.sc.inlit]
noncomputable def sd (P:PS) (c:Nat) (cuts:List Nat):List (List Nat×V):=sdv c cuts P.sc.deep P.rows P.lc.ls P.lc.cs P.plain P.sc.allow P.sc.nocond
noncomputable def wdv (L:PL) (B sl ml:Loc):List (List Nat×V):=[([112],.ref L.lp),([98,97,115,101],.ref B),([112,108,97,99,101],.int (L.place:Int)),([115],.ref sl),([109,97,114,107,115],.ref ml),([107,110,111,119,115],.bool L.named)]
structure MkW where
 l:Loc
 P:PS
 c:Nat
 cuts:List Nat
 a:Nat
 b:Nat
structure WR where
 sl:Loc
 ml:Loc
 P:PS
 c:Nat
 cuts:List Nat
 marks:List MkW
noncomputable def sK (L:PL) (l:Loc):Prop:=l.1=L.i∧(l.2.1=312∨l.2.1=337)
noncomputable def mK (L:PL) (l:Loc):Prop:=l.1=L.i∧(l.2.1=314∨l.2.1=343)
theorem sK.ne {L:PL} {l:Loc} (h:sK L l) {p:Nat→Bool} (h1:(p 312||p 337)=false):p l.2.1=false:=by
 have h1:=Bool.or_eq_false_iff.mp h1
 exact h.2.elim (fun e=>by rw [e];exact h1.1) fun e=>by rw [e];exact h1.2
theorem mK.ne {L:PL} {l:Loc} (h:mK L l) {p:Nat→Bool} (h1:(p 314||p 343)=false):p l.2.1=false:=by
 have h1:=Bool.or_eq_false_iff.mp h1
 exact h.2.elim (fun e=>by rw [e];exact h1.1) fun e=>by rw [e];exact h1.2
structure Tb (L:PL) (B:Loc) (W:WR) (d:List (List Nat×V)) (σ:St):Prop where
 w:σ.m L.lw=some (.ds (wdv L B W.sl W.ml))
 s:σ.m W.sl=some (.ds d)
 m:σ.m W.ml=some (.lst (W.marks.map fun k=>.ref k.l))
 k:∀ k∈W.marks,σ.m k.l=some (.ds (sd k.P k.c k.cuts))
 ks:sK L W.sl
 km:mK L W.ml
 kk:∀ k∈W.marks,sK L k.l
 nd:(W.sl::W.marks.map (·.l)).Nodup
noncomputable def Kp (i:Nat) (σ σ':St):Prop:=σ'.ow=σ.ow∧∀ l c,σ.m l=some c→l.1≠i→σ'.m l=some c
section
variable {i:Nat} {a b c:St}
theorem Kp.refl:Kp i a a:=⟨rfl,fun _ _ e _=>e⟩
theorem Kp.trans (x:Kp i a b) (y:Kp i b c):Kp i a c:=⟨y.1.trans x.1,fun l cl e n=>y.2 l cl (x.2 l cl e n) n⟩
theorem xK.kp (x:xK i a b):Kp i a b:=⟨x.1,fun l c e n=>x.2 l c e (Na n)⟩
theorem zt.kp (x:zt a b):Kp i a b:=⟨x.1,fun l c e _=>x.2 l c e⟩
theorem Kp.set (x:Kp i a b) {l:Loc} {c:zu} (h:l.1=i):Kp i a (b.set l c):=⟨x.1,fun l' cl e n=>(zl fun z=>n ((congrArg Prod.fst z).trans h)).trans (x.2 l' cl e n)⟩
end
structure Ws (s:List Nat) (B:Loc) (L:PL) (σ₀:St) (W:WR) (d:List (List Nat×V)) (σ:St):Prop where
 rd:Rd s L σ W.P W.c W.cuts σ
 tb:Tb L B W d σ
 kp:Kp L.i σ₀ σ
 nx:σ₀.nx≤σ.nx
section
variable {s:List Nat} {B:Loc} {L:PL} {σ₀ σ σ':St} {W:WR} {d:List (List Nat×V)}
theorem Tb.keep (x:Tb L B W d σ) (h:∀ l c,(l=L.lw∨sK L l∨mK L l)→σ.m l=some c→σ'.m l=some c):Tb L B W d σ':=⟨h _ _ (.inl rfl) x.w,h _ _ (.inr (.inl x.ks)) x.s,h _ _ (.inr (.inr x.km)) x.m,fun k hk=>h _ _ (.inr (.inl (x.kk k hk))) (x.k k hk),x.ks,x.km,x.kk,x.nd⟩
theorem Wn {l:Loc} (h:l=L.lw∨sK L l∨mK L l):rk l=false:=by
 rcases h with h | h | h
 ·rw [h];rfl
 ·exact h.ne (p:=fun k=>[60,12,61,1,13,14,15,16,19,20,21,22,6,7].contains k) rfl
 ·exact h.ne (p:=fun k=>[60,12,61,1,13,14,15,16,19,20,21,22,6,7].contains k) rfl
theorem Rd.mv (x:Rd s L σ₀ W.P W.c W.cuts σ) (p:Par L W.P σ') (w:Wf σ'):Rd s L σ' W.P W.c W.cuts σ':=⟨⟨⟨p,w,Nat.le_refl _,.refl⟩,x.gd,x.al,x.pl,x.sb⟩,x.rw_⟩
theorem Ws.go (x:Ws s B L σ₀ W d σ) {P:PS} {c:Nat} {cuts:List Nat} (y:Rp s L σ P c cuts σ') (h:P.rows.length < 900000):Ws s B L σ₀ {W with P:=P,c:=c,cuts:=cuts} d σ':=
 ⟨⟨⟨y.toRc.re,y.gd,y.al,y.pl,y.sb⟩,h⟩,by
  have t:=x.tb.keep fun l c z e=>y.kp.2 l c e (xf (Wn z))
  exact ⟨t.w,t.s,t.m,t.k,t.ks,t.km,t.kk,t.nd⟩,x.kp.trans y.kp.kp,Nat.le_trans x.nx y.nx⟩
theorem Ws.same (x:Ws s B L σ₀ W d σ) (h:zt σ σ') (w:Wf σ') (n:σ.nx≤σ'.nx):Ws s B L σ₀ W d σ':=⟨x.rd.mv (x.rd.par.oth fun l c _ e=>h.2 l c e) w,x.tb.keep fun l c _ e=>h.2 l c e,x.kp.trans h.kp,Nat.le_trans x.nx n⟩
theorem Ws.it (x:Ws s B L σ₀ W d σ) {k:List Nat} {v:V} (e:(wdv L B W.sl W.ml).lookup k=some v) {Q:V→Prop} (q:Q v):op (zD σ (.ref L.lw) (.str k)) Q:=by
 refine g_ ?_ q
 show bd (dsA σ L.lw) (fun d=>d.lookup k)=_
 rw [xJ x.tb.w];exact e
theorem Ws.its (x:Ws s B L σ₀ W d σ) {k:List Nat} {v:V} (e:d.lookup k=some v) {Q:V→Prop} (q:Q v):op (zD σ (.ref W.sl) (.str k)) Q:=by
 refine g_ ?_ q
 show bd (dsA σ W.sl) (fun d=>d.lookup k)=_
 rw [xJ x.tb.s];exact e
section
variable {Q:V→Prop}
theorem Ws.wp (x:Ws s B L σ₀ W d σ) (q:Q (.ref L.lp)):op (zD σ (.ref L.lw) (.str [112])) Q:=x.it rfl q
theorem Ws.wb (x:Ws s B L σ₀ W d σ) (q:Q (.ref B)):op (zD σ (.ref L.lw) (.str [98,97,115,101])) Q:=x.it rfl q
theorem Ws.wpl (x:Ws s B L σ₀ W d σ) (q:Q (.int (L.place:Int))):op (zD σ (.ref L.lw) (.str [112,108,97,99,101])) Q:=x.it rfl q
theorem Ws.ws (x:Ws s B L σ₀ W d σ) (q:Q (.ref W.sl)):op (zD σ (.ref L.lw) (.str [115])) Q:=x.it rfl q
theorem Ws.wm (x:Ws s B L σ₀ W d σ) (q:Q (.ref W.ml)):op (zD σ (.ref L.lw) (.str [109,97,114,107,115])) Q:=x.it rfl q
theorem Ws.wk (x:Ws s B L σ₀ W d σ) (q:Q (.bool L.named)):op (zD σ (.ref L.lw) (.str [107,110,111,119,115])) Q:=x.it rfl q
end
theorem Ws.put (x:Ws s B L σ₀ W d σ) {k:List Nat} {u:V} {d':List (List Nat×V)} {Q:St→Prop} (hl:d.length < 100) (e:(if (d.lookup k).isSome then d.map (fun p=>if p.1=k then (p.1,u) else p) else d++[(k,u)])=d') (q:∀ σ',Ws s B L σ₀ W d' σ'→Q σ'):zw (.ref W.sl) (.str k) u σ Q:=by
 unfold zw
 refine .inr ((g_ (xJ x.tb.s)) ⟨hl,?_⟩)
 rw [e]
 have o:∀ l c,rk l=true→σ.m l=some c→(σ.set W.sl (.ds d')).m l=some c:=fun l c r e=>(zl fun z=>zk ((Wn (.inr (.inl x.tb.ks))).symm.trans ((congrArg rk z).symm.trans r))).trans e
 have n1:L.lw≠W.sl:=fun z=>zk ((x.tb.ks.ne (p:=fun k=>Nat.beq 313 k) rfl).symm.trans (congrArg (fun l:Loc=>Nat.beq 313 l.2.1) z.symm))
 have n2:W.ml≠W.sl:=fun z=>zk ((x.tb.ks.ne (p:=fun k=>Nat.beq 314 k||Nat.beq 343 k) rfl).symm.trans ((congrArg (fun l:Loc=>Nat.beq 314 l.2.1||Nat.beq 343 l.2.1) z.symm).trans (x.tb.km.2.elim (fun e=>by rw [e];rfl) fun e=>by rw [e];rfl)))
 exact q _ ⟨x.rd.mv (x.rd.par.oth o) (x.rd.wf.set (x.rd.wf _ _ x.tb.s) _),⟨(zl n1).trans x.tb.w,zj,(zl n2).trans x.tb.m,fun k hk=>(zl fun z:k.l=W.sl=>(List.nodup_cons.mp x.tb.nd).1 (by rw [← z];exact List.mem_map_of_mem hk)).trans (x.tb.k k hk),x.tb.ks,x.tb.km,x.tb.kk,x.tb.nd⟩,x.kp.set x.tb.ks.1,x.nx⟩
end
structure Sm (n:Nat) (P:PS):Prop where
 rows:P.rows.length≤n
 lab:P.lc.ls.length≤n
 cov:P.lc.cs.length≤n
 pr:∀ g∈P.rows,g.args.plain 18=true
 pl:∀ v∈P.lc.ls,v.plain 19=true
 pc:∀ v∈P.lc.cs,v.plain 19=true
 pp:P.sc.pending.plain 19=true
theorem Sm.mono {n n':Nat} {P:PS} (h:n≤n') (x:Sm n P):Sm n' P:=⟨Nat.le_trans x.rows h,Nat.le_trans x.lab h,Nat.le_trans x.cov h,x.pr,x.pl,x.pc,x.pp⟩
noncomputable def Ran (P P':PS):Prop:=Trn P.tk P.splits P'.tk P'.splits∧∃ r,P'.rows=P.rows++r
theorem Ran.trans {a b c:PS} (x:Ran a b) (y:Ran b c):Ran a c:=⟨x.1.trans y.1,by
 obtain ⟨r,e⟩:=x.2
 obtain ⟨r',e'⟩:=y.2
 exact ⟨r++r',by rw [e',e,List.append_assoc]⟩⟩
theorem Ran.of {P P':PS} (h1:Trn P.tk P.splits P'.tk P'.splits) (h3:P'.rows=P.rows):Ran P P':=⟨h1,[],by rw [h3,List.append_nil]⟩
structure Stt (s:List Nat) (n:Nat) (P:PS) (c:Nat) (cuts:List Nat):Prop where
 dp:0≤P.sc.deep∧P.sc.deep+(cl s c:Int)≤13
 ct:cuts.length≤c
 sm:Sm n P
structure Wp (s:List Nat) (n:Nat) (W:WR):Prop where
 st:Stt s n W.P W.c W.cuts
 mks:∀ k∈W.marks,Stt s n k.P k.c k.cuts∧At s k.cuts k.c k.P∧SpB s k.P k.c
 sv:W.P.saved=W.marks.map (fun k=>zT k.P k.a k.b)
 ml:W.marks.length≤n
 rn:(W.marks.map (·.P)++[W.P]).Pairwise Ran
structure Wd (s:List Nat) (B:Loc) (L:PL) (n:Nat) (σ₀:St) (W:WR) (σ:St):Prop where
 ws:Ws s B L σ₀ W (sd W.P W.c W.cuts) σ
 wp:Wp s n W
theorem Wp.to {s:List Nat} {n n':Nat} {W:WR} (x:Wp s n W) (hn:n≤n') {P':PS} {c':Nat} {cuts':List Nat} (st:Stt s n' P' c' cuts') (sv:P'.saved=W.P.saved) (ran:Ran W.P P'):Wp s n' {W with P:=P',c:=c',cuts:=cuts'}:=
 ⟨st,fun k hk=>⟨⟨(x.mks k hk).1.dp,(x.mks k hk).1.ct,(x.mks k hk).1.sm.mono hn⟩,(x.mks k hk).2⟩,sv.trans x.sv,Nat.le_trans x.ml hn,by
  have r:=List.pairwise_append.mp x.rn
  exact List.pairwise_append.mpr ⟨r.1,List.pairwise_singleton _ _,fun a ha b hb=>by
   rw [List.mem_singleton.mp hb]
   exact (r.2.2 a ha _ (List.mem_singleton.mpr rfl)).trans ran⟩⟩
noncomputable def tol (msg:List Nat) (told:List Dg) (a:Nat):List Dg:=if msg=[] then told else told++[dg msg a]
noncomputable def wN (bare:Bool) (k:Nat):Bool:=bare&&decide (k=0)
section
variable {s:List Nat} {B:Loc} {L:PL} {σ₀ σ σ':St} {W:WR} {n d:Nat} {Q:V→St→Prop} {X:String→St→Prop}
theorem Wd.small (x:Wd s B L n σ₀ W σ) (hn:n≤90):gW W.P:=by
 have h:=x.wp.st.sm
 exact ⟨Nat.le_trans h.rows (Nat.le_trans hn (by decide)),Nat.le_trans (x.ws.rd.sb.le x.ws.rd.pl.le) (by decide),Nat.le_trans h.cov (Nat.le_trans hn (by decide)),Nat.le_trans h.lab (Nat.le_trans hn (by decide)),by rw [x.wp.sv,List.length_map];exact Nat.le_trans x.wp.ml (Nat.le_trans hn (by decide))⟩
theorem Ws.putE (x:Ws s B L σ₀ W d' σ) {k:List Nat} {u u':V} (hu:u=u') {d'':List (List Nat×V)} {Q:St→Prop} (hl:d'.length < 100) (e:(if (d'.lookup k).isSome then d'.map (fun p=>if p.1=k then (p.1,u') else p) else d'++[(k,u')])=d'') (q:∀ σ',Ws s B L σ₀ W d'' σ'→Q σ'):zw (.ref W.sl) (.str k) u σ Q:=by
 rw [hu];exact x.put hl e q
theorem it0 {t r:List Nat} {a:Nat} (h:t=a::r) (hl:t.length≤3):zD σ (.str t) (.int 0)=some (.str [a]):=by
 rw [h] at hl ⊢
 show oO (oO none (oO (bd (ym ((0:Nat):Int) (r.length+1)) fun j=>bd (a::r)[j]? fun c=>some (V.str [c])) none)) none=_
 rw [jG (Nat.succ_pos _) (Nat.le_trans hl (by decide))];rfl
inductive GI (s:List Nat) (B:Loc) (L:PL) (n:Nat) (σ₀:St) (a:Nat):Nat→Frm→St→Prop
 | mk {W:WR} {σ:St}:Wd s B L n σ₀ W σ→GI s B L n σ₀ a (s.length - W.c) [("src",.str s),("w",.ref L.lw),("letter",.str [a]),("s",.ref W.sl),("sign",(sg s W.c).v)] σ
theorem HA (x:Wd s B L n σ₀ W σ) (hd:4≤d) {a:Nat} (q:∀ W' σ',Wd s B L n σ₀ W' σ'→((sg s W'.c).text=[]∨∃ r,(sg s W'.c).text=a::r)→Q .none σ'):ze (RC d) "_law_go" [.str s,.ref L.lw,.str [a]] σ Q X:=by
 refine zg Xs (zi hd rfl) rfl fun d hd=>x.ws.ws (x.ws.its (v:=.int (W.c:Int)) rfl (zv hd x.ws.rd.hs ?_))
 refine wG (GI s B L n σ₀ a) 5 (.mk x) ?_
 clear x
 intro m F σ I Q' X' qn qr qx
 cases I with
 | @mk W σ x=>
 cases ht:(sg s W.c).text with
 | nil=>exact m_f (dnf ht) (m_f (dnf ht) (q W σ x (.inl ht)))
 | cons y r=>
  have ne:(sg s W.c).text≠[]:=xq ht
  have ⟨e1,e2⟩:=zN ne
  refine m_t (dnt ne) ((g_ (it0 ht vi)) (zC (fun h=>x.ws.wp (XN x.ws.rd (zi hd rfl) ne fun σ1 z=>?_)) fun h=>q W σ x (.inr ⟨r,by rw [ht,(List.cons.inj (gI h)).1]⟩)))
  have X1:=x.ws.go z.toRp z.rw_
  refine X1.put (d':=sd W.P.next (sg s W.c).en W.cuts) (za (Nat.le_refl 10) rfl) rfl fun σ2 X2=>X2.its (v:=.int ((sg s W.c).en:Int)) rfl (zv hd x.ws.rd.hs (qn 5 (.mk ⟨X2,x.wp.to (Nat.le_refl _) ⟨⟨x.wp.st.dp.1,Int.le_trans (Int.add_le_add_left (Int.ofNat_le.mpr (yl (Nat.le_of_lt e1))) _) x.wp.st.dp.2⟩,Nat.le_trans x.wp.st.ct (Nat.le_of_lt e1),⟨x.wp.st.sm.rows,x.wp.st.sm.lab,x.wp.st.sm.cov,x.wp.st.sm.pr,x.wp.st.sm.pl,x.wp.st.sm.pc,x.wp.st.sm.pp⟩⟩ rfl (.of .refl rfl)⟩) (Nat.sub_lt_sub_left (Nat.lt_of_lt_of_le e1 e2) e1)))
theorem Kl {a b:List Nat}:V.tup ((a.map fun (x:Nat)=>V.int (x:Int))++(b.map fun (x:Nat)=>V.int (x:Int)))=yN (a++b):=congrArg V.tup List.map_append.symm
theorem uB {a:List Dg} {g:Dg} {v:V} (h:v=g.row):V.tup (a.map Dg.row++[v])=.tup ((a++[g]).map Dg.row):=by rw [h,List.map_append];rfl
variable {c:Nat} {cuts:List Nat} {deep:Int} {told:List Dg} {labels covers:List V} {plain:V} {allow bare:Bool}
theorem w6 (x:Ws s B L σ₀ W (sdv c cuts deep told labels covers plain allow bare) σ) (hd:4≤d) {msg:List Nat} {c2 k:Nat} {cuts2:List Nat} {u:V} (hcut:cuts.length+cuts2.length≤1000000) (ht:told.length < 1000)
  (q:∀ σ',Ws s B L σ₀ W (sdv c2 (cuts++cuts2) (deep+(k:Int)) (tol msg told (sg s c2).at_) labels covers plain allow (wN bare k)) σ'→Q .none σ'):ze (RC d) "_law_move" [.str s,.ref L.lw,.tup [.str msg,.int (c2:Int),.int (k:Int),yN cuts2,u]] σ Q X:=by
 have l9:Nat.ble 10 100=true:=rfl
 have ll:∀ {A:Type} {f:Nat→A},(cuts.map f).length+(cuts2.map f).length≤1000000:=fun {A f}=>by rw [List.length_map,List.length_map];exact hcut
 have lt:(told.map Dg.row).length+1≤1000000:=by rw [List.length_map];exact Nat.le_trans (Nat.succ_le_of_lt ht) (by decide)
 refine zg (k:=2) Zg (zi hd rfl) rfl fun d hd=>x.ws (x.put (d':=sdv c2 cuts deep told labels covers plain allow bare) (za (Nat.le_refl 10) l9) rfl fun σ1 x=>x.its (v:=.int deep) rfl (x.put (d':=sdv c2 cuts (deep+(k:Int)) told labels covers plain allow bare) (za (Nat.le_refl 10) l9) rfl fun σ2 x=>x.its (v:=yN cuts) rfl ⟨ll,x.putE (d'':=sdv c2 (cuts++cuts2) (deep+(k:Int)) told labels covers plain allow bare) Kl (za (Nat.le_refl 10) l9) rfl fun σ3 x=>x.its (v:=.bool bare) rfl ?_⟩))
 refine (fun rest=>zC (fun h=>x.putE (u':=.bool (wN bare k)) (d'':=sdv c2 (cuts++cuts2) (deep+(k:Int)) told labels covers plain allow (wN bare k))  (congrArg V.bool (by rw [h];exact decide_eq_decide.mpr ⟨fun z=>Int.ofNat.inj z,fun z=>congrArg _ z⟩)) (za (Nat.le_refl 10) l9) rfl rest) fun h=>x.putE (u':=.bool (wN bare k)) (d'':=sdv c2 (cuts++cuts2) (deep+(k:Int)) told labels covers plain allow (wN bare k))  (congrArg V.bool (by rw [h];rfl)) (za (Nat.le_refl 10) l9) rfl rest) ?_
 intro σ4 x
 unfold tol at q
 refine zv hd x.rd.hs (zC (fun h=>?_) fun h=>zC (fun h2=>?_) fun h2=>?_)
 ·have h:=(d_t h:msg=kj)
  rw [if_neg (by rw [h];exact List.cons_ne_nil _ _)] at q
  exact x.its (v:=.tup (told.map Dg.row)) rfl ⟨Nat.zero_le _,za (Nat.le_refl 3) rfl,za (Nat.le_refl 1) rfl,lt,x.putE (uB (by unfold dg;rw [if_pos h];rfl)) (za (Nat.le_refl 10) l9) rfl q⟩
 ·rw [if_neg (XM h2)] at q
  exact x.its (v:=.tup (told.map Dg.row)) rfl ⟨za (Nat.le_refl 1) rfl,za (Nat.le_refl 3) rfl,za (Nat.le_refl 1) rfl,lt,x.putE (uB (by unfold dg;rw [if_neg (d_f h:msg≠kj)];rfl)) (za (Nat.le_refl 10) l9) rfl q⟩
 ·rw [if_pos (gI h2)] at q
  exact q _ x
end
mutual
theorem ZZ:∀ (k:Nd) (m:Nat),(k.says m).length=k.size
 | .mk _ _ ks,m=>(congrArg Nat.succ (kS ks (m+1))).trans (Nat.add_comm (zS ks) 1)
theorem kS:∀ (ks:List Nd) (m:Nat),(zI ks m).length=zS ks
 | [],_=>rfl
 | k::ks,m=>List.length_append.trans (congr (congrArg HAdd.hAdd (ZZ k m)) (kS ks m))
end
inductive NI (v:V) (m N:Nat) (fin:List Sd) (σ:St):List V→Frm→St→Prop
 | mk {nds:List Nd} {acc:List Sd} {vs:List V} {ov:V}:xr nds=vs→xd acc=ov→acc++zI nds m=fin→zP nds≤N→acc.length+zS nds≤10000→NI v m N fin σ vs [("nodes",v),("level",.int (m:Int)),("out",ov)] σ
noncomputable def NmH (N k:Nat) (σ:St):Prop:=∀ {d:Nat} {nds:List Nd} {m:Nat} {v:V} {Q:V→St→Prop} {X:String→St→Prop},k≤d→zP nds≤N→zS nds≤10000→zX σ v=some (xr nds)→Q (xd (zI nds m)) σ→ze (RC d) "_law_names" [v,.int (m:Int)] σ Q X
theorem UT {a b k:Nat} (h:a+(1+b+k)≤10000):a+1≤1000000∧a+1+b≤1000000∧a+(b+1)+k≤10000∧b≤10000:=by omega
theorem gk {N k:Nat} {σ:St} (H:∀ n,n+1=N→NmH n k σ):NmH N (k+2) σ:=by
 intro d nds m v Q X hd hN hs hv q
 refine zg qa hd rfl fun e he=>?_
 refine ⟨Nat.zero_le _,(g_ hv) (qG (NI v m N (zI nds m) σ) ?_ ?_ (.mk (acc:=[]) rfl rfl rfl hN (by show 0+_≤_;rw [Nat.zero_add];exact hs)))⟩
 ·intro F σ' I
  cases I with
  | @mk nds acc vs ov e1 e2 e3 h1 h2=>
  cases nds with
  | cons _ _=>cases e1
  | nil=>
   rw [zI,List.append_nil] at e3
   rw [← e2,e3];exact q
 ·intro w r F σ' I Q' qn qr qb
  cases I with
  | @mk nds acc vs ov e1 e2 e3 h1 h2=>
  cases nds with
  | nil=>cases e1
  | cons nd nds=>
  cases e1
  obtain ⟨n,a,ks⟩:=nd
  have ⟨b1,b2,b3,b4⟩:=UT (a:=acc.length) (b:=zS ks) (k:=zS nds) h2
  have h3:=Nat.max_le.mp h1
  rw [← e2]
  cases N with
  | zero=>exact absurd (Nat.le_trans (Nat.le_add_right 1 (zP ks)) h3.1) (Nat.not_succ_le_zero _)
  | succ N=>
  refine (g_ wH) ⟨za (Nat.le_refl 3) rfl,za (Nat.le_refl 1) rfl,?_,H N rfl (m:=m+1) (v:=.flst (xr ks)) he (Nat.le_of_succ_le_succ (Nat.le_trans (Nat.le_of_eq (Nat.add_comm (zP ks) 1)) h3.1)) b4 rfl ⟨?_,qn 3 hv (.mk rfl (acc:=acc++(Nd.mk n a ks).says m) ?_ ?_ h3.2 ?_)⟩⟩
  ·rw [List.length_map];exact b1
  ·rw [List.length_append,List.length_map,List.length_map,kS];exact b2
  ·rw [xd,List.map_append,List.append_assoc];rfl
  ·rw [List.append_assoc];exact e3
  ·rw [List.length_append,ZZ];show _+(1+zS ks)+_≤_;rw [Nat.add_comm 1];exact b3
theorem ZK {N:Nat} {σ:St}:NmH N (2 * N+2) σ:=by
 induction N with
 | zero=>exact gk (k:=0) fun _ h=>absurd h (Nat.succ_ne_zero _)
 | succ N ih=>exact gk (k:=2 * N+2) fun n e=>by rw [Nat.succ.inj e];exact ih
noncomputable def asc (t:List Nat):Bool:=t.all (· < 128)
noncomputable def xt (l:List Sd):Prop:=∀ x∈l,asc x.2.1=true
noncomputable def Yo:List (List Nat):=[[],kj,[62],[60],[41]]
theorem GG {m:List Nat} (h:m∈Yo):asc m=true:=(by decide:∀ m∈Yo,asc m=true) m h
theorem v9 {a b:List Sd} (h:xt a) (h':xt b):xt (a++b):=fun x hx=>(List.mem_append.mp hx).elim (h x) (h' x)
theorem gU {x:Sd} (h:asc x.2.1=true):xt [x]:=fun _ hx=>List.mem_singleton.mp hx▸h
theorem XW {l:List Sd} (h:xt l):xt (kg l):=fun x hx=>by
 obtain ⟨y,hy,rfl⟩:=List.mem_map.mp hx
 exact h y hy
theorem Kz {x:Sd} {l:List Sd} (h:asc x.2.1=true) (h':xt l):xt (x::l):=v9 (gU h) h'
theorem kK {k:Nat} {l:List Sd} (h:xt l):zq (k+1) (l.map Sd.v)=true:=yp.mpr fun v hv=>by
 obtain ⟨x,hx,rfl⟩:=List.mem_map.mp hv
 show (asc x.2.1&&_)=true
 rw [h x hx];rfl
theorem Vr {m:List Nat} {a:Nat} (h:m∈Yo):(dg m a).args.plain 18=true:=by
 have:=GG h
 unfold dg
 split
 ·rfl
 ·show (asc m&&true)=true
  rw [this];rfl
section
variable {s:List Nat} {named:Bool} {o:Nat} {h:List Sd}
theorem vA (al:xp s) {c:Nat}:asc (sg s c).text=true:=List.all_eq_true.mpr fun x hx=>(by decide:∀ x∈[97,98,99,100,60,62,61,44,40,41,32,10],decide (x < 128)=true) x (al x (w9 hx))
theorem KY (al:xp s) {m c:Nat} {w:Bool} {cuts:List Nat} {said:List Sd} (hs:xt said):Sum.casesOn (motive:=fun _=>Prop) (stp s named m w c cuts said) (fun r=>xt r.said∧r.msg∈Yo) fun x=>xt x.2.2.2.2:=by
 have one:∀ k,xt (said++[(k,(sg s c).text,(sg s c).at_)]):=fun k=>v9 hs (gU (vA al))
 cases m with
 | zero=>exact ⟨hs,.head _⟩
 | succ m=>
  cases w with
  | true=>
   cases e:named&&zM (sg s c).text with
   | false=>rw [vg e];exact ⟨hs,.tail _ (.head _)⟩
   | true=>
    cases e':yy (sg s (sg s c).en) with
    | false=>rw [jx e e'];exact one _
    | true=>rw [xM e e'];exact one _
  | false=>
   by_cases e:(sg s c).text=[44]
   ·rw [yZ e];exact hs
   ·by_cases e':pySl (sg s c).text 0 1=[62]
    ·rw [xb e'];exact hs
    ·rw [wa e e'];exact ⟨hs,.tail _ (.tail _ (.head _))⟩
theorem Itr.pl (al:xp s) {m c:Nat} {w:Bool} {cuts:List Nat} {said:List Sd} {r:Res} (x:Itr s named m w c cuts said r):xt said→xt r.said∧r.msg∈Yo:=by
 induction x with
 | @fin m c w cuts said r e=>exact fun hs=>by have:=KY (named:=named) (m:=m) (w:=w) (c:=c) (cuts:=cuts) al hs;rw [e] at this;exact this
 | @go m c m' c' w w' cuts cuts' said said' r e _ ih=>exact fun hs=>ih (by have:=KY (named:=named) (m:=m) (w:=w) (c:=c) (cuts:=cuts) al hs;rw [e] at this;exact this)
theorem XX (al:xp s) {c:Nat}:xt (ang s named c).said∧(ang s named c).msg∈Yo:=by
 rcases (vB (s:=s) (named:=named) (c:=c)).s with ⟨_,e⟩ | ⟨_,x⟩
 ·rw [e];exact ⟨fun _ h=>absurd h List.not_mem_nil,.tail _ (.tail _ (.tail _ (.head _)))⟩
 ·exact x.pl al fun _ h=>absurd h List.not_mem_nil
noncomputable def CF (s:List Nat) (h:List Sd) (c:Nat) (cuts:List Nat) (said:List Sd):yY→Prop
 | .none=>False
 | .fault m c2 _ cs=>m∈Yo∧cs.length+c≤cuts.length+c2
 | .ok c2 cs _ h' sd'=>h'=h∧cs.length+c≤cuts.length+c2∧(xt said→xt sd')
noncomputable def CG (s:List Nat) (h:List Sd) (c:Nat) (cuts:List Nat) (said:List Sd) (t:yY ⊕ (Nat×List Nat×List Sd)):Prop:=
 Sum.casesOn (motive:=fun _=>Prop) t (CF s h c cuts said) fun x=>c < x.1∧x.1≤s.length∧x.2.1.length+c≤cuts.length+x.1∧(xt said→xt x.2.2)
theorem CG.up {c c':Nat} {cuts cuts':List Nat} {said said':List Sd} {t:yY ⊕ (Nat×List Nat×List Sd)} (x:CG s h c' cuts' said' t) (h1:c≤c') (h2:cuts'.length+c≤cuts.length+c') (h3:xt said→xt said'):CG s h c cuts said t:=by
 have b:∀ {k c2:Nat},k+c'≤cuts'.length+c2→k+c≤cuts.length+c2:=fun h=>by omega
 cases t with
 | inr x'=>exact ⟨Nat.lt_of_le_of_lt h1 x.1,x.2.1,b x.2.2.1,fun z=>x.2.2.2 (h3 z)⟩
 | inl r=>
  cases r with
  | none=>exact x
  | fault m c2 k cs=>exact ⟨x.1,b x.2⟩
  | ok c2 cs o' h' sd'=>exact ⟨x.1,b x.2.1,fun z=>x.2.2 (h3 z)⟩
theorem KS {c:Nat} {cuts:List Nat} {said:List Sd}:CG s h c cuts said (tlA s o h c cuts said):=by
 have b:∀ {e},c < e→cuts.length+c≤cuts.length+e:=fun h=>Nat.add_le_add_left (Nat.le_of_lt h) _
 by_cases e:(sg s c).text=[44]
 ·have ⟨z1,z2⟩:=zN (xq e)
  rw [vf e];exact ⟨z1,z2,b z1,id⟩
 ·by_cases e':(sg s c).text=[41]
  ·have ⟨z1,z2⟩:=zN (xq e')
   rw [uC e'];exact ⟨rfl,b z1,id⟩
  ·rw [qZ e e'];exact ⟨.tail _ (.tail _ (.tail _ (.tail _ (.head _)))),Nat.le_refl _⟩
theorem Xf (al:xp s) {c:Nat} {cuts:List Nat} {said:List Sd}:CG s h c cuts said (stA s named o h c cuts said):=by
 by_cases e:(sg s c).text=[41]
 ·have ⟨z1,z2⟩:=zN (xq e)
  rw [wc e];exact ⟨rfl,Nat.add_le_add_left (Nat.le_of_lt z1) _,id⟩
 ·cases e1:zM (sg s c).text with
  | false=>rw [uH e e1];exact ⟨.tail _ (.head _),Nat.le_refl _⟩
  | true=>
   have ⟨z1,z2⟩:=zN (wB e1)
   cases e2:yy (sg s (sg s c).en) with
   | false=>rw [uI e1 e2];exact KS.up (Nat.le_of_lt z1) (Nat.add_le_add_left (Nat.le_of_lt z1) _) fun hs=>v9 hs (gU (vA al))
   | true=>
    have bd:=gV (s:=s) (named:=named) z2
    have pl:=XX (s:=s) (named:=named) al (c:=(sg s c).en)
    have le:=Nat.le_trans (Nat.le_of_lt z1) bd.1
    have cb:(cuts++(ang s named (sg s c).en).cuts).length+c≤cuts.length+(ang s named (sg s c).en).c:=by
     rw [List.length_append,Nat.add_assoc];exact Nat.add_le_add_left (Nat.le_trans (Nat.add_le_add_left (Nat.le_of_lt z1) _) bd.2.2.1) _
    by_cases e3:(ang s named (sg s c).en).msg=[]
    ·rw [uJ e1 e2 e3];exact KS.up le cb fun hs=>v9 hs (Kz (vA al) (XW pl.1))
    ·rw [h9 e1 e2 e3];exact ⟨pl.2,cb⟩
theorem zY.fact (al:xp s) {c:Nat} {cuts:List Nat} {said:List Sd} {r:yY} (x:zY s named o h c cuts said r):CF s h c cuts said r:=by
 induction x with
 | @fin c cuts said r e=>have:=Xf (named:=named) (o:=o) (h:=h) al (c:=c) (cuts:=cuts) (said:=said);rw [e] at this;exact this
 | @go c c' cuts cuts' said said' r e _ ih=>
  have:=Xf (named:=named) (o:=o) (h:=h) al (c:=c) (cuts:=cuts) (said:=said)
  rw [e] at this
  exact CG.up (s:=s) (t:=.inl _) ih (Nat.le_of_lt this.1) this.2.2.1 this.2.2.2
theorem zY.total (al:xp s):∀ (n:Nat) {c:Nat} {cuts:List Nat} {said:List Sd},s.length - c < n→∃ r,zY s named o h c cuts said r
 | 0,_,_,_,hn=>absurd hn (Nat.not_lt_zero _)
 | n+1,c,cuts,said,hn=>by
  cases e:stA s named o h c cuts said with
  | inl r=>exact ⟨r,.fin e⟩
  | inr x=>
   have g:=Xf (named:=named) (o:=o) (h:=h) al (c:=c) (cuts:=cuts) (said:=said)
   rw [e] at g
   obtain ⟨r,hr⟩:=zY.total al n (c:=x.1) (cuts:=x.2.1) (said:=x.2.2) (Nat.lt_of_lt_of_le (Nat.sub_lt_sub_left (Nat.lt_of_lt_of_le g.1 g.2.1) g.1) (Nat.le_of_lt_succ hn))
   exact ⟨r,.go e hr⟩
theorem xG.total (al:xp s) {c:Nat}:∃ r,xG s named c r:=by
 by_cases q:(ang s named c).msg=[]∧(sg s (ang s named c).c).text=[40]
 ·obtain ⟨r,hr⟩:=zY.total (s:=s) (named:=named) (o:=(sg s (ang s named c).c).at_) (h:=(ang s named c).said) al _ (c:=(sg s (ang s named c).c).en) (cuts:=(ang s named c).cuts) (said:=[]) (Nat.lt_succ_self _)
  exact ⟨r,.go q.1 q.2 hr⟩
 ·exact ⟨_,.none ((Classical.not_and_iff_not_or_not.mp q).imp id id)⟩
theorem xG.det {c:Nat} {r r':yY} (x:xG s named c r) (y:xG s named c r'):r=r':=by
 cases x with
 | none a=>cases y with
  | none=>rfl
  | go b c' _=>exact a.elim (absurd b) (absurd c')
 | go b c' z=>cases y with
  | none a=>exact a.elim (absurd b) (absurd c')
  | go _ _ z'=>exact z.det z'
theorem xG.fact (al:xp s) {c:Nat} (hc:c≤s.length) {r:yY} (x:xG s named c r):r=.none∨CF s (ang s named c).said c [] [] r:=by
 cases x with
 | none=>exact .inl rfl
 | go b q z=>
  have bd:=gV (s:=s) (named:=named) hc
  have ⟨e1,e2⟩:=zN (xq q)
  exact .inr (CG.up (s:=s) (t:=.inl _) (z.fact al) (Nat.le_trans bd.1 (Nat.le_of_lt e1)) (Nat.le_trans bd.2.2.1 (Nat.le_trans (Nat.le_of_lt e1) (Nat.le_add_left _ _))) id)
end
noncomputable def PS.mvk (P:PS) (a:Nat) (tk:List Tk) (sp:List (Nat×Tk)) (msg:List Nat) (x k:Nat) (al:Bool):PS:=⟨⟨a,P.sc.deep+(k:Int),P.sc.pending,al,P.sc.inf,P.sc.inl,P.sc.ins,wN P.sc.nocond k,P.sc.retbar,P.sc.inlit⟩,P.lc,tk,tol msg P.rows x,sp,P.saved⟩
section
variable {P:PS} {a x k:Nat} {tk:List Tk} {sp:List (Nat×Tk)} {msg:List Nat}
theorem UW:P.mv a tk sp=P.mvk a tk sp [] x 0 P.sc.allow:=by
 unfold PS.mvk PS.mv wN
 rw [show P.sc.deep+((0:Nat):Int)=P.sc.deep from Int.add_zero _,show (P.sc.nocond&&decide (0=0))=P.sc.nocond from Bool.and_true _];rfl
theorem Ee {b:Bool}:(if k=0 then b else false)=wN b k:=by
 unfold wN
 by_cases h:k=0
 ·rw [if_pos h,dt h,Bool.and_true]
 ·rw [if_neg h,df h,Bool.and_false]
theorem VR (h:msg≠[]) {Pa:PS} {al:Bool} (e:Pa=P.al al):Pa.bad a tk sp (dg msg x) (P.sc.deep+(k:Int)) (if k=0 then P.sc.nocond else false)=P.mvk a tk sp msg x k al:=by
 unfold PS.mvk tol PS.bad
 rw [if_neg h,Ee,e];rfl
end
section
variable {s:List Nat} {B:Loc} {L:PL} {σ₀ σ σ':St} {W:WR} {n d:Nat} {Q:V→St→Prop} {X:String→St→Prop}
theorem Wd.mvk (x:Wd s B L n σ₀ W σ) {a:Nat} {tk:List Tk} {sp:List (Nat×Tk)} {msg:List Nat} {k:Nat} {al:Bool} {c2:Nat} {cuts2:List Nat} (hX:Ws s B L σ₀ {W with P:=W.P.mvk a tk sp msg (sg s c2).at_ k al,c:=c2,cuts:=W.cuts++cuts2} (sd (W.P.mvk a tk sp msg (sg s c2).at_ k al) c2 (W.cuts++cuts2)) σ')
  (trn:Trn W.P.tk W.P.splits tk sp) (cnt:k+cl s c2≤cl s W.c) (ct:cuts2.length+W.c≤c2) (ms:msg∈Yo):Wd s B L (n+1) σ₀ {W with P:=W.P.mvk a tk sp msg (sg s c2).at_ k al,c:=c2,cuts:=W.cuts++cuts2} σ':=by
 have st:=x.wp.st
 refine ⟨hX,x.wp.to (Nat.le_succ n) ⟨⟨Int.add_nonneg st.dp.1 (Int.natCast_nonneg k),?_⟩,?_,?_,Nat.le_succ_of_le st.sm.lab,Nat.le_succ_of_le st.sm.cov,?_,st.sm.pl,st.sm.pc,st.sm.pp⟩ rfl ⟨trn,?_⟩⟩
 ·show W.P.sc.deep+(k:Int)+(cl s c2:Int)≤13
  rw [Int.add_assoc]
  exact Int.le_trans (Int.add_le_add_left (Int.ofNat_le.mpr cnt) _) st.dp.2
 ·rw [List.length_append];exact Nat.le_trans (Nat.add_le_add_right st.ct _) (Nat.le_trans (Nat.le_of_eq (Nat.add_comm _ _)) ct)
 ·show (tol msg W.P.rows (sg s c2).at_).length≤n+1
  unfold tol
  split
  ·exact Nat.le_succ_of_le st.sm.rows
  ·rw [List.length_append];exact Nat.succ_le_succ st.sm.rows
 ·show ∀ g∈tol msg W.P.rows (sg s c2).at_,_
  unfold tol
  split
  ·exact st.sm.pr
  ·exact fun g hg=>(List.mem_append.mp hg).elim (st.sm.pr g) fun h=>by rw [List.mem_singleton.mp h];exact Vr ms
 ·show ∃ r,tol msg W.P.rows (sg s c2).at_=W.P.rows++r
  unfold tol
  split
  ·exact ⟨[],(List.append_nil _).symm⟩
  ·exact ⟨_,rfl⟩
theorem Wd.lim (x:Wd s B L n σ₀ W σ):Lim s W.P.sc.deep W.c 39∧Lim s W.P.sc.deep W.c 40∧∀ {k},Nat.ble k 100=true→24 * cl s W.c+k≤480:=by
 have h:=x.wp.st.dp
 have:cl s W.c≤13:=by omega
 exact ⟨⟨by omega,by omega⟩,⟨by omega,by omega⟩,fun {k} e=>Nat.add_le_add (Nat.le_trans (Nat.mul_le_mul_left 24 this) (by decide:24 * 13≤380)) (Nat.le_of_ble_eq_true e)⟩
theorem Wd.mil (x:Wd s B L n σ₀ W σ) (hn:n≤80) {c2:Nat} {cuts2:List Nat} (ct:cuts2.length+W.c≤c2) (hc:c2≤s.length):W.cuts.length+cuts2.length≤1000000∧W.P.rows.length < 1000:=
 ⟨Nat.le_trans (Nat.add_le_add_right x.wp.st.ct _) (Nat.le_trans (Nat.le_of_eq (Nat.add_comm _ _)) (Nat.le_trans ct (Nat.le_trans hc (Nat.le_trans x.ws.rd.hs (by decide))))),Nat.lt_of_le_of_lt x.wp.st.sm.rows (Nat.lt_of_le_of_lt hn (by decide))⟩
noncomputable def LQ (s:List Nat) (B:Loc) (L:PL) (n:Nat) (σ₀:St) (Q:V→St→Prop):Prop:=∀ W' σ',Wd s B L (n+1) σ₀ W' σ'→Q (.bool true) σ'
theorem uN (x:Wd s B L n σ₀ W σ) (hn:n≤80) {a:Nat} {tk:List Tk} {sp:List (Nat×Tk)} {msg:List Nat} {y k:Nat} {al:Bool}:(W.P.mvk a tk sp msg y k al).rows.length < 900000:=by
 show (tol msg W.P.rows y).length < 900000
 have h:=x.wp.st.sm.rows
 unfold tol
 split
 ·exact Nat.lt_of_le_of_lt h (Nat.lt_of_le_of_lt hn (by decide))
 ·rw [List.length_append];exact Nat.lt_of_le_of_lt (Nat.succ_le_succ h) (Nat.lt_of_le_of_lt (Nat.succ_le_succ hn) (by decide))
theorem JD (x:Wd s B L n σ₀ W σ) (hd:500≤d) (hn:n≤80) (q:LQ s B L n σ₀ Q):ze (RC d) "_law_kinds" [.str s,.ref L.lw] σ Q X:=by
 refine zg (k:=498) qc hd rfl fun d hd=>HA x (zi hd rfl) fun W σ1 x _=>x.ws.ws (x.ws.its (v:=.int (W.c:Int)) rfl (x.ws.wk (jb (zi hd rfl) x.ws.rd.hs x.ws.rd.pl.le vB (x.ws.wp (VA x.ws.rd hO.1 x.lim.2.1 (Nat.le_trans (x.lim.2.2 rfl) (zi hd rfl)) (fun l nds a tk sp c2 cuts2 σ2 ok y no rk0 hm=>?_) fun msg k a tk sp c2 cuts2 σ2 bad y=>?_)))))
 all_goals have bd:=gV (s:=s) (named:=L.named) x.ws.rd.pl.le
 all_goals have pl:=XX (s:=s) (named:=L.named) x.ws.rd.al (c:=W.c)
 ·rw [ok.ang] at bd pl ⊢
  refine ZK (N:=100) (m:=1) (zi hd rfl) (Nat.le_trans (Nat.le_trans (Nat.le_add_right _ _) ok.hgt) ?_) (Nat.le_trans (Nat.le_trans (Nat.le_add_right _ _) (Nat.le_of_lt ok.siz)) (Nat.le_trans y.pl.le (Nat.le_trans y.hs (by decide)))) (zJ hm) ?_
  ·exact Nat.le_trans (Zw x.lim.1).2 (by decide)
  rw [UW (x:=(sg s c2).at_)] at y
  have m:=x.mil hn bd.2.2.1 bd.2.1
  refine w6 (x.ws.go y.toRp (uN x hn)) (zi hd rfl) m.1 m.2 fun σ3 hX=>(g_ (ZG (kK pl.1))) (q _ σ3 (x.mvk hX ok.trn ?_ bd.2.2.1 pl.2))
  exact Nat.le_trans (Nat.le_of_eq (Nat.zero_add _)) (yl (Nat.le_of_lt ok.lt))
 ·obtain ⟨sa,e⟩:=bad.ang
  rw [e] at bd pl ⊢
  rw [VR (Pa:=W.P) (al:=W.P.sc.allow) bad.ne rfl] at y
  have m:=x.mil hn bd.2.2.1 bd.2.1
  exact w6 (x.ws.go y (uN x hn)) (zi hd rfl) m.1 m.2 fun σ3 hX=>m_f (df bad.ne) (q _ σ3 (x.mvk hX bad.trn bad.cnt bd.2.2.1 pl.2))
end
section
variable {s:List Nat} {B:Loc} {L:PL} {σ₀ σ σ':St} {W:WR} {n d:Nat} {Q:V→St→Prop} {X:String→St→Prop}
theorem uu (x:Wd s B L n σ₀ W σ) (hd:500≤d) (hn:n≤80) (q:LQ s B L n σ₀ Q):ze (RC d) "_law_angle" [.str s,.ref L.lw] σ Q X:=by
 refine zg (k:=498) qf hd rfl fun d hd=>HA x (zi hd rfl) fun W σ1 x _=>x.ws.ws (x.ws.its (v:=.int (W.c:Int)) rfl (zv (zi hd rfl) x.ws.rd.hs (HV 1 (za vi rfl) (x.ws.wp (wM x.ws.rd (zi hd rfl) (fun h σ2 z=>?_) (fun h σ2 z=>?_) fun h h2 σ2 z=>?_)))))
 ·have ht:=(d_t (zb h).2:(sg s W.c).text=[62,61])
  have lc:W.c < (sg s W.c).at_+1:=Nat.lt_succ_of_le jh
  rw [dt (ZX h)]
  have z':=z.toRp
  rw [ZV,UW (x:=(sg s ((sg s W.c).at_+1)).at_)] at z'
  have ct:[(sg s W.c).at_].length+W.c≤(sg s W.c).at_+1:=Nat.le_trans (Nat.le_of_eq (Nat.add_comm _ _)) lc
  have m:=x.mil hn ct z.pl.le
  refine m_t (dt ht) ⟨za (Nat.le_refl 1) rfl,Nat.zero_le _,za (Nat.le_refl 5) rfl,w6 (c2:=(sg s W.c).at_+1) (k:=0) (cuts2:=[(sg s W.c).at_]) (msg:=[]) (x.ws.go z' (uN x hn)) (zi hd rfl) m.1 m.2 fun σ3 hX=>q _ σ3 (x.mvk hX (vh x.ws.rd.pl.cur fun _ _=>x.ws.rd.pl.behind (xq ht)).1 ?_ ct (.head _))⟩
  exact Nat.le_trans (Nat.le_of_eq (Nat.zero_add _)) (yl (Nat.le_of_lt lc))
 ·have ht:=(d_t (zb h).2:(sg s W.c).text=[62])
  have lc:W.c < (sg s W.c).at_+1:=Nat.lt_succ_of_le jh
  rw [dt (show pySl (sg s W.c).text 0 1=[62] by rw [ht];rfl)]
  have z':=z.toRp
  rw [show (sg s W.c).en=(sg s W.c).at_+1 by rw [ZY,ht];rfl,show W.P.next=W.P.mvk (W.P.sc.at_+1) W.P.tk W.P.splits [] (sg s ((sg s W.c).at_+1)).at_ 0 W.P.sc.allow from UW] at z'
  have m:=x.mil (cuts2:=[]) hn (Nat.le_trans (Nat.le_of_eq (Nat.zero_add _)) (Nat.le_of_lt lc)) z'.pl.le
  rw [← List.append_nil W.cuts] at z'
  refine m_f (df (by rw [ht];decide)) ⟨Nat.zero_le _,Nat.zero_le _,za (Nat.le_refl 5) rfl,w6 (c2:=(sg s W.c).at_+1) (k:=0) (cuts2:=[]) (msg:=[]) (x.ws.go z' (uN x hn)) (zi hd rfl) m.1 m.2 fun σ3 hX=>q _ σ3 (x.mvk hX .refl ?_ ?_ (.head _))⟩
  ·exact Nat.le_trans (Nat.le_of_eq (Nat.zero_add _)) (yl (Nat.le_of_lt lc))
  ·exact Nat.le_trans (Nat.le_of_eq (Nat.zero_add _)) (Nat.le_of_lt lc)
 ·have nb:pySl (sg s W.c).text 0 1≠[62]:=fun z=>(J4 z).elim (d_f ((jg (List.cons_ne_nil _ _) rfl).symm.trans h2)) (d_f ((jg (List.cons_ne_nil _ _) rfl).symm.trans h))
  rw [df nb]
  have z':=z
  rw [show W.P.tell ⟨1005,(sg s W.c).at_,no5 [62]⟩=W.P.mvk W.P.sc.at_ W.P.tk W.P.splits [62] (sg s W.c).at_ 0 W.P.sc.allow from (congrArg (fun i=>W.P.bad W.P.sc.at_ W.P.tk W.P.splits (dg [62] (sg s W.c).at_) i W.P.sc.nocond) (Int.add_zero W.P.sc.deep).symm).trans (VR (Pa:=W.P) (List.cons_ne_nil _ _) rfl),← List.append_nil W.cuts] at z'
  have m:=x.mil (cuts2:=[]) hn (Nat.le_of_eq (Nat.zero_add _)) x.ws.rd.pl.le
  exact ⟨Nat.zero_le _,Nat.zero_le _,za (Nat.le_refl 5) rfl,w6 (c2:=W.c) (k:=0) (cuts2:=[]) (msg:=[62]) (x.ws.go z' (uN x hn)) (zi hd rfl) m.1 m.2 fun σ3 hX=>q _ σ3 (x.mvk hX .refl (Nat.le_of_eq (Nat.zero_add _)) (Nat.le_of_eq (Nat.zero_add _)) (.tail _ (.tail _ (.head _))))⟩
end
theorem Mt {R:Rel} {k:Nat} {C:String} {σ:St} {Q:V→St→Prop} {X:String→St→Prop} (h:["TypePart","NameKindRule","KindArgsTail"].contains C=true) (q:Q (.obj C []) σ):ju R k C [] σ Q X:=by
 unfold ju;exact .inl ⟨h,rfl,q⟩
theorem Va:zE "K_NAME"=some (.int 8):=by unfold zE y4;rfl
section
variable {s:List Nat} {B:Loc} {L:PL} {σ₀ σ σ':St} {W:WR} {n d:Nat} {Q:V→St→Prop} {X:String→St→Prop}
theorem Wd.sv (x:Wd s B L n σ₀ W σ) (hn:n≤80):W.P.saved.length < 100∧W.P.rows.length≤800000:=⟨by rw [x.wp.sv,List.length_map];exact Nat.lt_of_le_of_lt (Nat.le_trans x.wp.ml hn) (by decide),Nat.le_trans x.wp.st.sm.rows (Nat.le_trans hn (by decide))⟩
theorem Hx (x:Wd s B L n σ₀ W σ) (hd:500≤d) (hn:n≤80) (ho:σ₀.ow=L.i) (q:LQ s B L n σ₀ Q):ze (RC d) "_law_tail" [.str s,.ref L.lw] σ Q X:=by
 refine zg (k:=498) Zb hd rfl fun d hd=>HA x (zi hd rfl) fun W σ1 x _=>x.ws.ws (x.ws.its (v:=.int (W.c:Int)) rfl (x.ws.wk ?_))
 obtain ⟨r,hr⟩:=xG.total (s:=s) (named:=L.named) x.ws.rd.al (c:=W.c)
 have rf:=hr.fact x.ws.rd.al x.ws.rd.pl.le
 refine xA fun _=>XR (zi hd rfl) x.ws.rd.hs x.ws.rd.pl.le hr fun σ2 S2 w2 n2=>Mt rfl ((x.ws.same S2 w2 n2).wp ((g_ Va) (Hy w2 (zi hd rfl) fun σ3 S3 w3 n3=>yL ?_)))
 have X3:=(x.ws.same S2 w2 n2).same S3 w3 n3
 refine Gw X3.rd (X3.kp.1.trans ho) (x.small (Nat.le_trans hn (by decide))) (x.sv hn).1 (x.sv hn).2 x.lim.1 x.wp.st.dp.1 (Nat.le_trans (x.lim.2.2 rfl) (zi hd rfl)) (fun hC a b σ4 y=>?_) (fun ks as opn a tk sp c2 cuts2 σ4 hC sz trn y=>?_) fun msg k a tk sp c2 cuts2 σ4 hC trn ne cnt y=>?_
 ·rw [hr.det hC]
  have st:=x.wp.st
  exact q {W with P:=W.P.lcs a b} σ4 ⟨X3.go (X3.rd.toRp.with (P':=W.P.lcs a b) y rfl rfl rfl) X3.rd.rw_,x.wp.to (Nat.le_succ n) ⟨st.dp,st.ct,⟨Nat.le_succ_of_le st.sm.rows,Nat.le_succ_of_le st.sm.lab,Nat.le_succ_of_le st.sm.cov,st.sm.pr,st.sm.pl,st.sm.pc,st.sm.pp⟩⟩ rfl (.of .refl rfl)⟩
 ·cases hr.det hC
  rcases rf with e | rf
  ·cases e
  have bd:=rf.2.1
  have ap:=(XX (s:=s) (named:=L.named) x.ws.rd.al (c:=W.c)).1
  rw [← rf.1] at ap
  have ap2:=rf.2.2 fun _ h=>absurd h List.not_mem_nil
  have ct:cuts2.length+W.c≤c2:=Nat.le_trans bd (Nat.le_of_eq (Nat.zero_add _))
  rw [UW (x:=(sg s c2).at_)] at y
  have m:=x.mil hn ct y.pl.le
  have lc:W.c≤c2:=Nat.le_trans (Nat.le_add_left _ _) ct
  have pl:zq 19 [V.int (opn:Int),xd (zI ks 1),xd (zI as 1)]=true:=by
   show (zq 18 ((zI ks 1).map Sd.v)&&(zq 18 ((zI as 1).map Sd.v)&&true))=true
   rw [kK ap,kK ap2];rfl
  refine ⟨za (Nat.le_refl 3) rfl,za (Nat.le_refl 5) rfl,(g_ YC) ⟨za (Nat.le_refl 5) rfl,g_ (ZG (l:=[.int 18,.str [],.int 4,.int (W.c:Int),.int 3]) rfl) ⟨za (Nat.le_refl 4) rfl,(g_ gC) ((g_ gC) (zv (zi hd rfl) x.ws.rd.hs ⟨za (Nat.le_refl 4) rfl,g_ (ZG (l:=[.int 71,.int 71,.int ((sg s W.c).at_:Int),.str [102]]) rfl) ?_⟩))⟩⟩⟩
  refine ZK (N:=100) (m:=1) (v:=.flst (xr ks)) (zi hd rfl) sz.1 (Nat.le_trans sz.2.1 (by decide)) rfl (ZK (N:=100) (m:=1) (v:=.flst (xr as)) (zi hd rfl) sz.2.2.1 (Nat.le_trans sz.2.2.2 (by decide)) rfl ⟨za (Nat.le_refl 3) rfl,?_⟩)
  exact w6 (c2:=c2) (k:=0) (cuts2:=cuts2) (msg:=[]) (X3.go y.toRp (uN x hn)) (zi hd rfl) m.1 m.2 fun σ5 hX=>(g_ (ZG pl)) (q _ σ5 (x.mvk hX trn (Nat.le_trans (Nat.le_of_eq (Nat.zero_add _)) (yl lc)) ct (.head _)))
 ·cases hr.det hC
  rcases rf with e | rf
  ·cases e
  have ct:cuts2.length+W.c≤c2:=Nat.le_trans rf.2 (Nat.le_of_eq (Nat.zero_add _))
  rw [VR (Pa:=W.P.al true) ne rfl] at y
  have m:=x.mil hn ct y.pl.le
  exact w6 (c2:=c2) (k:=k) (cuts2:=cuts2) (msg:=msg) (X3.go y (uN x hn)) (zi hd rfl) m.1 m.2 fun σ5 hX=>m_t (dnt ne) (hX.ws (hX.put (d':=sd (W.P.mvk a tk sp msg (sg s c2).at_ k true) c2 (W.cuts++cuts2)) (za (Nat.le_refl 10) rfl) rfl fun σ6 hX=>q _ σ6 (x.mvk hX trn cnt ct rf.1)))
end
section
variable {s:List Nat} {B:Loc} {L:PL} {σ₀ σ σ':St} {W:WR} {n d:Nat} {Q:V→St→Prop} {X:String→St→Prop}
theorem W5 {a b:Loc} (h:sK L a) (h':mK L b):a≠b:=fun z=>zk ((h.ne (p:=fun k=>Nat.beq 314 k||Nat.beq 343 k) rfl).symm.trans ((congrArg (fun l:Loc=>Nat.beq 314 l.2.1||Nat.beq 343 l.2.1) z).trans (h'.2.elim (fun e=>by rw [e];rfl) fun e=>by rw [e];rfl)))
theorem UZ {a:Loc} (h:sK L a):L.lw≠a:=fun z=>zk ((h.ne (p:=fun k=>Nat.beq 313 k) rfl).symm.trans (congrArg (fun l:Loc=>Nat.beq 313 l.2.1) z.symm))
theorem QR {a:Loc} (h:mK L a):L.lw≠a:=fun z=>zk ((h.ne (p:=fun k=>Nat.beq 313 k) rfl).symm.trans (congrArg (fun l:Loc=>Nat.beq 313 l.2.1) z.symm))
theorem Xi {l:Loc} (h:rk l=false) {c:zu}:∀ l' c',rk l'=true→σ.m l'=some c'→(σ.set l c).m l'=some c':=fun l' c' r e=>(zl fun z=>zk (h.symm.trans ((congrArg rk z).symm.trans r))).trans e
theorem Wf.ne (w:Wf σ) {l:Loc} {c:zu} (h:σ.m l=some c) {k:Nat}:l≠σ.loc k:=w.fresh h
theorem Wd.rnL (x:Wp s n W):∀ a∈W.marks,Ran a.P W.P:=fun a ha=>(List.pairwise_append.mp x.rn).2.2 _ (List.mem_map_of_mem ha) _ (List.mem_singleton.mpr rfl)
theorem ZL (x:Wd s B L n σ₀ W σ) (hd:500≤d) (hn:n≤80) (ho:σ₀.ow=L.i) (q:LQ s B L n σ₀ Q):ze (RC d) "_law_mark" [.ref L.lw] σ Q X:=by
 refine zg (k:=498) Zh hd rfl fun d hd=>x.ws.wp (VF x.ws.rd.toRc (x.ws.kp.1.trans ho) (x.small (Nat.le_trans hn (by decide))) (zi hd rfl) fun a b σ1 y=>?_)
 have X1:=x.ws.go (P:={W.P with saved:=W.P.saved++[zT W.P a b]}) (x.ws.rd.toRp.with y rfl rfl rfl) x.ws.rd.rw_
 have w1:=X1.rd.wf
 refine X1.wm ((g_ (zx X1.tb.m (.inl rfl))) (X1.ws ((g_ (xJ X1.tb.s)) ⟨za (Nat.le_refl 9) rfl,?_⟩)))
 have X2:=X1.same (zt.new w1 337 (.ds (sd W.P W.c W.cuts))) (w1.new _ _) (Nat.le_succ _)
 have hl:∀ {l' c},σ1.m l'=some c→l'≠σ1.loc 337:=fun h=>w1.ne h
 have ml:(σ1.new 337 (.ds (sd W.P W.c W.cuts))).m (σ1.loc 337)=some (.ds (sd W.P W.c W.cuts)):=zp
 have kl:sK L (σ1.loc 337):=⟨X1.kp.1.trans ho,.inr rfl⟩
 have lsv:W.P.saved.length=W.marks.length:=by rw [x.wp.sv,List.length_map]
 generalize σ1.loc 337=l at *
 generalize σ1.new 337 (.ds (sd W.P W.c W.cuts))=σ2 at *
 have X3:Ws s B L σ₀ ⟨W.sl,W.ml,{W.P with saved:=W.P.saved++[zT W.P a b]},W.c,W.cuts,W.marks++[⟨l,W.P,W.c,W.cuts,a,b⟩]⟩ (sd W.P W.c W.cuts) (σ2.set W.ml (.lst (W.marks.map (fun k=>.ref k.l)++[.ref l]))):=by
  have t:=X2.tb
  refine ⟨X2.rd.mv (X2.rd.par.oth (Xi (Wn (.inr (.inr t.km))))) (X2.rd.wf.set (X2.rd.wf _ _ t.m) _),⟨(zl (QR t.km)).trans t.w,(zl (W5 t.ks t.km)).trans t.s,?_,fun k hk=>?_,t.ks,t.km,fun k hk=>?_,?_⟩,X2.kp.set t.km.1,X2.nx⟩
  ·rw [List.map_append];exact zj
  ·rcases List.mem_append.mp hk with h | h
   ·exact (zl (W5 (t.kk k h) t.km)).trans (t.k k h)
   ·rw [List.mem_singleton.mp h];exact (zl (W5 kl t.km)).trans ml
  ·exact (List.mem_append.mp hk).elim (t.kk k) fun h=>by rw [List.mem_singleton.mp h];exact kl
  ·have nd:=X1.tb.nd
   show (W.sl::(W.marks++[_]).map (fun k:MkW=>k.l)).Nodup
   rw [List.map_append]
   refine List.nodup_append.mpr ⟨nd,List.nodup_cons.mpr ⟨List.not_mem_nil,List.nodup_nil⟩,fun p hp r hr=>?_⟩ |> fun h=>h
   rw [List.mem_singleton.mp hr]
   rcases List.mem_cons.mp hp with e | hp
   ·rw [e];exact hl X1.tb.s
   ·obtain ⟨k,hk,rfl⟩:=List.mem_map.mp hp
    exact hl (X1.tb.k k hk)
 have st:=x.wp.st
 have mle:=Nat.le_trans x.wp.ml hn
 refine xF X2.tb.m (by rw [List.length_map];exact Nat.lt_of_le_of_lt mle (by decide)) (X3.wm ((g_ (xg X3.tb.m)) ⟨by rw [List.length_append];exact Nat.le_trans (Nat.succ_le_succ mle) (by decide),?_⟩))
 have e:(W.P.saved.length:Int)=((W.marks++[(⟨l,W.P,W.c,W.cuts,a,b⟩:MkW)]).length:Int) - 1:=by rw [Ys,lsv]
 show Q (.bool (decide ((W.P.saved.length:Int)=((W.marks++[(⟨l,W.P,W.c,W.cuts,a,b⟩:MkW)]).length:Int) - 1))) _
 rw [dt e]
 refine q _ _ ⟨X3,⟨⟨st.dp,st.ct,⟨Nat.le_succ_of_le st.sm.rows,Nat.le_succ_of_le st.sm.lab,Nat.le_succ_of_le st.sm.cov,st.sm.pr,st.sm.pl,st.sm.pc,st.sm.pp⟩⟩,fun k hk=>?_,?_,?_,?_⟩⟩
 ·rcases List.mem_append.mp hk with h | h
  ·exact ⟨⟨(x.wp.mks k h).1.dp,(x.wp.mks k h).1.ct,(x.wp.mks k h).1.sm.mono (Nat.le_succ n)⟩,(x.wp.mks k h).2⟩
  ·rw [List.mem_singleton.mp h];exact ⟨⟨st.dp,st.ct,st.sm.mono (Nat.le_succ n)⟩,x.ws.rd.pl,x.ws.rd.sb⟩
 ·show W.P.saved++[_]=(W.marks++[_]).map _
  rw [List.map_append,x.wp.sv];rfl
 ·show (W.marks++[_]).length≤_
  rw [List.length_append];exact Nat.succ_le_succ x.wp.ml
 ·show ((W.marks++[_]).map _++[_]).Pairwise Ran
  rw [List.map_append]
  refine List.pairwise_append.mpr ⟨x.wp.rn,List.pairwise_singleton _ _,fun p hp r hr=>?_⟩
  rw [List.mem_singleton.mp hr]
  have r1:Ran W.P {W.P with saved:=W.P.saved++[zT W.P a b]}:=.of .refl rfl
  rcases List.mem_append.mp hp with h | h
  ·obtain ⟨k,hk,rfl⟩:=List.mem_map.mp h
   exact (Wd.rnL x.wp k hk).trans r1
  ·rw [List.mem_singleton.mp h];exact r1
end
section
variable {s:List Nat} {B:Loc} {L:PL} {σ₀ σ σ':St} {W:WR} {n d:Nat} {Q:V→St→Prop} {X:String→St→Prop}
theorem HS {k j:Nat} {l:Loc} {xs:List V} (h:σ.m l=some (.lst xs)) (hn:xs.length≤1000000) (q:Q (.ref (σ.loc k)) (σ.new k (.lst (xs.take j)))):y0 k (.ref l) .none (.int (j:Int)) σ Q:=by
 unfold y0
 refine (g_ (zJ h)) ?_
 refine g_ (v:=(0:Int).toNat) rfl ((g_ jJ) ⟨hn,?_⟩)
 rw [show pySl xs (0:Int).toNat (min j xs.length)=xs.take j from List.take_eq_take_min.symm]
 exact q
theorem uP {l:Loc} {ds d':List (List Nat×V)} {k:List Nat} {u:V} {Q:St→Prop} (h:σ.m l=some (.ds ds)) (hl:ds.length < 100) (e:(if (ds.lookup k).isSome then ds.map (fun p=>if p.1=k then (p.1,u) else p) else ds++[(k,u)])=d') (q:Q (σ.set l (.ds d'))):zw (.ref l) (.str k) u σ Q:=by
 unfold zw
 refine .inr ((g_ (xJ h)) ⟨hl,?_⟩)
 rw [e];exact q
noncomputable def MkW.ps (k:MkW) (sv:List Mk):PS:=⟨k.P.sc,⟨k.b,k.P.lc.ls,k.a,k.P.lc.cs⟩,k.P.tk,k.P.rows,k.P.splits,sv⟩
theorem GD {k:MkW} {P:PS} {j:Nat} (r:Ran k.P P) (h:j≤P.saved.length):(P.cut j).back (zT k.P k.a k.b)=k.ps (P.saved.take j):=by
 obtain ⟨rt,rr,er⟩:=r
 have eb:=JH (P:={k.P with saved:=P.saved.take j}) (a:=k.a) (b:=k.b) rt er (List.take_append_drop j _).symm
 rw [show ({k.P with saved:=P.saved.take j}:PS).saved.length=j by show (P.saved.take j).length=j;rw [List.length_take,Nat.min_eq_left h]] at eb
 exact eb
structure Te (L:PL) (B:Loc) (W:WR) (d:List (List Nat×V)) (σ:St):Prop where
 w:σ.m L.lw=some (.ds (wdv L B W.sl W.ml))
 s:σ.m W.sl=some (.ds d)
 m:σ.m W.ml=some (.lst (W.marks.map fun k=>.ref k.l))
 k:∀ k∈W.marks,σ.m k.l=some (.ds (sd k.P k.c k.cuts))
 ks:sK L W.sl
 km:mK L W.ml
 kk:∀ k∈W.marks,sK L k.l
noncomputable def WR.to (W:WR) (l:Loc) (j:Nat):WR:=⟨W.sl,l,W.P,W.c,W.cuts,W.marks.take j⟩
theorem WU {j:Nat} (rd:Rd s L σ W.P W.c W.cuts σ) (t:Te L B W (sd W.P W.c W.cuts) σ) (nd:(W.sl::(W.marks.take j).map (·.l)).Nodup) (kp:Kp L.i σ₀ σ) (nx:σ₀.nx≤σ.nx) (ho:σ₀.ow=L.i) (ll:W.marks.length≤1000000) (wp:Wp s n (W.to W.ml j)) (q:∀ W' σ',Wd s B L n σ₀ W' σ'→Q (.bool true) σ') {b:Bool} (hb:b=true):
  op (zD σ (.ref L.lw) (.str [109,97,114,107,115])) fun v=>y0 343 v .none (.int (j:Int)) σ fun v σ'=>zw (.ref L.lw) (.str [109,97,114,107,115]) v σ' fun σ'=>Q (.bool b) σ':=by
 subst hb
 have it:zD σ (.ref L.lw) (.str [109,97,114,107,115])=some (.ref W.ml):=by
  show bd (dsA σ L.lw) (fun d=>d.lookup _)=_
  rw [xJ t.w];rfl
 refine (g_ it) (HS t.m (by rw [List.length_map];exact ll) ?_)
 rw [← List.map_take]
 have hS:=zt.new rd.wf 343 (.lst ((W.marks.take j).map fun k=>.ref k.l))
 have kl:mK L (σ.loc 343):=⟨kp.1.trans ho,.inr rfl⟩
 have ml:(σ.new 343 (.lst ((W.marks.take j).map fun k=>.ref k.l))).m (σ.loc 343)=some (.lst ((W.marks.take j).map fun k=>.ref k.l)):=zp
 have w2:=rd.wf.new 343 (.lst ((W.marks.take j).map fun k=>.ref k.l))
 have nx2:σ.nx≤(σ.new 343 (.lst ((W.marks.take j).map fun k=>.ref k.l))).nx:=Nat.le_succ _
 generalize σ.loc 343=l at *
 generalize σ.new 343 (.lst ((W.marks.take j).map fun k=>.ref k.l))=σ2 at *
 have mw:=hS.2 _ _ t.w
 refine uP mw (d':=wdv L B W.sl l) (za (Nat.le_refl 7) rfl) rfl ?_
 have hm:∀ {k},k∈W.marks.take j→k∈W.marks:=List.mem_of_mem_take
 exact q (W.to l j) (σ2.set L.lw (.ds (wdv L B W.sl l))) ⟨⟨rd.mv ((rd.par.oth fun l' c _ e=>hS.2 l' c e).oth (Xi rfl)) (w2.set (w2 _ _ mw) _),⟨zj,(zl (UZ t.ks).symm).trans (hS.2 _ _ t.s),(zl (QR kl).symm).trans ml,fun k hk=>(zl (UZ (t.kk k (hm hk))).symm).trans (hS.2 _ _ (t.k k (hm hk))),t.ks,kl,fun k hk=>t.kk k (hm hk),nd⟩,(kp.trans hS.kp).set rfl,Nat.le_trans nx nx2⟩,⟨wp.st,wp.mks,wp.sv,wp.ml,wp.rn⟩⟩
theorem Te.of {D:List (List Nat×V)} (x:Tb L B W D σ):Te L B W D σ:=⟨x.w,x.s,x.m,x.k,x.ks,x.km,x.kk⟩
theorem Xz {j:Nat} (x:Wd s B L n σ₀ W σ) (hn:n≤80) (ho:σ₀.ow=L.i) (y:Rc L σ (W.P.cut j) σ') (q:LQ s B L n σ₀ Q) {b:Bool} (hb:b=true):
  op (zD σ' (.ref L.lw) (.str [109,97,114,107,115])) fun v=>y0 343 v .none (.int (j:Int)) σ' fun v σ'=>zw (.ref L.lw) (.str [109,97,114,107,115]) v σ' fun σ'=>Q (.bool b) σ':=by
 subst hb
 have X:=x.ws.go (P:=W.P.cut j) (x.ws.rd.toRp.with y rfl rfl rfl) x.ws.rd.rw_
 have st:=x.wp.st
 have r:=List.pairwise_append.mp x.wp.rn
 refine WU (b:=true) (hb:=rfl) (q:=q) (W:=⟨W.sl,W.ml,W.P.cut j,W.c,W.cuts,W.marks⟩) X.rd (.of X.tb) (X.tb.nd.sublist (((List.take_sublist _ _).map _).cons_cons _)) X.kp X.nx ho (Nat.le_trans x.wp.ml (Nat.le_trans hn (by decide))) ⟨⟨st.dp,st.ct,st.sm.mono (Nat.le_succ n) |> fun y=>⟨y.rows,y.lab,y.cov,y.pr,y.pl,y.pc,y.pp⟩⟩,fun k hk=>⟨⟨(x.wp.mks k (List.mem_of_mem_take hk)).1.dp,(x.wp.mks k (List.mem_of_mem_take hk)).1.ct,(x.wp.mks k (List.mem_of_mem_take hk)).1.sm.mono (Nat.le_succ n)⟩,(x.wp.mks k (List.mem_of_mem_take hk)).2⟩,?_,?_,?_⟩
 ·show W.P.saved.take j=(W.marks.take j).map _
  rw [x.wp.sv,List.map_take]
 ·exact Nat.le_trans (List.length_take_le' _ _) (Nat.le_succ_of_le x.wp.ml)
 ·exact List.pairwise_append.mpr ⟨r.1.sublist ((List.take_sublist _ _).map _),List.pairwise_singleton _ _,fun a ha b hb=>by
   rw [List.mem_singleton.mp hb]
   obtain ⟨m,hm,rfl⟩:=List.mem_map.mp ha
   exact (Wd.rnL x.wp m (List.mem_of_mem_take hm)).trans (.of .refl rfl)⟩
theorem VI (x:Wd s B L n σ₀ W σ) (hd:500≤d) (hn:n≤80) (ho:σ₀.ow=L.i) {j:Nat} (hj:j < 200) {good:Bool} (q:LQ s B L n σ₀ Q):ze (RC d) "_law_end" [.ref L.lw,.int (j:Int),.bool good] σ Q X:=by
 have sm:=x.small (Nat.le_trans hn (by decide))
 have lsv:W.P.saved.length=W.marks.length:=by rw [x.wp.sv,List.length_map]
 have l6:=Nat.le_trans x.wp.ml (Nat.le_trans hn (show 80≤1000000 by decide))
 have cutW:W.P.saved.length≤j→Rc L σ (W.P.cut j) σ:=fun h=>by
  unfold PS.cut
  rw [List.take_of_length_le h];exact x.ws.rd.toRc
 refine zg (k:=498) Yk hd rfl fun d hd=>?_
 have ge:W.P.saved.length≤j→decide ((j:Int) < (W.marks.length:Int))=false:=fun h=>df (Int.not_lt.mpr (Int.ofNat_le.mpr (lsv▸h)))
 cases good
 ·have mk:∀ m,W.P.saved[j]?=some m→∃ km,W.marks[j]?=some km∧m=zT km.P km.a km.b∧Ran km.P W.P:=fun m h=>by
   rw [x.wp.sv,List.getElem?_map] at h
   cases e:W.marks[j]? with
   | none=>rw [e] at h;cases h
   | some km=>
    rw [e] at h
    exact ⟨km,rfl,(Option.some.inj h).symm,Wd.rnL x.wp km (List.mem_of_getElem? e)⟩
  refine x.ws.wp (XU x.ws.rd.toRc (zi hd rfl) sm hj (fun m hm=>?_) (fun h=>x.ws.wm ((g_ (xg x.ws.tb.m)) ⟨l6,m_f (ge h) (m_f (ge h) (Xz x hn ho (cutW h) q (dt (ge h).symm)))⟩)) fun m hm σ4 y=>?_)
  ·obtain ⟨km,_,rfl,r⟩:=mk m hm
   exact YX r.1
  obtain ⟨km,hkm,rfl,r⟩:=mk m hm
  have hlt:=(List.getElem?_eq_some_iff.mp hkm).1
  have tk:W.marks.take (j+1)=W.marks.take j++[km]:=by rw [List.take_add_one,hkm];rfl
  have kin:=List.mem_of_getElem? hkm
  have y:Rc L σ (km.ps (W.P.saved.take j)) σ4:=GD r (Nat.le_of_lt (lsv▸hlt))▸y
  have ⟨st,pl,sb⟩:=x.wp.mks km kin
  have X:=x.ws.go (P:=km.ps (W.P.saved.take j)) (c:=km.c) (cuts:=km.cuts) ⟨y,x.ws.rd.gd,x.ws.rd.al,pl.of rfl rfl,sb⟩ (Nat.lt_of_le_of_lt st.sm.rows (Nat.lt_of_le_of_lt hn (by decide)))
  refine X.wm ((g_ (xg X.tb.m)) ⟨l6,m_t (dt (Int.ofNat_lt.mpr hlt)) ?_⟩)
  have im:zD σ4 (.ref W.ml) (.int (j:Int))=some (.ref km.l):=by
   show oO (oO (bd (vj σ4 (.ref W.ml)) fun l=>bd (ym (j:Int) l.length) fun j=>l[j]?) _) _=_
   rw [show vj σ4 (.ref W.ml)=some _ from zJ X.tb.m]
   show oO (oO (bd (ym (j:Int) (W.marks.map fun k=>V.ref k.l).length) fun j=>_) _) _=_
   rw [jG (by rw [List.length_map];exact hlt) (by rw [List.length_map];exact Nat.le_trans x.wp.ml (Nat.le_trans hn (by decide)))]
   show oO (oO (W.marks.map fun k=>V.ref k.l)[j]? _) _=_
   rw [List.getElem?_map,hkm];rfl
  refine X.wm ((g_ im) ?_)
  have t:=X.tb
  refine uP t.w (d':=wdv L B km.l W.ml) (za (Nat.le_refl 7) rfl) rfl ?_
  refine WU (W:=⟨km.l,W.ml,km.ps (W.P.saved.take j),km.c,km.cuts,W.marks⟩) (X.rd.mv (X.rd.par.oth (Xi rfl)) (X.rd.wf.set (X.rd.wf _ _ t.w) _)) ⟨zj,(zl (UZ (t.kk km kin)).symm).trans (t.k km kin),(zl (QR t.km).symm).trans t.m,fun k hk=>(zl (UZ (t.kk k hk)).symm).trans (t.k k hk),t.kk km kin,t.km,t.kk⟩ ?_ (X.kp.set rfl) X.nx ho l6 ⟨⟨st.dp,st.ct,st.sm.mono (Nat.le_succ n) |> fun y=>⟨y.rows,y.lab,y.cov,y.pr,y.pl,y.pc,y.pp⟩⟩,fun k hk=>⟨⟨(x.wp.mks k (List.mem_of_mem_take hk)).1.dp,(x.wp.mks k (List.mem_of_mem_take hk)).1.ct,(x.wp.mks k (List.mem_of_mem_take hk)).1.sm.mono (Nat.le_succ n)⟩,(x.wp.mks k (List.mem_of_mem_take hk)).2⟩,?_,?_,?_⟩ q (dt (dt (Int.ofNat_lt.mpr hlt)).symm)
  ·have h2:=(List.nodup_cons.mp t.nd).2.sublist ((List.take_sublist (j+1) W.marks).map _)
   rw [tk,List.map_append] at h2
   have h3:=List.nodup_append.mp h2
   exact List.nodup_cons.mpr ⟨fun z=>h3.2.2 _ z _ (List.mem_singleton.mpr rfl) rfl,h3.1⟩
  ·show W.P.saved.take j=(W.marks.take j).map _
   rw [x.wp.sv,List.map_take]
  ·exact Nat.le_trans (List.length_take_le' _ _) (Nat.le_succ_of_le x.wp.ml)
  ·have h2:=(List.pairwise_append.mp x.wp.rn).1.sublist ((List.take_sublist (j+1) W.marks).map _)
   rw [tk,List.map_append] at h2
   have h3:=List.pairwise_append.mp h2
   exact List.pairwise_append.mpr ⟨h3.1,List.pairwise_singleton _ _,fun a ha b hb=>by
    rw [List.mem_singleton.mp hb]
    exact (h3.2.2 a ha _ (List.mem_singleton.mpr rfl)).trans (.of .refl rfl)⟩
 ·exact x.ws.wp (VK x.ws.rd.toRc (zi hd rfl) sm.sav hj (fun h=>x.ws.wm ((g_ (xg x.ws.tb.m)) ⟨l6,m_f (ge h) (m_f (ge h) (Xz x hn ho (cutW h) q (dt (ge h).symm)))⟩)) fun h σ4 y=>(x.ws.go (P:=W.P.cut j) (x.ws.rd.toRp.with y rfl rfl rfl) x.ws.rd.rw_).wm ((g_ (xg (x.ws.go (P:=W.P.cut j) (x.ws.rd.toRp.with y rfl rfl rfl) x.ws.rd.rw_).tb.m)) ⟨l6,m_t (dt (Int.ofNat_lt.mpr (lsv▸h))) (Xz x hn ho y q (dt (dt (Int.ofNat_lt.mpr (lsv▸h))).symm))⟩))
end
section
variable {s:List Nat} {B:Loc} {L:PL} {P:PS} {σ₀ σ σ':St} {W:WR} {n d:Nat} {Q:V→St→Prop} {X:String→St→Prop}
theorem HT {k:Nat} {xs:List V} {v:V} (h:xs.length < 1000000) (q:Q (.tup xs) σ):y0 k (.tup (xs++[v])) .none (.int (-1)) σ Q:=by
 unfold y0
 refine ⟨rfl,by rw [List.length_append];exact Nat.succ_le_succ (Nat.zero_le _),by rw [List.length_append];exact h,?_⟩
 rw [List.dropLast_concat];exact q
noncomputable def Lc.l (v:Lc) (ls:List V):Lc:=⟨v.nl,ls,v.nc,v.cs⟩
noncomputable def Lc.c (v:Lc) (cs:List V):Lc:=⟨v.nl,v.ls,v.nc,cs⟩
noncomputable def WR.of (W:WR) (u:Sc) (v:Lc):WR:=⟨W.sl,W.ml,⟨u,v,W.P.tk,W.P.rows,W.P.splits,W.P.saved⟩,W.c,W.cuts,W.marks⟩
variable {u:Sc} {v:Lc} {D:List (List Nat×V)}
theorem Ws.fld (x:Ws s B L σ₀ (W.of u v) D σ) (u':Sc) {m:String} {w:V} (h:((pF L (W.of u v).P).lookup m).isSome=true) (e:yo m w (pF L (W.of u v).P)=pF L (W.of u' v).P) (e':u'.at_=u.at_) {Q:St→Prop} (q:∀ σ',Ws s B L σ₀ (W.of u' v) D σ'→Q σ'):op (zO σ (.ref L.lp) m w) Q:=
 x.rd.st u' h e e' fun σ' y=>q σ' (x.go y.toRp y.rw_)
theorem Ws.labs (x:Ws s B L σ₀ (W.of u v) D σ) (ls:List V):Ws s B L σ₀ (W.of u (v.l ls)) D (σ.set (L.lab v.nl) (.lst ls)):=by
 have p:=x.rd.par
 refine x.go (P:=(W.of u (v.l ls)).P) ⟨⟨⟨sk p.p rfl,sk p.t rfl,sk p.d rfl,sk p.r rfl,sk p.sp rfl,sk p.sa rfl,⟨zj,sk p.lc.2 rfl⟩,fun k hk=>⟨(zl fun z=>?_).trans (p.mks k hk).1,sk (p.mks k hk).2 rfl⟩,p.nd,sk p.ty rfl,sk p.pa rfl,sk p.co rfl,sk p.na rfl,p.len⟩,x.rd.wf.set (x.rd.wf _ _ p.lc.1) _,Nat.le_refl _,xK.refl.set (jj rfl)⟩,x.rd.gd,x.rd.al,x.rd.pl.of rfl rfl,x.rd.sb⟩ x.rd.rw_
 exact (List.nodup_cons.mp p.nd.1).1 (List.mem_map.mpr ⟨k,hk,congrArg (fun l:Loc=>l.2.2) z⟩)
theorem Ws.covs (x:Ws s B L σ₀ (W.of u v) D σ) (ls:List V):Ws s B L σ₀ (W.of u (v.c ls)) D (σ.set (L.cov v.nc) (.lst ls)):=by
 have p:=x.rd.par
 refine x.go (P:=(W.of u (v.c ls)).P) ⟨⟨⟨sk p.p rfl,sk p.t rfl,sk p.d rfl,sk p.r rfl,sk p.sp rfl,sk p.sa rfl,⟨sk p.lc.1 rfl,zj⟩,fun k hk=>⟨sk (p.mks k hk).1 rfl,(zl fun z=>?_).trans (p.mks k hk).2⟩,p.nd,sk p.ty rfl,sk p.pa rfl,sk p.co rfl,sk p.na rfl,p.len⟩,x.rd.wf.set (x.rd.wf _ _ p.lc.2) _,Nat.le_refl _,xK.refl.set (jj rfl)⟩,x.rd.gd,x.rd.al,x.rd.pl.of rfl rfl,x.rd.sb⟩ x.rd.rw_
 exact (List.nodup_cons.mp p.nd.2).1 (List.mem_map.mpr ⟨k,hk,congrArg (fun l:Loc=>l.2.2) z⟩)
theorem abc:∀ {m:Nat},m < 6→∀ σ,zD σ (.str [97,98,99,100,101,102]) (.int (m:Int))=some (.str [97+m])
 | 0,_,_=>rfl
 | 1,_,_=>rfl
 | 2,_,_=>rfl
 | 3,_,_=>rfl
 | 4,_,_=>rfl
 | 5,_,_=>rfl
 | m+6,h,_=>absurd h (Nat.not_lt.mpr (Nat.le_add_left 6 m))
noncomputable def cvV (m:Nat):V:=.tup [.int (m:Int),.int 1005,.int ((m:Int)+1),.str [61]]
noncomputable def lyS (u:Sc) (m:Nat) (k:Nat):Sc:=⟨u.at_,u.deep,.tup [.str [103],.int (m:Int),.int ((m:Int)+1)],if 6 < k then decide (2 < (m:Int)) else u.allow,if 1 < k then (m:Int)+2 else u.inf,if 2 < k then (m:Int)+3 else u.inl,if 3 < k then (m:Int)+4 else u.ins,if 7 < k then decide ((m:Int) % 4 < 2) else u.nocond,if 4 < k then decide ((m:Int) % 2=0) else u.retbar,if 5 < k then (m:Int)+5 else u.inlit⟩
inductive LI (s:List Nat) (B:Loc) (L:PL) (σ₀:St) (W:WR) (n:Nat):St→Prop
 | mk {ls:List V} {σ:St}:ls.length≤n+1→(∀ v∈ls,v.plain 19=true)→Ws s B L σ₀ (W.of W.P.sc (W.P.lc.l ls)) (sdv W.c W.cuts W.P.sc.deep W.P.rows ls W.P.lc.cs W.P.plain W.P.sc.allow W.P.sc.nocond) σ→LI s B L σ₀ W n σ
theorem shr {I K:St→Prop} {A:Prop} (h:(∀ σ',I σ'→K σ')→A) (r:∀ σ',I σ'→K σ'):A:=h r
theorem VJ (x:Wd s B L n σ₀ W σ) (hd:500≤d) (hn:n≤80) {m:Nat} (hm:m < 6) (q:LQ s B L n σ₀ Q):ze (RC d) "_law_lay" [.ref L.lw,.int (m:Int)] σ Q X:=by
 have sm:=x.wp.st.sm
 have l6:∀ {a k:Nat},a≤n→Nat.ble (80+k) 1000000=true→a+k≤1000000:=fun h e=>Nat.le_trans (Nat.add_le_add_right (Nat.le_trans h hn) _) (Nat.le_of_ble_eq_true e)
 have X0:Ws s B L σ₀ (W.of W.P.sc W.P.lc) (sd W.P W.c W.cuts) σ:=x.ws
 have y1:=X0.rd.par.lc.1
 refine zg (k:=498) Yj hd rfl fun d hd=>X0.wp (X0.ws ⟨by decide,?_⟩)
 apply shr (I:=LI s B L σ₀ W n)
 intro rest
 refine (fun els=>zC (fun h=>X0.rd.fla ((g_ (Jj y1)) ⟨l6 (k:=0) sm.lab rfl,zC (fun h2=>?_) fun _=>els⟩)) fun h=>m_f h els) ?_
 ·refine X0.rd.fla ((g_ (zx y1 (.inl rfl))) ((g_ (abc hm _)) (xF y1 (l6 (k:=1) sm.lab rfl) ?_)))
  have X1:=X0.labs (W.P.lc.ls++[.str [97+m]])
  refine X1.its (v:=.tup W.P.lc.ls) rfl ((g_ (abc hm _)) ⟨za (Nat.le_refl 1) rfl,l6 (k:=1) sm.lab rfl,X1.put (d':=sdv W.c W.cuts W.P.sc.deep W.P.rows (W.P.lc.ls++[.str [97+m]]) W.P.lc.cs W.P.plain W.P.sc.allow W.P.sc.nocond) (za (Nat.le_refl 10) rfl) rfl fun σ2 X2=>rest _ (.mk ?_ ?_ X2)⟩)
  ·rw [List.length_append];exact Nat.succ_le_succ sm.lab
  ·intro v hv
   rcases List.mem_append.mp hv with h | h
   ·exact sm.pl v h
   ·rw [List.mem_singleton.mp h]
    show (decide (97+m < 128)&&true)=true
    rw [dt (Nat.lt_of_lt_of_le (Nat.add_lt_add_left hm 97) (by decide))];rfl
 ·rcases List.eq_nil_or_concat W.P.lc.ls with e | ⟨ls,v,e⟩
  ·exact absurd (d_t h2:(W.P.lc.ls.length:Int) > 0) (by rw [e];decide)
  rw [List.concat_eq_append] at e
  have ll:=sm.lab
  rw [e,List.length_append] at ll
  have hl:ls.length+1≤81:=Nat.le_trans ll (Nat.le_succ_of_le hn)
  refine X0.rd.fla ((g_ (zx y1 (.inr (.inl rfl)))) (Jc (y1.trans (congrArg (fun l=>some (zu.lst l)) e)) (za hl rfl) ?_))
  have X1:=X0.labs ls
  exact X1.its (k:=[108,97,98,101,108,115]) (v:=.tup (ls++[v])) (congrArg (fun l=>some (V.tup l)) e) (HT (za hl rfl) (X1.put (d':=sdv W.c W.cuts W.P.sc.deep W.P.rows ls W.P.lc.cs W.P.plain W.P.sc.allow W.P.sc.nocond) (za (Nat.le_refl 10) rfl) rfl fun σ2 X2=>rest _ (.mk (Nat.le_trans (Nat.le_succ _) (Nat.le_succ_of_le ll)) (fun w hw=>sm.pl w (by rw [e];exact List.mem_append_left _ hw)) X2)))
 ·intro σ1 I
  cases I with
  | @mk ls σ1 hls hpl X=>
  have y1:=X.rd.par.lc.2
  refine X.rd.fco ((g_ (zx y1 (.inl rfl))) ⟨za (Nat.le_refl 4) rfl,xF y1 (l6 (k:=1) sm.cov rfl) ?_⟩)
  have X:=X.covs (W.P.lc.cs++[cvV m])
  refine X.its (v:=.tup W.P.lc.cs) rfl ⟨za (Nat.le_refl 4) rfl,za (Nat.le_refl 1) rfl,l6 (k:=1) sm.cov rfl,X.put (d':=sdv W.c W.cuts W.P.sc.deep W.P.rows ls (W.P.lc.cs++[cvV m]) W.P.plain W.P.sc.allow W.P.sc.nocond) (za (Nat.le_refl 10) rfl) rfl fun σ X=>⟨za (Nat.le_refl 3) rfl,X.fld (lyS W.P.sc m 1) rfl rfl rfl fun σ X=>X.fld (lyS W.P.sc m 2) rfl rfl rfl fun σ X=>X.fld (lyS W.P.sc m 3) rfl rfl rfl fun σ X=>X.fld (lyS W.P.sc m 4) rfl rfl rfl fun σ X=>⟨by decide,X.fld (lyS W.P.sc m 5) rfl rfl rfl fun σ X=>X.fld (lyS W.P.sc m 6) rfl rfl rfl fun σ X=>⟨za (Nat.le_refl 3) rfl,by decide,za (Nat.le_refl 6) rfl,X.put (d':=sdv W.c W.cuts W.P.sc.deep W.P.rows ls (W.P.lc.cs++[cvV m]) (W.of (lyS W.P.sc m 8) W.P.lc).P.plain W.P.sc.allow W.P.sc.nocond) (za (Nat.le_refl 10) rfl) rfl fun σ X=>X.fld (lyS W.P.sc m 7) rfl rfl rfl fun σ X=>X.put (d':=sdv W.c W.cuts W.P.sc.deep W.P.rows ls (W.P.lc.cs++[cvV m]) (W.of (lyS W.P.sc m 8) W.P.lc).P.plain (lyS W.P.sc m 8).allow W.P.sc.nocond) (za (Nat.le_refl 10) rfl) rfl fun σ X=>⟨by decide,X.fld (lyS W.P.sc m 8) rfl rfl rfl fun σ X=>⟨by decide,X.put (d':=sd (W.of (lyS W.P.sc m 8) ((W.P.lc.l ls).c (W.P.lc.cs++[cvV m]))).P W.c W.cuts) (za (Nat.le_refl 10) rfl) rfl fun σ X=>q _ _ ⟨X,x.wp.to (Nat.le_succ n) ⟨x.wp.st.dp,x.wp.st.ct,⟨Nat.le_succ_of_le sm.rows,hls,?_,sm.pr,hpl,?_,rfl⟩⟩ rfl (.of .refl rfl)⟩⟩⟩⟩⟩⟩⟩
  ·show (W.P.lc.cs++[cvV m]).length≤n+1
   rw [List.length_append];exact Nat.succ_le_succ sm.cov
  ·intro v hv
   rcases List.mem_append.mp hv with h | h
   ·exact sm.pc v h
   ·rw [List.mem_singleton.mp h];rfl
end
section
variable {s:List Nat} {B:Loc} {L:PL} {P:PS} {σ₀ σ σ':St} {W:WR} {n d:Nat} {Q:V→St→Prop} {X:String→St→Prop}
theorem VH (x:Wd s B L n σ₀ W σ) (hd:500≤d) (hn:n≤80) {m:Nat} (hm:m < 6) (q:LQ s B L n σ₀ Q):ze (RC d) "_law_fault" [.str s,.ref L.lw,.int (m:Int)] σ Q X:=by
 have sm:=x.wp.st.sm
 have hl:∀ {A:Type} {f:Dg→A},(W.P.rows.map f).length+1≤1000000:=fun {A f}=>by rw [List.length_map];exact Nat.le_trans (Nat.succ_le_succ (Nat.le_trans sm.rows hn)) (by decide)
 refine zg (k:=498) qd hd rfl fun d hd=>x.ws.wp (x.ws.ws (x.ws.its (v:=.int (W.c:Int)) rfl (zv (zi hd rfl) x.ws.rd.hs (x.ws.ws (x.ws.its (v:=.tup (W.P.rows.map Dg.row)) rfl ⟨za (Nat.le_refl 1) rfl,za (Nat.le_refl 3) rfl,za (Nat.le_refl 1) rfl,hl,x.ws.ws ?_⟩)))))
 refine x.ws.putE (uB (g:=⟨1003+(m:Int),(sg s W.c).at_,.tup [.str [120]]⟩) rfl) (d'':=sdv W.c W.cuts W.P.sc.deep (W.P.rows++[⟨1003+(m:Int),(sg s W.c).at_,.tup [.str [120]]⟩]) W.P.lc.ls W.P.lc.cs W.P.plain W.P.sc.allow W.P.sc.nocond) (za (Nat.le_refl 10) rfl) rfl fun σ1 x1=>x1.rd.rv rfl rfl ⟨za (Nat.le_refl 1) rfl,yL (ZN x1.rd (zi hd rfl) ⟨by omega,by omega⟩ fun σ2 y=>q _ _ ⟨x1.go y ?_,x.wp.to (P':=W.P.tell ⟨1003+(m:Int),(sg s W.c).at_,.tup [.str [120]]⟩) (Nat.le_succ n) ⟨x.wp.st.dp,x.wp.st.ct,⟨?_,Nat.le_succ_of_le sm.lab,Nat.le_succ_of_le sm.cov,fun g hg=>?_,sm.pl,sm.pc,sm.pp⟩⟩ rfl ⟨.refl,_,rfl⟩⟩)⟩
 ·show (W.P.rows++[_]).length < _
  rw [List.length_append];exact Nat.lt_of_le_of_lt (Nat.succ_le_succ (Nat.le_trans sm.rows hn)) (by decide)
 ·show (W.P.rows++[_]).length≤n+1
  rw [List.length_append];exact Nat.succ_le_succ sm.rows
 ·rcases List.mem_append.mp hg with h | h
  ·exact sm.pr g h
  ·rw [List.mem_singleton.mp h];rfl
theorem Ep (x:Wd s B L n σ₀ W σ) (hd:502≤d) (hn:n≤80) (ho:σ₀.ow=L.i) {deed m:Nat} (hm:m < 6) (q:LQ s B L n σ₀ Q):ze (RC d) "_law_do" [.str s,.ref L.lw,.int (deed:Int),.int (m:Int)] σ Q X:=by
 refine zg (k:=500) Xu hd rfl fun d hd=>zC (fun _=>JD x hd hn q) fun _=>zC (fun _=>Hx x hd hn ho q) fun _=>zC (fun _=>uu x hd hn q) fun _=>zC (fun _=>ZL x hd hn ho q) fun _=>zC (fun _=>x.ws.wm ((g_ (xg x.ws.tb.m)) ⟨Nat.le_trans x.wp.ml (Nat.le_trans hn (by decide)),Int.ofNat_lt.mpr (Nat.succ_pos _),VI (j:=m % (W.marks.length+1)) x hd hn ho (Nat.lt_of_le_of_lt (Nat.mod_le _ _) (Nat.lt_trans hm (by decide))) q⟩)) fun _=>zC (fun _=>VJ x hd hn hm q) fun _=>VH x hd hn hm q
end
theorem Rows.det {s cuts:List Nat} {c:Nat} {ts ts':List Tk} (h:Rows s cuts c ts) (h':Rows s cuts c ts'):ts=ts':=by
 induction h generalizing ts' with
 | fin q1 q2=>cases h' with
  | fin=>rfl
  | plain q'=>exact absurd q1 q'
  | cut q' q''=>exact absurd q1 q''
 | plain q1 q2 _ ih=>cases h' with
  | fin q'=>exact absurd q' q1
  | plain _ _ x=>rw [ih x]
  | cut q'=>exact absurd q' q2
 | cut q1 q2 q3 _ ih=>cases h' with
  | fin q'=>exact absurd q' q2
  | plain _ q'=>exact absurd q1 q'
  | cut _ _ _ x=>rw [ih x]
theorem Rows.asc {s cuts:List Nat} (al:xp s) {c:Nat} {ts:List Tk} (h:Rows s cuts c ts):∀ t∈ts,Mine.asc t.text=true:=by
 induction h with
 | fin=>exact fun t ht=>List.mem_singleton.mp ht▸vA al
 | plain _ _ _ ih=>exact fun t ht=>(List.mem_cons.mp ht).elim (fun e=>e▸vA al) (ih t)
 | cut _ _ _ _ ih=>
  intro t ht
  rcases List.mem_append.mp ht with q | q
  ·unfold kZ at q
   split at q
   ·cases q
   ·rw [List.mem_singleton.mp q];rfl
  ·exact (List.mem_cons.mp q).elim (fun e=>e▸vA al) (ih t)
theorem vt {A:Type} {f:A→V} {l:List A} (h:∀ a∈l,(f a).plain 19=true):zq 19 (l.map f)=true:=yp.mpr fun v hv=>by
 obtain ⟨t,ht,rfl⟩:=List.mem_map.mp hv
 exact h t ht
theorem j3 {ts:List Tk} (h:∀ t∈ts,Mine.asc t.text=true):zq 19 (ts.map Tk.row)=true:=vt fun t ht=>by
 show (true&&(Mine.asc t.text&&(true&&(true&&(true&&(true&&true))))))=true
 rw [h t ht];rfl
section
variable {s:List Nat} {B:Loc} {L:PL} {P:PS} {σ₀ σ σ':St} {W:WR} {n d k:Nat} {Q:V→St→Prop} {X:String→St→Prop}
theorem jF {l:Loc} {xs:List V} (h:σ.m l=some (.lst xs)):zX σ (.ref l)=some xs:=zJ h
theorem Vw {A:Type} {fv gv:A→V} {f:Frm→(V→St→Prop)→St→Prop} {tg:List String} {l:Loc} {xs:List A} {Q:St→Prop} (w:Wf σ) (h:σ.m l=some (.lst (xs.map fv))) (hl:xs.length≤900000)
  (hb:∀ a,∃ F,yn tg (fv a) []=some F∧∀ (Q':V→St→Prop) σ',Q' (gv a) σ'→f F Q' σ') (q:∀ σ',σ'.m (σ.loc k)=some (.lst (xs.map gv))→zt σ σ'→Wf σ'→σ.nx≤σ'.nx→Q σ'):
  jl f tg (σ.loc k) (fun σ'=>zX σ' (.ref l)=some (xs.map fv)) (xs.map fv) [] Q (σ.new k (.lst [])):=by
 have st:∀ {c},zX ((σ.new k (.lst [])).set (σ.loc k) c) (.ref l)=some (xs.map fv):=jF ((zl (w.ne h)).trans ((xH (w.ne h)).trans h))
 have key:∀ (ys:List A) (acc:List V) (σ':St),acc.length+ys.length < 1000000→σ'=(σ.new k (.lst [])).set (σ.loc k) (.lst acc)→Q ((σ.new k (.lst [])).set (σ.loc k) (.lst (acc++ys.map gv)))→jl f tg (σ.loc k) (fun σ'=>zX σ' (.ref l)=some (xs.map fv)) (ys.map fv) acc Q σ':=by
  intro ys
  induction ys with
  | nil=>intro acc σ' _ e q;rw [List.map_nil,List.append_nil,← e] at q;exact q
  | cons a r ih=>
   intro acc σ' hl e q
   obtain ⟨F,hF,hf⟩:=hb a
   refine (g_ hF) (hf _ _ ⟨?_,?_,Nat.lt_of_le_of_lt (Nat.le_add_right _ _) hl,ih _ _ ?_ ?_ ?_⟩)
   ·rw [e];exact zj
   ·rw [e];exact st
   ·rw [List.length_append];exact Nat.lt_of_le_of_lt (Nat.le_of_eq (Nat.add_assoc _ 1 _ |>.trans (congrArg _ (Nat.add_comm 1 _)))) hl
   ·rw [e,set_set]
   ·rw [List.append_assoc];exact q
 exact key xs [] _ (Nat.lt_of_le_of_lt (Nat.le_of_eq (Nat.zero_add _)) (Nat.lt_of_le_of_lt hl (by decide))) hJ.symm (q _ zj ((zt.new w _ _).set (w.none (Nat.le_refl _)) _) ((w.new _ _).set (Nat.lt_succ_self _) _) (Nat.le_succ _))
theorem ZJ (w:Wf σ) (hd:2≤d) {l:Loc} {ts:List Tk} (h:σ.m l=some (.lst (ts.map Tk.v))) (hl:ts.length≤1000) (q:∀ l' σ',σ'.m l'=some (.lst (ts.map Tk.row))→zt σ σ'→Wf σ'→σ.nx≤σ'.nx→Q (.ref l') σ'):ze (RC d) "_law_seen" [.ref l] σ Q X:=by
 refine zg Ze hd rfl fun _ _=>(g_ (jF h)) ?_
 exact Vw (gv:=Tk.row) w h (za hl rfl) (fun a=>⟨_,rfl,fun Q' σ' q=>⟨za (Nat.le_refl 6) rfl,q⟩⟩) fun σ' h1 s1 w1 n1=>q _ _ h1 s1 w1 n1
theorem HB (hd:2≤d) {g:Dg} (q:Q g.row σ):ze (RC d) "Diag.row" [g.v] σ Q X:=
 zg Yl hd rfl fun _ _=>⟨za (Nat.le_refl 3) rfl,q⟩
theorem Gn {cuts:List Nat}:j9 σ .eq (yN cuts) (.tup [])=some (decide (cuts=[])):=by
 have pc:zq 19 (cuts.map fun (a:Nat)=>V.int (a:Int))=true:=vt fun _ _=>rfl
 cases cuts with
 | nil=>rfl
 | cons a r=>
  show oO none (oO none (if (zq 19 ((a::r).map fun (a:Nat)=>V.int (a:Int))&&true)=true then _ else _))=_
  rw [pc];rfl
theorem MY {l:Loc} {i:Int} (h:σ.m l=some (.di [])) (q:Q (.ref l) (σ.set l (.di [(i,.bool true)]))):xi true [.int i,.bool true] l σ Q:=by
 unfold xi
 exact ⟨h,rfl,q⟩
theorem dn {la lb:Loc} {i:Int} (ha:σ.m la=some (.di [(i,.bool true)])) (hb:σ.m lb=some (.di [(i,.bool true)])):j9 σ .ne (.ref la) (.ref lb)=some false:=by
 show oO (bd (diA σ la) fun d=>bd (diA σ lb) fun d'=>_) _=_
 rw [gH ha,gH hb]
 show oO (some (!(decide (i=i)&&_))) _=_
 rw [dt rfl];rfl
end
noncomputable def Od (s:List Nat) (B:Loc) (σ:St):Prop:=∃ ts,Rows s [] 0 ts∧σ.m B=some (.lst (ts.map Tk.row))
section
variable {s:List Nat} {B:Loc} {L:PL} {P:PS} {σ₀ σ σ':St} {W:WR} {n d k:Nat} {Q:V→St→Prop} {X:String→St→Prop}
theorem Wd.same (x:Wd s B L n σ₀ W σ) (h:zt σ σ') (w:Wf σ') (m:σ.nx≤σ'.nx):Wd s B L n σ₀ W σ':=⟨x.ws.same h w m,x.wp⟩
theorem Oj {A:Type} {I K:A→St→Prop} {C:Prop} (h:(∀ a σ',I a σ'→K a σ')→C) (r:∀ a σ',I a σ'→K a σ'):C:=h r
theorem q_b {b:Bool} (h:b=true) (q:Q (.bool true) σ):Q (.bool b) σ:=by rw [h];exact q
theorem Hv (x:Wd s B L n σ₀ W σ) (hd:20≤d) (hn:n≤90) (hB:Od s B σ) (q:∀ σ',Wd s B L n σ₀ W σ'→zt σ σ'→Q (.bool true) σ'):ze (RC d) "_law_true" [.str s,.ref L.lw] σ Q X:=by
 obtain ⟨ts,hts,hBm⟩:=hB
 have r0:=x.ws.rd
 have hrows:=r0.pl.rows r0.gd
 refine zg (k:=18) Z8 hd rfl fun d hd=>x.ws.wp (x.ws.ws (r0.fpe (r0.fif (r0.fil (r0.fis (r0.frb (r0.fit ⟨za (Nat.le_refl 6) rfl,x.ws.its (v:=yN W.cuts) rfl ⟨Nat.zero_le _,(g_ Gn) ?_⟩⟩)))))))
 apply Oj (I:=fun lr σ1=>zt σ σ1∧Wf σ1∧σ.nx≤σ1.nx∧σ1.m lr=some (.lst (W.P.tk.map Tk.row)))
 intro rest
 refine zC (fun h=>x.ws.wb ?_) fun h=>x.ws.its (v:=yN W.cuts) rfl (xA fun _=>gJ (zi hd rfl) r0.hs hrows fun l σ1 h1 s1 w1 n1=>rest l σ1 ⟨s1,w1,n1,h1⟩)
 ·refine rest B σ ⟨.refl,r0.wf,Nat.le_refl _,?_⟩
  rw [d_t h] at hrows
  rw [hrows.det hts];exact hBm
 intro lr σ1 ⟨s1,w1,n1,hlr⟩
 have x1:=x.same s1 w1 n1
 refine x1.ws.rd.ftk (ZJ w1 (zi hd rfl) x1.ws.rd.par.t x1.ws.rd.par.len fun l2 σ2 h2 s2 w2 n2=>(g_ (Jg h2 (s2.2 _ _ hlr) (j3 (hrows.asc r0.al)))) ?_)
 have x2:=x1.same s2 w2 n2
 have s2:=s1.trans s2
 refine xj x2.ws.rd.toRp (zi hd rfl) (x2.ws.its (v:=.int (W.c:Int)) rfl (zv (zi hd rfl) r0.hs (m_f (dnf rfl) (x2.ws.rd.fdg ?_))))
 refine (g_ ((gA x2.ws.rd.par.d).trans rfl)) ((g_ (jF x2.ws.rd.par.r)) (Vw (gv:=Dg.row) w2 x2.ws.rd.par.r ?_ (fun a=>⟨_,rfl,fun Q' σ' q=>yL (HB (zi hd rfl) q)⟩) fun σ3 m3 s3 w3 n3=>?_))
 ·exact Nat.le_of_lt r0.rw_
 have x3:=x2.same s3 w3 n3
 have s3:=s2.trans s3
 have sm:=x.wp.st.sm
 have y:=x3.ws
 have yr:=y.rd
 have l9:∀ {a:Nat},a≤n→a≤1000000:=fun h=>Nat.le_trans h (Nat.le_trans hn (by decide))
 have pr:zq 19 (W.P.rows.map Dg.row)=true:=vt fun g hg=>by
  show (true&&(true&&(g.args.plain 18&&true)))=true
  rw [sm.pr g hg];rfl
 refine (g_ (zJ m3)) ⟨?_,y.its (v:=.tup (W.P.rows.map Dg.row)) rfl ((g_ (Zr pr)) (yr.fdp (y.its (v:=.int W.P.sc.deep) rfl (m_f (dnf rfl) (yr.fla ?_)))))⟩
 ·rw [List.length_map];exact l9 sm.rows
 refine (g_ (zJ yr.par.lc.1)) ⟨l9 sm.lab,y.its (v:=.tup W.P.lc.ls) rfl ((g_ (Zr (yp.mpr sm.pl))) (yr.fco ((g_ (zJ yr.par.lc.2)) ⟨l9 sm.cov,y.its (v:=.tup W.P.lc.cs) rfl ((g_ (Zr (yp.mpr sm.pc))) (y.its (v:=W.P.plain) rfl ((g_ (Zr ?_)) (yr.fcm ?_))))⟩)))⟩
 ·show (W.P.sc.pending.plain 19&&true)=true
  rw [sm.pp];rfl
 have dd:∀ {σ:St} {i:Int} {k:Nat},Wf σ→zt σ ((σ.new k (.di [])).set (σ.loc k) (.di [(i,.bool true)]))∧Wf ((σ.new k (.di [])).set (σ.loc k) (.di [(i,.bool true)])):=fun w=>⟨(zt.new w _ _).set (w.none (Nat.le_refl _)) _,(w.new _ _).set (Nat.lt_succ_self _) _⟩
 refine (x3.same (zt.new w3 323 (.di [])) (w3.new _ _) (Nat.le_succ _)).ws.wpl (MY zp ?_)
 have ⟨s4,w4⟩:=dd (i:=(L.place:Int)) (k:=323) w3
 have x4:=x3.same s4 w4 (Nat.le_succ _)
 refine (g_ (dn x4.ws.rd.par.co zj)) (x4.ws.rd.fna ?_)
 refine (x4.same (zt.new w4 321 (.di [])) (w4.new _ _) (Nat.le_succ _)).ws.wpl (MY zp ?_)
 have ⟨s5,w5⟩:=dd (i:=(L.place:Int)+7) (k:=321) w4
 have x5:=x4.same s5 w5 (Nat.le_succ _)
 refine (g_ (dn x5.ws.rd.par.na zj)) ?_
 have s5:=s3.trans (s4.trans s5)
 have sl:W.P.saved.length=W.marks.length:=by rw [x.wp.sv,List.length_map]
 exact x5.ws.rd.fal (x5.ws.rd.fnc (x5.ws.rd.fsa ((g_ ((xg x5.ws.rd.par.sa).trans (congrArg some sl))) ⟨l9 x.wp.ml,za (Nat.le_refl 3) rfl,x5.ws.its (v:=.bool W.P.sc.allow) rfl (x5.ws.its (v:=.bool W.P.sc.nocond) rfl (x5.ws.wm ((g_ (xg x5.ws.tb.m)) ⟨l9 x.wp.ml,za (Nat.le_refl 3) rfl,q_b (Vm (.tup [.bool W.P.sc.allow,.bool W.P.sc.nocond,.int (W.marks.length:Int)])) (q _ x5 s5)⟩)))⟩)))
end
section
variable {s:List Nat} {B H:Loc} {L L1 L2:PL} {σ₀ σ σ':St} {W W1 W2:WR} {n d k:Nat} {Q:V→St→Prop} {X:String→St→Prop}
theorem YQ {f:String} {args:List V} (i:Nat) (h:ze (RC d) f args (σ.own i) (fun v σ'=>Q v (σ'.own σ.ow)) fun C σ'=>X C (σ'.own σ.ow)):ze (RC d) f args σ Q X:=by
 unfold ze at h ⊢
 refine RC.mono (RC.owned i h) fun o σ' x=>?_
 obtain ⟨σ2,h,rfl⟩:=x
 cases o <;> exact h
theorem Wd.mono {n':Nat} (x:Wd s B L n σ₀ W σ) (h:n≤n'):Wd s B L n' σ₀ W σ:=⟨x.ws,x.wp.to h ⟨x.wp.st.dp,x.wp.st.ct,x.wp.st.sm.mono h⟩ rfl (.of .refl rfl)⟩
theorem Wd.at (x:Wd s B L n σ₀ W σ) (h:∀ l c,l.1=L.i→σ.m l=some c→σ'.m l=some c) (w:Wf σ'):Wd s B L n σ' W σ':=
 have p:=x.ws.rd.par
 have t:=x.ws.tb
 ⟨⟨x.ws.rd.mv ⟨h _ _ rfl p.p,h _ _ rfl p.t,h _ _ rfl p.d,h _ _ rfl p.r,h _ _ rfl p.sp,h _ _ rfl p.sa,⟨h _ _ rfl p.lc.1,h _ _ rfl p.lc.2⟩,fun k hk=>⟨h _ _ rfl (p.mks k hk).1,h _ _ rfl (p.mks k hk).2⟩,p.nd,h _ _ rfl p.ty,h _ _ rfl p.pa,h _ _ rfl p.co,h _ _ rfl p.na,p.len⟩ w,
  ⟨h _ _ rfl t.w,h _ _ t.ks.1 t.s,h _ _ t.km.1 t.m,fun k hk=>h _ _ (t.kk k hk).1 (t.k k hk),t.ks,t.km,t.kk,t.nd⟩,.refl,Nat.le_refl _⟩,x.wp⟩
structure Tw (s:List Nat) (B H:Loc) (L1 L2:PL) (n:Nat) (W1 W2:WR) (σ:St):Prop where
 a:Wd s B L1 n σ W1 σ
 b:Wd s B L2 n σ W2 σ
 base:Od s B σ
 hand:∃ ts,Rows s [] 0 ts∧σ.m H=some (.lst (ts.map Tk.v))∧ts.length≤1000
 ow:B.1≠L1.i∧H.1≠L1.i∧B.1≠L2.i∧H.1≠L2.i∧L1.i≠L2.i
theorem Tw.swap (t:Tw s B H L1 L2 n W1 W2 σ):Tw s B H L2 L1 n W2 W1 σ:=⟨t.b,t.a,t.base,t.hand,⟨t.ow.2.2.1,t.ow.2.2.2.1,t.ow.1,t.ow.2.1,t.ow.2.2.2.2.symm⟩⟩
theorem Tw.mono {n':Nat} (t:Tw s B H L1 L2 n W1 W2 σ) (h:n≤n'):Tw s B H L1 L2 n' W1 W2 σ:=⟨t.a.mono h,t.b.mono h,t.base,t.hand,t.ow⟩
theorem Tw.wf (t:Tw s B H L1 L2 n W1 W2 σ):Wf σ:=t.a.ws.rd.wf
theorem Tw.same (t:Tw s B H L1 L2 n W1 W2 σ) (h:zt σ σ') (w:Wf σ'):Tw s B H L1 L2 n W1 W2 σ':=by
 obtain ⟨ts,h1,h2,h3⟩:=t.hand
 obtain ⟨tb,b1,b2⟩:=t.base
 exact ⟨t.a.at (fun l c _ e=>h.2 l c e) w,t.b.at (fun l c _ e=>h.2 l c e) w,⟨tb,b1,h.2 _ _ b2⟩,⟨ts,h1,h.2 _ _ h2,h3⟩,t.ow⟩
theorem Tw.go (t:Tw s B H L1 L2 n W1 W2 σ) {f:String} {args:List V} (h:∀ {τ Q X},τ.ow=L1.i→Wd s B L1 n τ W1 τ→LQ s B L1 n τ Q→ze (RC d) f args τ Q X)
  (q:∀ W1' σ',σ'.ow=σ.ow→(∀ l c,σ.m l=some c→l.1≠L1.i→σ'.m l=some c)→Tw s B H L1 L2 (n+1) W1' W2 σ'→Q (.bool true) σ'):ze (RC d) f args σ Q X:=
 YQ L1.i (h rfl (t.a.at (fun _ _ _ e=>e) t.wf) fun W' σ2 x=>by
  have k:∀ l c,σ.m l=some c→l.1≠L1.i→(σ2.own σ.ow).m l=some c:=x.ws.kp.2
  have w:Wf (σ2.own σ.ow):=x.ws.rd.wf
  obtain ⟨ts,h1,h2,h3⟩:=t.hand
  obtain ⟨tb,b1,b2⟩:=t.base
  exact q W' _ rfl k ⟨x.at (fun _ _ _ e=>e) w,(t.b.mono (Nat.le_succ n)).at (fun l c hi e=>k l c e (hi▸t.ow.2.2.2.2.symm)) w,⟨tb,b1,k _ _ b2 t.ow.1⟩,⟨ts,h1,k _ _ h2 t.ow.2.1,h3⟩,t.ow⟩)
theorem Tw.tr (t:Tw s B H L1 L2 n W1 W2 σ) (hd:20≤d) (hn:n≤90) (q:∀ σ',zt σ σ'→Tw s B H L1 L2 n W1 W2 σ'→Q (.bool true) σ'):ze (RC d) "_law_true" [.str s,.ref L1.lw] σ Q X:=
 xA fun _=>Hv t.a hd hn t.base fun σ' _ s1 w1 _=>q σ' s1 (t.same s1 w1)
theorem Tw.end_ (t:Tw s B H L1 L2 n W1 W2 σ) (hd:500≤d) (hn:n≤80) (q:∀ W1' σ',σ'.ow=σ.ow→Tw s B H L1 L2 (n+1) W1' W2 σ'→Q (.bool true) σ'):ze (RC d) "_law_end" [.ref L1.lw,.int 0,.bool false] σ Q X:=
 t.go (fun ho x q=>VI (j:=0) x hd hn ho (by decide) q) fun W' σ' e _ t'=>q W' σ' e t'
end
section
variable {s:List Nat} {B H:Loc} {L1 L2:PL} {σ σ':St} {W1 W2:WR} {n d:Nat} {Q:V→St→Prop} {X:String→St→Prop}
noncomputable def TwE (s:List Nat) (B H:Loc) (L1 L2:PL) (n:Nat) (o:Nat) (σ:St):Prop:=∃ W1 W2,Tw s B H L1 L2 n W1 W2 σ∧σ.ow=o
theorem GA (t:Tw s B H L1 L2 n W1 W2 σ) (hd:502≤d) (hn:n≤60) (hp:L1.place≤2∧L2.place≤2) (q:∀ σ',TwE s B H L1 L2 (n+11) σ.ow σ'→Q (.bool true) σ'):ze (RC d) "_law_close" [.str s,.ref H,.ref L1.lw,.ref L2.lw] σ Q X:=by
 have ls:∀ {A:Type} {l:List A} {m:Nat},l.length≤m→m≤1000→l.length≤1000000:=fun h h'=>Nat.le_trans h (Nat.le_trans h' (by decide))
 refine zg (k:=500) qe hd rfl fun d hd=>?_
 refine ⟨za (Nat.le_refl 2) rfl,?_⟩
 apply shr (I:=TwE s B H L1 L2 (n+1) σ.ow)
 ·intro rest
  refine t.a.ws.wm ((g_ (xg t.a.ws.tb.m)) ⟨ls t.a.wp.ml (Nat.le_trans hn (by decide)),zC (fun h=>?_) fun h=>m_f h ?_⟩)
  ·exact t.end_ hd (Nat.le_trans hn (by decide)) fun W' σ' e t'=>rest σ' ⟨W',W2,t',e⟩
  ·exact rest _ ⟨_,_,t.mono (Nat.le_succ _),rfl⟩
 clear t
 intro σ1 ⟨W1,W2,t,e1⟩
 have hn2:n+1≤61:=Nat.succ_le_succ hn
 refine ⟨5,rfl,?_⟩
 have t:=t.swap
 apply shr (I:=TwE s B H L1 L2 (n+2) σ.ow)
 ·intro rest
  refine t.a.ws.wm ((g_ (xg t.a.ws.tb.m)) ⟨ls t.a.wp.ml (Nat.le_trans hn2 (by decide)),zC (fun h=>?_) fun h=>m_f h ?_⟩)
  ·exact t.end_ hd (Nat.le_trans hn2 (by decide)) fun W' σ' e t'=>rest σ' ⟨W1,W',t'.swap,e.trans e1⟩
  ·exact rest _ ⟨_,_,t.swap.mono (Nat.le_succ _),e1⟩
 clear t
 intro σ2 ⟨W1,W2,t,e2⟩
 have hb:∀ {k m},Nat.ble (60+k) m=true→n+k≤m:=fun e=>Nat.le_trans (Nat.add_le_add_right hn _) (Nat.le_of_ble_eq_true e)
 refine ⟨5,rfl,t.tr (zi hd rfl) (hb rfl) fun σ3 s3 t=>t.swap.tr (zi hd rfl) (hb rfl) fun σ4 s4 t=>⟨za (Nat.le_refl 2) rfl,?_⟩⟩
 have t:=t.swap
 refine t.go (fun ho x q=>ZL x hd (hb rfl) ho q) fun Wa σ5 o5 _ t=>t.a.ws.wpl (t.go (fun ho x q=>VJ (m:=3+L1.place) x hd (hb (k:=3) rfl) (Nat.lt_of_le_of_lt (Nat.add_le_add_left hp.1 3) (by decide)) q) fun Wb σ6 o6 _ t=>t.go (fun ho x q=>uu x hd (hb (k:=4) rfl) q) fun Wc σ7 o7 _ t=>⟨5,rfl,?_⟩)
 have t:=t.swap
 refine t.go (fun ho x q=>ZL x hd (hb (k:=5) rfl) ho q) fun Wa σ8 o8 _ t=>t.a.ws.wpl (t.go (fun ho x q=>VJ (m:=3+L2.place) x hd (hb (k:=6) rfl) (Nat.lt_of_le_of_lt (Nat.add_le_add_left hp.2 3) (by decide)) q) fun Wb σ9 o9 _ t=>t.go (fun ho x q=>uu x hd (hb (k:=7) rfl) q) fun Wc σ10 o10 _ t=>⟨5,rfl,?_⟩)
 refine t.swap.tr (zi hd rfl) (hb (k:=8) rfl) fun σ11 s11 t=>t.swap.tr (zi hd rfl) (hb (k:=8) rfl) fun σ12 s12 t=>t.swap.end_ hd (hb (k:=8) rfl) fun Wd σ13 o13 t=>t.tr (zi hd rfl) (hb (k:=9) rfl) fun σ14 s14 t=>t.swap.tr (zi hd rfl) (hb (k:=9) rfl) fun σ15 s15 t=>t.end_ hd (hb (k:=9) rfl) fun We σ16 o16 t=>t.swap.tr (zi hd rfl) (hb (k:=10) rfl) fun σ17 s17 t=>t.swap.tr (zi hd rfl) (hb (k:=10) rfl) fun σ18 s18 t=>t.swap.go (fun ho x q=>uu x hd (hb (k:=10) rfl) q) fun Wf σ19 o19 _ t=>t.tr (zi hd rfl) (hb (k:=11) rfl) fun σ20 s20 t=>t.swap.tr (zi hd rfl) (hb (k:=11) rfl) fun σ21 s21 t=>?_
 have t:=t.swap
 obtain ⟨ts,h1,h2,h3⟩:=t.hand
 obtain ⟨tb,b1,b2⟩:=t.base
 refine ZJ t.wf (zi hd rfl) h2 h3 fun l' σ22 m22 s22 w22 _=>?_
 have t:=t.same s22 w22
 refine t.a.ws.wb ?_
 rw [h1.det b1] at m22
 refine (g_ (Jz m22 (s22.2 _ _ b2) (j3 (b1.asc t.a.ws.rd.al)))) (q _ ⟨_,_,t,?_⟩)
 rw [s22.1,s21.1,s20.1,o19,s18.1,s17.1,o16,s15.1,s14.1,o13,s12.1,s11.1,o10,o9,o8,o7,o6,o5,s4.1,s3.1,e2]
end
theorem Hp (P:Params):dfl P "Diags.__init__"=some (sv []):=by kernel_rfl
section
variable {σ σ':St} {d k:Nat} {Q:V→St→Prop} {X:String→St→Prop} {H:Loc}
theorem Mv {l:Loc} {C:String} {f:List (String×V)} (hf:ZD C=false) (q:Q (.ref l) (σ.set l (.inst C f))):Yq l C (σ.set l (.inst C f)) Q:=(g_ (kU zj)) ⟨rfl,m_f hf q⟩
theorem Kk {b:Bool} {l:Loc} (h:σ.m l=some (yP b)) (q:Q (.ref l) σ):xi b [] l σ Q:=by
 unfold xi
 cases b
 ·exact ⟨h,rfl,by rw [jy (c:=.ds []) h];exact q⟩
 ·exact ⟨h,rfl,by rw [jy (c:=.di []) h];exact q⟩
theorem UU (hd:2≤d) (q:Q (.ref (σ.loc 61)) ((σ.bump.new 1 (.lst [])).set (σ.loc 61) (.inst "Diags" [("rows",.ref (σ.ow,1,σ.nx+1)),("file",.str [])]))):ju (RC d) 61 "Diags" [] σ Q X:=
 vr rfl (Qy (by decide) qi Hp hd fun _=>⟨Nat.zero_le _,xy (Nat.lt_succ_self _) (by decide +kernel) (za (Nat.le_refl 1) rfl) (zU (by decide +kernel) (za (Nat.le_refl 2) rfl) (Mv rfl q))⟩)
noncomputable def prF (i n:Nat) (D:Loc):List (String×V):=[("tokens",.ref (i,12,n+1)),("at",.int 0),("diags",.ref D),("parts",.ref (i,13,n+2)),("firsts",.ref (i,14,n+3)),("tails",.ref (i,15,n+4)),("types",.ref (i,16,n+5)),("deep",.int 0),("pending",.tup [.str [],.int 0,.int 0]),("allow_in",.bool true),
 ("in_func",.int 0),("in_loop",.int 0),("in_switch",.int 0),("labels",.ref (i,7,n+6)),("no_cond",.bool false),("ret_bar",.bool false),("in_literal",.int 0),("covers",.ref (i,6,n+7)),("commas",.ref (i,19,n+8)),("not_arrow",.ref (i,20,n+9)),("splits",.ref (i,21,n+10)),("saved",.ref (i,22,n+11))]
noncomputable def prT (σ:St) (xs:List V):St:=((((((((((σ.new 12 (.lst xs)).new 13 (.di [])).new 14 (.ds [])).new 15 (.ds [])).new 16 (.ds [])).new 7 (.lst [])).new 6 (.lst [])).new 19 (.di [])).new 20 (.di [])).new 21 (.lst [])).new 22 (.lst [])
theorem WK {i n:Nat} (ho:σ.ow=i) (hn:σ.nx=n) (w:Wf σ) (hd:2≤d) {xs:List V} (hH:σ.m H=some (.lst xs)) (hx:xs.length≤1000000) {D:Loc} (q:Q (.ref (i,60,n)) ((prT σ.bump xs).set (i,60,n) (.inst "Parser" (prF i n D)))):ju (RC d) 60 "Parser" [.ref H,.ref D] σ Q X:=by
 subst ho hn
 have lt:∀ j,σ.nx < σ.nx+(j+1):=fun j=>Nat.lt_add_of_pos_right (Nat.succ_pos j)
 refine vr rfl (zg gf hd rfl fun _ _=>Xh ((zl (w.ne hH)).trans hH) hx ?_)
 refine xy (lt 0) (by decide +kernel) (za (Nat.le_refl 1) rfl) ?_
 refine zU (by decide +kernel) (za (Nat.le_refl 2) rfl) ?_
 refine zU (by decide +kernel) (za (Nat.le_refl 3) rfl) ?_
 refine Kk (b:=true) zp (xy (lt 1) (by decide +kernel) (za (Nat.le_refl 4) rfl) ?_)
 refine Kk (b:=false) zp (xy (lt 2) (by decide +kernel) (za (Nat.le_refl 5) rfl) ?_)
 refine Kk (b:=false) zp (xy (lt 3) (by decide +kernel) (za (Nat.le_refl 6) rfl) ?_)
 refine Kk (b:=false) zp (xy (lt 4) (by decide +kernel) (za (Nat.le_refl 7) rfl) ?_)
 refine zU (by decide +kernel) (za (Nat.le_refl 8) rfl) ?_
 refine ⟨za (Nat.le_refl 3) rfl,zU (by decide +kernel) (za (Nat.le_refl 9) rfl) ?_⟩
 refine zU (by decide +kernel) (za (Nat.le_refl 10) rfl) ?_
 refine zU (by decide +kernel) (za (Nat.le_refl 11) rfl) ?_
 refine zU (by decide +kernel) (za (Nat.le_refl 12) rfl) ?_
 refine zU (by decide +kernel) (za (Nat.le_refl 13) rfl) ?_
 refine ⟨Nat.zero_le _,xy (lt 5) (by decide +kernel) (za (Nat.le_refl 14) rfl) ?_⟩
 refine zU (by decide +kernel) (za (Nat.le_refl 15) rfl) ?_
 refine zU (by decide +kernel) (za (Nat.le_refl 16) rfl) ?_
 refine zU (by decide +kernel) (za (Nat.le_refl 17) rfl) ?_
 refine ⟨Nat.zero_le _,xy (lt 6) (by decide +kernel) (za (Nat.le_refl 18) rfl) ?_⟩
 refine Kk (b:=true) zp (xy (lt 7) (by decide +kernel) (za (Nat.le_refl 19) rfl) ?_)
 refine Kk (b:=true) zp (xy (lt 8) (by decide +kernel) (za (Nat.le_refl 20) rfl) ?_)
 refine ⟨Nat.zero_le _,xy (lt 9) (by decide +kernel) (za (Nat.le_refl 21) rfl) ?_⟩
 refine ⟨Nat.zero_le _,xy (lt 10) (by decide +kernel) (za (Nat.le_refl 22) rfl) ?_⟩
 exact Mv rfl q
end
section
variable {s:List Nat} {L:PL} {P:PS} {σ₀ σ σ':St} {d k:Nat} {Q:V→St→Prop} {QS:St→Prop} {X:String→St→Prop} {B H:Loc}
theorem nk {l:Loc} {c c':zu} (h:σ.m l=some c) (e:Nat.beq l.2.1 k=false):(σ.new k c').m l=some c:=(xH fun z=>zk (e.symm.trans ((congrArg (fun l:Loc=>Nat.beq l.2.1 k) z).trans (Nat.beq_refl k)))).trans h
theorem hU {l:Loc} {dd d':List (Int×V)} {i:Int} {u:V} (h:σ.m l=some (.di dd)) (hl:dd.length < 100) (e:(if (dd.lookup i).isSome then dd.map (fun p=>if p.1=i then (p.1,u) else p) else dd++[(i,u)])=d') (q:QS (σ.set l (.di d'))):zw (.ref l) (.int i) u σ QS:=by
 unfold zw
 refine .inl (.inr ((g_ (gH h)) ⟨hl,?_⟩))
 rw [e];exact q
theorem MX {vs:List V} {ds:List (List Nat×V)} {l:Loc} (h:σ.m l=some (.ds [])) (e:wh asS vs=some ds) (hn:wA (ds.map (·.1))=true) (q:Q (.ref l) (σ.set l (.ds ds))):xi false vs l σ Q:=by
 unfold xi
 exact (g_ e) ⟨h,hn,q⟩
theorem Xw {R:Rel} {C:String} (hC:["TypePart","NameKindRule","KindArgsTail"].contains C=true) (q:Q (.obj C []) σ):ju R k C [] σ Q X:=by
 unfold ju;exact .inl ⟨hC,rfl,q⟩
noncomputable def z4 (l:Loc):Bool:=[13,16,19,20].contains l.2.1
structure Z (L:PL) (σ₁ σ₀:St) (a b c e:zu) (σ:St):Prop where
 o:∀ l c,σ₁.m l=some c→z4 l=false→σ.m l=some c
 ty:σ.m L.lty=some a
 pa:σ.m L.lpa=some b
 co:σ.m L.lco=some c
 na:σ.m L.lna=some e
 wf:Wf σ
 kp:Kp L.i σ₀ σ
 nx:σ.nx=σ₁.nx
variable {σ₁:St} {a b c e:zu}
theorem U1 {l l':Loc} (h:z4 l=false) (h':z4 l'=true):l≠l':=fun z=>zk (h.symm.trans ((congrArg z4 z).trans h'))
theorem Z.sty (x:Z L σ₁ σ₀ a b c e σ) (a':zu):Z L σ₁ σ₀ a' b c e (σ.set L.lty a'):=⟨fun l c h h'=>(zl (U1 h' rfl)).trans (x.o l c h h'),zj,sk x.pa rfl,sk x.co rfl,sk x.na rfl,x.wf.set (x.wf _ _ x.ty) _,x.kp.set rfl,x.nx⟩
theorem Z.spa (x:Z L σ₁ σ₀ a b c e σ) (a':zu):Z L σ₁ σ₀ a a' c e (σ.set L.lpa a'):=⟨fun l c h h'=>(zl (U1 h' rfl)).trans (x.o l c h h'),sk x.ty rfl,zj,sk x.co rfl,sk x.na rfl,x.wf.set (x.wf _ _ x.pa) _,x.kp.set rfl,x.nx⟩
theorem Z.sco (x:Z L σ₁ σ₀ a b c e σ) (a':zu):Z L σ₁ σ₀ a b a' e (σ.set L.lco a'):=⟨fun l c h h'=>(zl (U1 h' rfl)).trans (x.o l c h h'),sk x.ty rfl,sk x.pa rfl,zj,sk x.na rfl,x.wf.set (x.wf _ _ x.co) _,x.kp.set rfl,x.nx⟩
theorem Z.sna (x:Z L σ₁ σ₀ a b c e σ) (a':zu):Z L σ₁ σ₀ a b c a' (σ.set L.lna a'):=⟨fun l c h h'=>(zl (U1 h' rfl)).trans (x.o l c h h'),sk x.ty rfl,sk x.pa rfl,sk x.co rfl,zj,x.wf.set (x.wf _ _ x.na) _,x.kp.set rfl,x.nx⟩
noncomputable def prP (ts:List Tk) (n:Nat):PS:=⟨⟨0,0,.tup [.str [],.int 0,.int 0],true,0,0,0,false,false,0⟩,⟨n+6,[],n+7,[]⟩,ts,[],[],[]⟩
noncomputable def prL (i n:Nat) (named:Bool) (place:Nat):PL:=⟨i,n+2,n+3,n,n+1,n+4,n+5,n+6,n+7,n+10,n+11,n+12,n+13,n+15,named,place⟩
theorem Wl (w:Wf σ) {xs:List V}:zt σ (prT σ xs)∧Wf (prT σ xs):=by
 have step:∀ {τ:St} (k:Nat) (c:zu),zt σ τ∧Wf τ→zt σ (τ.new k c)∧Wf (τ.new k c):=fun {τ} k c h=>⟨h.1.trans (zt.new h.2 k c),h.2.new k c⟩
 exact step _ _ (step _ _ (step _ _ (step _ _ (step _ _ (step _ _ (step _ _ (step _ _ (step _ _ (step _ _ (step _ _ ⟨.refl,w⟩))))))))))
end
section
variable {s:List Nat} {σ σ':St} {d k:Nat} {Q:V→St→Prop} {X:String→St→Prop} {B H:Loc}
theorem Ek {vs:List V} {ds:List (List Nat×V)} {l l':Loc} (h:σ.m l=some (.ds [])) (e:wh asS vs=some ds) (hn:wA (ds.map (·.1))=true) (hl:l=l') (q:Q (.ref l') (σ.set l' (.ds ds))):xi false vs l σ Q:=by
 subst hl;exact MX h e hn q
theorem Z.p_na {L:PL} {σ₁ σ₀:St} {a b c:zu} {dd d':List (Int×V)} {i:Int} {u:V} {QS:St→Prop} (x:Z L σ₁ σ₀ a b c (.di dd) σ) (hl:dd.length < 100) (e:(if (dd.lookup i).isSome then dd.map (fun p=>if p.1=i then (p.1,u) else p) else dd++[(i,u)])=d') (q:∀ σ',Z L σ₁ σ₀ a b c (.di d') σ'→QS σ'):zw (.ref L.lna) (.int i) u σ QS:=hU x.na hl e (q _ (x.sna _))
theorem Ym {c c':zu}:(σ.new k c).set (σ.loc k) c'=σ.new k c':=St.ext' (fun l=>by
 show (if l=σ.loc k then _ else if l=σ.loc k then _ else _)=(if l=σ.loc k then _ else _)
 split <;> rfl) rfl rfl
theorem El {vs:List V} {ds:List (List Nat×V)} (e:wh asS vs=some ds) (hn:wA (ds.map (·.1))=true) (q:Q (.ref (σ.loc k)) (σ.new k (.ds ds))):xi false vs (σ.loc k) (σ.new k (yP false)) Q:=MX zp e hn (by rw [Ym];exact q)
theorem QA {ds d':List (List Nat×V)} {n:List Nat} {u:V} {QS:St→Prop} (hl:ds.length < 100) (e:(if (ds.lookup n).isSome then ds.map (fun p=>if p.1=n then (p.1,u) else p) else ds++[(n,u)])=d') (q:QS (σ.new k (.ds d'))):zw (.ref (σ.loc k)) (.str n) u (σ.new k (.ds ds)) QS:=uP zp hl e (by rw [Ym];exact q)
theorem yA {A:Type} {p:A→Prop}:∀ a∈([]:List A),p a:=fun _ h=>absurd h List.not_mem_nil
theorem N8 {σ:St} {xs:List V} {i n:Nat} (h1:σ.ow=i) (h2:σ.nx=n) {c:zu}:((prT σ.bump xs).set (i,60,n) c).m (i,12,n+1)=some (.lst xs)∧((prT σ.bump xs).set (i,60,n) c).m (i,13,n+2)=some (.di [])∧((prT σ.bump xs).set (i,60,n) c).m (i,16,n+5)=some (.ds [])∧((prT σ.bump xs).set (i,60,n) c).m (i,7,n+6)=some (.lst [])∧((prT σ.bump xs).set (i,60,n) c).m (i,6,n+7)=some (.lst [])∧((prT σ.bump xs).set (i,60,n) c).m (i,19,n+8)=some (.di [])∧((prT σ.bump xs).set (i,60,n) c).m (i,20,n+9)=some (.di [])∧((prT σ.bump xs).set (i,60,n) c).m (i,21,n+10)=some (.lst [])∧((prT σ.bump xs).set (i,60,n) c).m (i,22,n+11)=some (.lst []):=by
 subst h1 h2
 exact ⟨sk (nk (nk (nk (nk (nk (nk (nk (nk (nk (nk zp rfl) rfl) rfl) rfl) rfl) rfl) rfl) rfl) rfl) rfl) rfl,sk (nk (nk (nk (nk (nk (nk (nk (nk (nk zp rfl) rfl) rfl) rfl) rfl) rfl) rfl) rfl) rfl) rfl,sk (nk (nk (nk (nk (nk (nk zp rfl) rfl) rfl) rfl) rfl) rfl) rfl,sk (nk (nk (nk (nk (nk zp rfl) rfl) rfl) rfl) rfl) rfl,sk (nk (nk (nk (nk zp rfl) rfl) rfl) rfl) rfl,sk (nk (nk (nk zp rfl) rfl) rfl) rfl,sk (nk (nk zp rfl) rfl) rfl,sk (nk zp rfl) rfl,sk zp rfl⟩
theorem VC (g:J1 s) (al:xp s) (hcl:cl s 0≤13) {ts:List Tk} (hts:Rows s [] 0 ts) (htl:ts.length≤1000) (hH:σ.m H=some (.lst (ts.map Tk.v))) {i place:Nat} (ho:σ.ow=i) {named:Bool} (hd:10≤d)
  (q:∀ L W σ',L.i=i→L.place=place→L.named=named→Kp i σ σ'→Wd s B L 0 σ' W σ'→Q (.ref L.lw) σ'):ze (RC d) "_law_reader" [.ref H,.ref B,.int (place:Int),.bool named] σ Q X:=by
 subst ho
 refine xA fun w=>zg (k:=8) uY hd rfl fun d hd=>UU (zi hd rfl) ?_
 have w1:Wf ((σ.bump.new 1 (.lst [])).set (σ.loc 61) (.inst "Diags" [("rows",.ref (σ.ow,1,σ.nx+1)),("file",.str [])])):=(w.bump.new _ _).set (Nat.lt_succ_of_lt (Nat.lt_succ_self _)) _
 have s1:zt σ ((σ.bump.new 1 (.lst [])).set (σ.loc 61) (.inst "Diags" [("rows",.ref (σ.ow,1,σ.nx+1)),("file",.str [])])):=(xU.trans (zt.new w.bump _ _)).set (w.none (Nat.le_refl _)) _
 have d1:((σ.bump.new 1 (.lst [])).set (σ.loc 61) (.inst "Diags" [("rows",.ref (σ.ow,1,σ.nx+1)),("file",.str [])])).m (σ.ow,61,σ.nx)=some (.inst "Diags" [("rows",.ref (σ.ow,1,σ.nx+1)),("file",.str [])]):=zj
 have r1:((σ.bump.new 1 (.lst [])).set (σ.loc 61) (.inst "Diags" [("rows",.ref (σ.ow,1,σ.nx+1)),("file",.str [])])).m (σ.ow,1,σ.nx+1)=some (.lst []):=sk (zp (σ:=σ.bump)) rfl
 have o1:((σ.bump.new 1 (.lst [])).set (σ.loc 61) (.inst "Diags" [("rows",.ref (σ.ow,1,σ.nx+1)),("file",.str [])])).ow=σ.ow:=rfl
 have n1:((σ.bump.new 1 (.lst [])).set (σ.loc 61) (.inst "Diags" [("rows",.ref (σ.ow,1,σ.nx+1)),("file",.str [])])).nx=σ.nx+2:=rfl
 generalize (σ.bump.new 1 (.lst [])).set (σ.loc 61) (.inst "Diags" [("rows",.ref (σ.ow,1,σ.nx+1)),("file",.str [])])=σ1 at *
 refine WK o1 n1 w1 (zi hd rfl) (s1.2 _ _ hH) (by rw [List.length_map];exact Nat.le_trans htl (by decide)) ?_
 have ⟨sp,wp⟩:=Wl w1.bump (xs:=ts.map Tk.v)
 have nx:(prT σ1.bump (ts.map Tk.v)).nx=σ.nx+14:=congrArg (·+12) n1
 have s2:zt σ ((prT σ1.bump (ts.map Tk.v)).set (prL σ.ow σ.nx named place).lp (.inst "Parser" (prF σ.ow (σ.nx+2) (σ.loc 61)))):=s1.trans ((xU.trans sp).set (w1.none (Nat.le_of_eq n1)) _)
 have w2:Wf ((prT σ1.bump (ts.map Tk.v)).set (prL σ.ow σ.nx named place).lp (.inst "Parser" (prF σ.ow (σ.nx+2) (σ.loc 61)))):=wp.set (by rw [nx];exact Nat.add_lt_add_left (by decide) _) _
 obtain ⟨m1,m2,m3,m4,m5,m6,m7,m8,m9⟩:=N8 (xs:=ts.map Tk.v) o1 n1 (c:=.inst "Parser" (prF σ.ow (σ.nx+2) (σ.loc 61)))
 have m0:((prT σ1.bump (ts.map Tk.v)).set (σ.ow,60,σ.nx+2) (.inst "Parser" (prF σ.ow (σ.nx+2) (σ.loc 61)))).m (σ.ow,60,σ.nx+2)=some (.inst "Parser" (prF σ.ow (σ.nx+2) (σ.loc 61))):=zj
 have d1:=sk (a:=prT σ1.bump (ts.map Tk.v)) (sp.2 _ _ d1) (l':=(σ.ow,60,σ.nx+2)) (c:=.inst "Parser" (prF σ.ow (σ.nx+2) (σ.loc 61))) rfl
 have r1:=sk (a:=prT σ1.bump (ts.map Tk.v)) (sp.2 _ _ r1) (l':=(σ.ow,60,σ.nx+2)) (c:=.inst "Parser" (prF σ.ow (σ.nx+2) (σ.loc 61))) rfl
 have x:Z (prL σ.ow σ.nx named place) ((prT σ1.bump (ts.map Tk.v)).set (σ.ow,60,σ.nx+2) (.inst "Parser" (prF σ.ow (σ.nx+2) (σ.loc 61)))) σ (.ds []) (.di []) (.di []) (.di []) ((prT σ1.bump (ts.map Tk.v)).set (σ.ow,60,σ.nx+2) (.inst "Parser" (prF σ.ow (σ.nx+2) (σ.loc 61)))):=⟨fun _ _ h _=>h,m3,m2,m6,m7,w2,s2.kp,rfl⟩
 have nx:((prT σ1.bump (ts.map Tk.v)).set (σ.ow,60,σ.nx+2) (.inst "Parser" (prF σ.ow (σ.nx+2) (σ.loc 61)))).nx=σ.nx+14:=nx
 generalize (prT σ1.bump (ts.map Tk.v)).set (σ.ow,60,σ.nx+2) (.inst "Parser" (prF σ.ow (σ.nx+2) (σ.loc 61)))=σ2 at *
 have get:∀ {σ3 a b c e n},Z (prL σ.ow σ.nx named place) σ2 σ a b c e σ3→zm σ3 (.ref (σ.ow,60,σ.nx+2)) n=(prF σ.ow (σ.nx+2) (σ.loc 61)).lookup n:=fun x=>gA (x.o _ _ m0 rfl)
 apply shr (I:=fun σ3=>Z (prL σ.ow σ.nx named place) σ2 σ (.ds (tyD (prL σ.ow σ.nx named place))) (.di []) (.di []) (.di []) σ3)
 ·intro rest
  have ty:∀ {b},named=b→tyD (prL σ.ow σ.nx named place)=if b then [(xP,.obj "NameKindRule" [])] else []:=fun h=>by
   rw [← h];rfl
  refine zC (fun h=>?_) fun h=>?_
  rotate_left
  ·exact rest σ2 (by rw [ty h];exact x)
  ·exact Xw rfl ((g_ ((get x).trans rfl)) (uP x.ty (d':=tyD (prL σ.ow σ.nx named place)) (za (Nat.le_refl 1) rfl) (ty h).symm (rest _ (x.sty _))))
 intro σ3 x
 refine Xw rfl ((g_ ((get x).trans rfl)) ((g_ jI) (hU x.pa (d':=[(1,.obj "TypePart" [])]) (za (Nat.le_refl 1) rfl) rfl ?_)))
 have x:=x.spa (.di [(1,.obj "TypePart" [])])
 refine Xw rfl ((g_ ((get x).trans rfl)) ((g_ vJ) (hU x.pa (d':=[(1,.obj "TypePart" []),(2,.obj "TypePart" [])]) (za (Nat.le_refl 2) rfl) rfl ?_)))
 have x:=x.spa (.di [(1,.obj "TypePart" []),(2,.obj "TypePart" [])])
 refine (g_ ((get x).trans rfl)) (hU x.co (d':=[((place:Int),.bool true)]) (za (Nat.le_refl 1) rfl) rfl ?_)
 have x:=x.sco (.di [((place:Int),.bool true)])
 refine (g_ ((get x).trans rfl)) (x.p_na (d':=[((place:Int)+7,.bool true)]) (za (Nat.le_refl 1) rfl) rfl fun σ5 x=>?_)
 have k5:=x.kp.1
 refine ⟨Nat.zero_le _,Nat.zero_le _,Nat.zero_le _,Nat.zero_le _,El rfl rfl ⟨za (Nat.le_refl 3) rfl,za (Nat.le_refl 6) rfl,QA (za (Nat.le_refl 7) rfl) rfl (QA (za (Nat.le_refl 8) rfl) rfl (QA (d':=sd (prP ts (σ.nx+2)) 0 []) (za (Nat.le_refl 9) rfl) rfl ?_))⟩⟩
 refine ⟨Nat.zero_le _,Ek (ds:=wdv (prL σ.ow σ.nx named place) B _ _) (nk zp rfl) rfl rfl (l':=(prL σ.ow σ.nx named place).lw) ?_ fun wf _=>?_⟩
 ·show (_,313,_)=((σ.ow,313,σ.nx+15):Loc)
  exact Prod.ext x.kp.1 (Prod.ext rfl (congrArg (·+1) (x.nx.trans nx)))
 have s6:=((zt.new x.wf 312 (.ds (sd (prP ts (σ.nx+2)) 0 []))).trans (zt.new (x.wf.new _ _) 313 (yP false))).trans (zt.new ((x.wf.new _ _).new _ _) 314 (.lst []))
 refine q (prL σ.ow σ.nx named place) ⟨_,_,prP ts (σ.nx+2),0,[],[]⟩ _ rfl rfl rfl ?_ ⟨⟨⟨⟨⟨?_,wf,Nat.le_refl _,.refl⟩,g,al,⟨⟨[],ts,rfl,rfl,hts,.nil⟩,yA,yA⟩,?_⟩,(show (0:Nat) < 900000 by decide)⟩,⟨zj,?_,?_,yA,?_,?_,yA,List.nodup_cons.mpr ⟨List.not_mem_nil,.nil⟩⟩,.refl,Nat.le_refl _⟩,?_⟩
 ·exact (x.kp.trans s6.kp).set rfl
 ·have f:∀ {l c},σ2.m l=some c→z4 l=false→Nat.beq l.2.1 313=false→((((σ5.new 312 (.ds (sd (prP ts (σ.nx+2)) 0 []))).new 313 (yP false)).new 314 (.lst [])).set (prL σ.ow σ.nx named place).lw (.ds (wdv (prL σ.ow σ.nx named place) B (σ5.loc 312) (((σ5.new 312 (.ds (sd (prP ts (σ.nx+2)) 0 []))).new 313 (yP false)).loc 314)))).m l=some c:=fun h h' e=>sk (s6.2 _ _ (x.o _ _ h h')) e
  exact ⟨f m0 rfl rfl,f m1 rfl rfl,f d1 rfl rfl,f r1 rfl rfl,f m8 rfl rfl,f m9 rfl rfl,⟨f m4 rfl rfl,f m5 rfl rfl⟩,yA,⟨List.nodup_cons.mpr ⟨List.not_mem_nil,.nil⟩,List.nodup_cons.mpr ⟨List.not_mem_nil,.nil⟩⟩,sk (s6.2 _ _ x.ty) rfl,sk (s6.2 _ _ x.pa) rfl,sk (s6.2 _ _ x.co) rfl,sk (s6.2 _ _ x.na) rfl,htl⟩
 ·have:=g.1
  show 0+2 * s.length≤790000+2 * 0
  omega
 ·exact sk (nk (nk (zp (σ:=σ5)) rfl) rfl) rfl
 ·exact sk zp rfl
 ·exact ⟨k5,.inl rfl⟩
 ·exact ⟨k5,.inl rfl⟩
 ·exact ⟨⟨⟨Int.le_refl _,by show (0:Int)+(cl s 0:Int)≤13;omega⟩,Nat.le_refl _,⟨Nat.le_refl _,Nat.le_refl _,Nat.le_refl _,yA,yA,yA,rfl⟩⟩,yA,rfl,Nat.le_refl _,List.pairwise_singleton _ _⟩
end
section
variable {σ σ':St} {d k:Nat} {Q:V→St→Prop} {X:String→St→Prop} {s:List Nat} {pl nl:Loc} {vs:List Nat}
noncomputable def Pk (pl:Loc) (σ σ':St):Prop:=σ'.ow=σ.ow∧∀ l c,σ.m l=some c→l≠pl→σ'.m l=some c
theorem Pk.trans {a b c:St} (x:Pk pl a b) (y:Pk pl b c):Pk pl a c:=⟨y.1.trans x.1,fun l cl e n=>y.2 l cl (x.2 l cl e n) n⟩
theorem zt.pk {a b:St} (x:zt a b):Pk pl a b:=⟨x.1,fun l c e _=>x.2 l c e⟩
structure y5 (pl nl:Loc) (vs:List Nat) (b:Nat) (σ:St):Prop where
 p:∃ k:Nat,k≤b∧σ.m pl=some (.ds [([110,117,109,115],.ref nl),([110,101,120,116],.int (k:Int))])
 n:σ.m nl=some (.lst (vs.map fun (a:Nat)=>V.int (a:Int)))
 len:vs.length=64
 ne:nl≠pl
 wf:Wf σ
theorem y5.same {b:Nat} (x:y5 pl nl vs b σ) (h:zt σ σ') (w:Wf σ'):y5 pl nl vs b σ':=by
 obtain ⟨k,h1,h2⟩:=x.p
 exact ⟨⟨k,h1,h.2 _ _ h2⟩,h.2 _ _ x.n,x.len,x.ne,w⟩
theorem y5.mono {b b':Nat} (x:y5 pl nl vs b σ) (h:b≤b'):y5 pl nl vs b' σ:=by
 obtain ⟨k,h1,h2⟩:=x.p
 exact ⟨⟨k,Nat.le_trans h1 h,h2⟩,x.n,x.len,x.ne,x.wf⟩
theorem yC (hd:2≤d) {b:Nat} (x:y5 pl nl vs b σ) {n:Nat} (hn:0 < n) (q:∀ r:Nat,∀ σ',r < n→Pk pl σ σ'→σ'.nx=σ.nx→y5 pl nl vs (b+1) σ'→Q (.int (r:Int)) σ'):ze (RC d) "_law_take" [.ref pl,.int (n:Int)] σ Q X:=by
 obtain ⟨k,hk,hp⟩:=x.p
 have it:∀ {σ:St} {ds:List (List Nat×V)} {m v},σ.m pl=some (.ds ds)→ds.lookup m=some v→zD σ (.ref pl) (.str m)=some v:=fun {σ ds m v} h e=>by
  show bd (dsA σ pl) (fun d=>d.lookup m)=_
  rw [xJ h];exact e
 have hlt:k % 64 < vs.length:=by rw [x.len];exact Nat.mod_lt _ (by decide)
 refine zg Za hd rfl fun _ _=>(g_ (it hp rfl)) (uP hp (d':=[([110,117,109,115],.ref nl),([110,101,120,116],.int ((k:Int)+1))]) (za (Nat.le_refl 3) rfl) rfl ((g_ (it zj rfl)) ⟨by decide,(g_ (?_:zD _ (.ref nl) (.int ((k:Int) % 64))=some (.int (vs[k % 64]:Int)))) ⟨Int.ofNat_lt.mpr hn,?_⟩⟩))
 ·have hs:∀ {σ:St},σ.m nl=some (.lst (vs.map fun (a:Nat)=>V.int (a:Int)))→zD σ (.ref nl) (.int ((k % 64:Nat):Int))=some (.int (vs[k % 64]:Int)):=fun {σ} h=>by
   show oO (oO (bd (vj σ (.ref nl)) fun l=>bd (ym ((k % 64:Nat):Int) l.length) fun j=>l[j]?) _) _=_
   rw [show vj σ (.ref nl)=some _ from zJ h]
   show oO (oO (bd (ym ((k % 64:Nat):Int) (vs.map fun (a:Nat)=>V.int (a:Int)).length) fun j=>_) _) _=_
   rw [jG (by rw [List.length_map];exact hlt) (by rw [List.length_map,x.len];decide)]
   show oO (oO (vs.map fun (a:Nat)=>V.int (a:Int))[k % 64]? _) _=_
   rw [List.getElem?_map,List.getElem?_eq_getElem hlt];rfl
  exact hs ((zl x.ne).trans x.n)
 ·exact q (vs[k % 64] % n) _ (Nat.mod_lt _ hn) ⟨rfl,fun l c e ne=>(zl ne).trans e⟩ rfl ⟨⟨k+1,Nat.succ_le_succ hk,zj⟩,(zl x.ne).trans x.n,x.len,x.ne,x.wf.set (x.wf _ _ hp) _⟩
end
noncomputable def ub:List (List Nat):=[[97],[98],[99],[100],[60],[62],[62,61],[61],[61,61],[40],[41],[44]]
noncomputable def ch1:List (List Nat):=[[],[],[60,32,100,32,62],[60,32,99],[44,32,99],[60,32,100,32,62,61]]
noncomputable def ch2:List (List Nat):=[[62,61],[62],[62,61,32,61],[62,61,32,61,61],[62,61,32,62],[44,32,62,61],[62,61]]
noncomputable def ch3:List (List Nat):=[[99],[40,32,41],[],[40,32,98,32,60,32,99,32,62,32,44,32,41],[40,32,98,32,60,32,100,32,62,61,32,41],[40,32,99,32,44]]
noncomputable def wordsOf (s:List Nat):List (List Nat):=(Txt.words (sv s)).map fun w=>w.cps.toList
theorem KM:∀ s∈ch1++ch2++ch3,((wordsOf s).all fun w=>ub.contains w)=true∧(wordsOf s).length≤20∧s.length≤1000:=by decide +kernel
section
variable {σ σ' σ0:St} {d k b m:Nat} {Q:V→St→Prop} {X:String→St→Prop} {s:List Nat} {pl nl l:Loc} {vs:List Nat}
structure Sgs (pl nl:Loc) (vs:List Nat) (σ0:St) (l:Loc) (b m:Nat) (σ:St):Prop where
 k:Pk pl σ0 σ
 p:y5 pl nl vs b σ
 o:∃ ws:List (List Nat),σ.m l=some (.lst (ws.map V.str))∧(∀ w∈ws,w∈ub)∧ws.length≤m
 n:l≠pl∧l≠nl∧σ0.m l=none
theorem MN {R:Rel} {l':Loc} {xs ys:List V} (h:σ.m l=some (.lst xs)) (h':σ.m l'=some (.lst ys)) (hne:l'≠l) (hn:xs.length+ys.length < 1000000) (q:Q .none (σ.set l (.lst (xs++ys)))):meW R k (.ref l) "extend" (.lst l) [.ref l'] σ Q X:=by
 unfold meW
 exact (g_ (zJ h)) (.inr (.inr ⟨rfl,(g_ (zJ h')) ⟨hn,hne,q⟩⟩))
theorem Us {R:Rel} {v:V} (h:s.length≤1000) (q:Q (.ref (σ.loc k)) (σ.new k (.lst ((wordsOf s).map V.str)))):meW R k v "split" (.str s) [] σ Q X:=by
 unfold meW
 refine ⟨rfl,h,?_⟩
 unfold wordsOf at q
 rw [List.map_map] at q
 exact q
theorem QY {ls:List V} {i:Nat} (hi:i < ls.length) (hl:ls.length≤1000):zD σ (.tup ls) (.int (i:Int))=some ls[i]:=by
 show oO (oO (bd (ym (i:Int) ls.length) fun j=>ls[j]?) _) _=_
 rw [jG hi hl]
 show oO (oO ls[i]? _) _=_
 rw [List.getElem?_eq_getElem hi];rfl
theorem Sgs.pk (x:Sgs pl nl vs σ0 l b m σ) (k:Pk pl σ σ') (p:y5 pl nl vs (b+1) σ'):Sgs pl nl vs σ0 l (b+1) m σ':=by
 obtain ⟨us,h1,h2,h3⟩:=x.o
 exact ⟨x.k.trans k,p,⟨us,k.2 _ _ h1 x.n.1,h2,h3⟩,x.n⟩
theorem Sgs.ext {R:Rel} {k2:Nat} {ws:List (List Nat)} (x:Sgs pl nl vs σ0 l b m σ) (hw:∀ w∈ws,w∈ub) (hl:ws.length≤20) (hm:m≤1000) (q:∀ σ',Sgs pl nl vs σ0 l b (m+20) σ'→Q .none σ'):meW R k (.ref l) "extend" (.lst l) [.ref (σ.loc k2)] (σ.new k2 (.lst (ws.map V.str))) Q X:=by
 obtain ⟨us,h1,h2,h3⟩:=x.o
 have ne:=x.p.wf.ne h1 (k:=k2)
 have nw:=zt.new x.p.wf k2 (.lst (ws.map V.str))
 refine MN (nw.2 _ _ h1) zp ne.symm ?_ (q _ ⟨⟨x.k.1,fun l2 c e n=>?_⟩,?_,⟨us++ws,by rw [List.map_append];exact zj,fun w hw'=>(List.mem_append.mp hw').elim (h2 w) (hw w),by rw [List.length_append];exact Nat.add_le_add h3 hl⟩,x.n⟩)
 ·rw [List.length_map,List.length_map]
  exact Nat.lt_of_le_of_lt (Nat.add_le_add (Nat.le_trans h3 hm) hl) (by decide)
 ·exact (zl fun z=>zL (x.n.2.2.symm.trans (z▸e))).trans (nw.2 _ _ (x.k.2 l2 c e n))
 ·obtain ⟨kk,a1,a2⟩:=x.p.p
  exact ⟨⟨kk,a1,(zl x.n.1.symm).trans (nw.2 _ _ a2)⟩,(zl x.n.2.1.symm).trans (nw.2 _ _ x.p.n),x.p.len,x.p.ne,(x.p.wf.new _ _).set (Nat.lt_succ_of_lt (x.p.wf _ _ h1)) _⟩
theorem gM {k1 k2:Nat} {ch:List (List Nat)} (x:Sgs pl nl vs σ0 l b m σ) (hd:2≤d) (hch:∀ c∈ch,c∈ch1++ch2++ch3) (hl:0 < ch.length∧ch.length≤1000) (hm:m≤1000) (q:∀ σ',Sgs pl nl vs σ0 l (b+1) (m+20) σ'→Q .none σ'):
  ze (RC d) "_law_take" [.ref pl,.int (ch.length:Int)] σ (fun v σ=>op (zD σ (.tup (ch.map V.str)) v) fun t=>op (zR σ t "split") fun cal=>meW (RC d) k2 t "split" cal [] σ (fun u σ=>meW (RC d) k1 (.ref l) "extend" (.lst l) [u] σ Q X) X) X:=by
 refine yC hd x.p hl.1 fun r σ1 hr k1 n1 p1=>?_
 have x:=x.pk k1 p1
 refine (g_ (QY (by rw [List.length_map];exact hr) (by rw [List.length_map];exact hl.2))) ?_
 rw [List.getElem_map]
 have ⟨h1,h2,h3⟩:=KM _ (hch ch[r] (List.getElem_mem hr))
 exact Us h3 (x.ext (fun w hw=>List.contains_iff_mem.mp (List.all_eq_true.mp h1 w hw)) h2 hm q)
end
section
variable {σ σ' σ0:St} {d k b m:Nat} {Q:V→St→Prop} {X:String→St→Prop} {pl nl l:Loc} {vs:List Nat}
theorem O9:∀ {m:Nat},m < 4→∀ σ,zD σ (.str [97,98,99,100]) (.int (m:Int))=some (.str [97+m])
 | 0,_,_=>rfl
 | 1,_,_=>rfl
 | 2,_,_=>rfl
 | 3,_,_=>rfl
 | m+4,h,_=>absurd h (Nat.not_lt.mpr (Nat.le_add_left 4 m))
theorem X6:∀ m < 4,[97+m]∈ub:=by decide
theorem Sgs.rv (x:Sgs pl nl vs σ0 l b m σ):zR σ (.ref l) "extend"=some (.lst l):=by
 obtain ⟨us,h1,_⟩:=x.o
 exact zx h1 (.inr (.inr rfl))
theorem HU {l:Loc} {us:List V} (h:σ.m l=some (.lst us)) (hn:us.length≤1000000) (q:Q (.ref (σ.loc k)) (σ.new k (.lst (us.take 13)))):y0 k (.ref l) .none (.int 13) σ Q:=by
 unfold y0
 refine (g_ (zJ h)) ((g_ (rfl:kt .none 0 us.length=some 0)) ((g_ (jJ (a:=13))) ⟨hn,?_⟩))
 have e:pySl us (Int.toNat 0) (min 13 us.length)=us.take 13:=by
  show (us.drop 0).take (_ - 0)=_
  rw [List.drop_zero,Nat.sub_zero]
  rcases Nat.le_total 13 us.length with q | q
  ·rw [Nat.min_eq_left q]
  ·rw [Nat.min_eq_right q,List.take_of_length_le (Nat.le_refl _),List.take_of_length_le q]
 rw [e];exact q
inductive SI (pl nl:Loc) (vs:List Nat) (σ0:St) (l:Loc):List V→Frm→St→Prop
 | mk {r:List V} (b m:Nat) {σ:St}:b+5 * r.length≤11→m+80 * r.length≤160→Sgs pl nl vs σ0 l b m σ→SI pl nl vs σ0 l r [("pile",.ref pl),("out",.ref l)] σ
theorem VG (hd:4≤d) (x:y5 pl nl vs 0 σ) (q:∀ (l:Loc) (ws:List (List Nat)) σ',Pk pl σ σ'→y5 pl nl vs 11 σ'→σ'.m l=some (.lst (ws.map V.str))→l≠pl→(∀ w∈ws,w∈ub)→ws.length≤13→Q (.ref l) σ'):ze (RC d) "_law_signs" [.ref pl] σ Q X:=by
 refine zg (k:=2) q9 hd rfl fun d hd=>⟨Nat.zero_le _,?_⟩
 have hpl:σ.loc 259≠pl:=fun z=>by
  obtain ⟨kk,_,h⟩:=x.p
  exact x.wf.ne h z.symm
 have s1:Sgs pl nl vs σ (σ.loc 259) 0 0 (σ.new 259 (.lst [])):=⟨(zt.new x.wf _ _).pk,x.same (zt.new x.wf _ _) (x.wf.new _ _),⟨[],zp,yA,Nat.le_refl _⟩,hpl,(x.wf.ne x.n).symm,x.wf.none (Nat.le_refl _)⟩
 generalize σ.new 259 (.lst [])=σ1,σ.loc 259=l at *
 refine yC hd s1.p (n:=2) (by decide) fun r σ2 hr k2 n2 p2=>?_
 have s2:=s1.pk k2 p2
 have hrl:(1+(r:Int)).toNat=1+r:=by rw [← Int.natCast_one,← Int.natCast_add];rfl
 refine ⟨Int.add_nonneg (by decide) (Int.natCast_nonneg r),Int.lt_of_lt_of_le (Int.add_lt_add_left (Int.ofNat_lt.mpr hr) 1) (by decide),?_⟩
 rw [hrl]
 refine qG (SI pl nl vs σ l) (fun F σ3 h=>?_) (fun v rr F σ3 h Q' qn _ _=>?_) (.mk 1 0 ?_ ?_ s2)
 ·obtain ⟨b,m,hb,hm,x3⟩:=h
  obtain ⟨us,h1,h2,h3⟩:=x3.o
  have h3:=Nat.le_trans h3 hm
  refine HU h1 (by rw [List.length_map];exact za h3 rfl) ?_
  have s4:=zt.new (k:=269) x3.p.wf (.lst ((us.map V.str).take 13))
  refine q _ (us.take 13) _ (x3.k.trans s4.pk) ((x3.p.same s4 (x3.p.wf.new _ _)).mono hb) (by rw [List.map_take];exact zp) (fun z=>?_) (fun w hw=>h2 w (List.mem_of_mem_take hw)) (by rw [List.length_take];exact Nat.min_le_left _ _)
  obtain ⟨kk,_,h5⟩:=x3.p.p
  exact x3.p.wf.ne h5 z.symm
 ·obtain ⟨b,m,hb,hm,x3⟩:=h
  rw [List.length_cons] at hb hm
  have hm9:m≤1000:=by omega
  refine (g_ x3.rv) (yC hd x3.p (n:=4) (by decide) fun r1 σ4 hr1 k4 n4 p4=>(g_ (O9 hr1 _)) ?_)
  have x4:=x3.pk k4 p4
  refine yC hd x4.p (n:=4) (by decide) fun r2 σ5 hr2 k5 n5 p5=>(g_ (O9 hr2 _)) ⟨za (Nat.le_refl 3) rfl,?_⟩
  have x5:=x4.pk k5 p5
  refine x5.ext (ws:=[[97+r1],[60],[97+r2]]) ?_ (za (Nat.le_refl 3) rfl) hm9 fun σ6 x6=>?_
  ·exact fun w hw=>(List.mem_cons.mp hw).elim (fun e=>e▸X6 _ hr1) fun hw=>(List.mem_cons.mp hw).elim (fun e=>e▸by decide) fun hw=>List.mem_singleton.mp hw▸X6 _ hr2
  refine (g_ x6.rv) ⟨za (Nat.le_refl 6) rfl,gM (ch:=ch1) x6 hd (fun c h=>List.mem_append_left _ (List.mem_append_left _ h)) (by decide) (by omega) fun σ7 x7=>?_⟩
  refine (g_ x7.rv) ⟨za (Nat.le_refl 7) rfl,gM (ch:=ch2) x7 hd (fun c h=>List.mem_append_left _ (List.mem_append_right _ h)) (by decide) (by omega) fun σ8 x8=>?_⟩
  refine (g_ x8.rv) ⟨za (Nat.le_refl 6) rfl,gM (ch:=ch3) x8 hd (fun c h=>List.mem_append_right _ h) (by decide) (by omega) fun σ9 x9=>?_⟩
  refine qn 2 trivial (.mk _ _ ?_ ?_ x9)
  ·omega
  ·omega
 ·rw [List.length_map,List.length_range];omega
 ·rw [List.length_map,List.length_range];omega
end
noncomputable def opL (l:List Nat):List Nat:=if l.take 1=[62]∨l.take 1=[61] then ops.foldl (fun t o=>if l.take o.length=o then o else t) (l.take 1) else l.take 1
theorem uU {s:List Nat} {a:Nat}:yV s a=opL (s.drop a):=by
 have e:∀ n,pySl s a (a+n)=(s.drop a).take n:=fun n=>by unfold pySl;congr 1;omega
 unfold yV opL
 simp only [e]
noncomputable def Er (l:List Nat):Prop:=l.take 4=[62,61,62,61]∨l.take 5=[62,61,61,61,61]∨l.take 4=[62,61,61,62]
noncomputable def NB (s:List Nat):Prop:=∀ a,¬ Er (s.drop a)
theorem Wr {x:Nat} {r:List Nat} (h1:x≠62) (h2:x≠61):opL (61::x::r)=[61]:=by simp [opL,ops,h1,h2]
theorem Wq {x:Nat} {r:List Nat} (h2:x≠61):opL (61::61::x::r)=[61,61]:=by simp [opL,ops,h2]
theorem QE {r:List Nat} (h:∀ t,r≠61::t):opL (62::r)=[62]:=by
 cases r with
 | nil=>rfl
 | cons x r=>
  have h2:x≠61:=fun z=>h r (by rw [z])
  simp [opL,ops,h2]
theorem K5 {x:Nat} {r:List Nat} (h1:x≠62) (h2:x≠61):opL (x::r)=[x]:=by simp [opL,h1,h2]
theorem QF {r:List Nat}:opL (61::r)≠[]∧zM (opL (61::r))=false∧opL (61::r)≠[62,61]:=by
 have key:∀ t,t∈[[61],[61,62],[61,61],[61,61,61]]→t≠[]∧zM t=false∧t≠[62,61]:=by decide
 refine key _ ?_
 rcases r with _ | ⟨x,r⟩
 ·exact .head _
 ·by_cases h1:x=62
  ·subst h1;exact .tail _ (.head _)
  ·by_cases h2:x=61
   ·subst h2
    rcases r with _ | ⟨y,r⟩
    ·exact .tail _ (.tail _ (.head _))
    ·by_cases h3:y=61
     ·subst h3;exact .tail _ (.tail _ (.tail _ (.head _)))
     ·rw [Wq h3];exact .tail _ (.tail _ (.head _))
   ·rw [Wr h1 h2];exact .head _
theorem Ky {s:List Nat} (nb:NB s) {a:Nat} {r:List Nat} (h:s.drop a=62::61::r):jd s a:=by
 have h1:s.drop (a+1)=61::r:=yX h
 have h2:s.drop (a+2)=r:=yX h1
 have k1:skp s (a+1)=a+1:=uk h1 rfl
 have t1:(sg s (a+1)).text=opL (61::r):=by show yV s (skp s (a+1))=_;rw [k1,uU,h1]
 have t2:skp s (a+2)=a+2→(sg s (a+2)).text=opL r:=fun z=>by show yV s (skp s (a+2))=_;rw [z,uU,h2]
 have e1:(sg s (a+1)).en=a+1+(sg s (a+1)).text.length:=congrArg (·+(sg s (a+1)).text.length) k1
 have nb0:=nb a
 rw [h] at nb0
 have ne:=QF (r:=r)
 have mk:=fun y n=>jd.mk k1 (by
  show decide (10∈pySl s (a+1) (skp s (a+1)))=false
  rw [k1];unfold pySl;rw [Nat.sub_self];rfl) (jR t1 ne.1 ne.2.1) y n fun c hc z=>by
   have hc:skp s c=a+1:=hc
   have z:yV s (skp s c)=[62,61]:=z
   rw [hc,uU,h1] at z
   exact ne.2.2 z
 have yes:∀ {t},opL (61::r)=61::t→skp s (a+2)=a+2→opL r=t→(jn (61::t)&&(!zM t&&!t.isEmpty))=true→jd s a:=fun {t} f1 f2 f3 g=>by
  have q1:=t1.trans f1
  have q2:=(t2 f2).trans f3
  obtain ⟨g1,g⟩:=zb g
  obtain ⟨g2,g3⟩:=zb g
  refine mk (fun _=>⟨q1.trans (congrArg _ q2.symm),?_⟩) fun j=>absurd ⟨jR q2 (fun z=>by rw [z] at g3;exact zk (ya g3▸rfl)) (ya g2),f2,(congrArg (fun t=>jn (61::t)) q2).trans g1⟩ j
  rw [e1,q1,ZY,q2]
  exact (Nat.add_assoc a 1 _).trans ((congrArg (a+·) (Nat.add_left_comm 1 t.length 1)).trans ((Nat.add_comm t.length 2▸(Nat.add_assoc a 2 t.length).symm).trans (congrArg (·+t.length) f2.symm)))
 have no:opL (61::r)=[61]→jn (61::opL r)=false→jd s a:=fun f g=>by
  have q1:=t1.trans f
  refine mk (fun j=>?_) fun _=>⟨q1,by rw [e1,q1];rfl⟩
  have f2:skp s (a+2)=a+2:=j.2.1
  exact zk (g.symm.trans ((congrArg (fun t=>jn (61::t)) (t2 f2)).symm.trans j.2.2))
 rcases r with _ | ⟨x,r⟩
 ·exact no rfl rfl
 ·by_cases x1:x=62
  ·subst x1
   exact yes rfl (uk h2 rfl) (QE fun t z=>nb0 (.inl (by rw [z];rfl))) rfl
  ·by_cases x2:x=61
   ·subst x2
    have k2:=uk h2 rfl
    rcases r with _ | ⟨y,r⟩
    ·exact yes rfl k2 rfl rfl
    ·by_cases y1:y=62
     ·subst y1;exact absurd (.inr (.inr rfl)) nb0
     ·by_cases y2:y=61
      ·subst y2
       rcases r with _ | ⟨w,r⟩
       ·exact yes rfl k2 rfl rfl
       ·exact yes rfl k2 (Wq fun z=>nb0 (.inr (.inl (by rw [z];rfl)))) rfl
      ·exact yes (Wq y2) k2 (Wr y1 y2) rfl
   ·exact no (Wr x1 x2) (by rw [K5 x1 x2];simp [jn,x1,x2])
theorem G9 {s:List Nat} (nb:NB s) (hl:s.length≤1000):J1 s:=⟨hl,fun c hc=>by
 have e:=uo (s:=s) (a:=skp s c)
 rw [show yV s (skp s c)=[62,61] from hc] at e
 unfold pySl at e
 rw [Nat.add_sub_cancel_left] at e
 refine Ky nb (r:=(s.drop (skp s c)).drop 2) ?_
 exact (List.take_append_drop 2 (s.drop (skp s c))).symm.trans (congrArg (·++_) e)⟩
noncomputable def dl (st x:Nat):Nat:=
 if st=9 then 9
 else if x=62 then (if st=2 then 3 else if st=4 then 9 else 1)
 else if x=61 then (if st=1 then 2 else if st=2 then 4 else if st=3 then 9 else if st=4 then 5 else if st=5 then 9 else 0)
 else 0
noncomputable def run (st:Nat) (l:List Nat):Nat:=l.foldl dl st
theorem Y4 {l:List Nat}:run 9 l=9:=by
 induction l with
 | nil=>rfl
 | cons x l ih=>exact ih
theorem MU {st x:Nat} (h:st < 6):dl st x < 6∨dl st x=9:=by
 unfold dl;repeat' split
 all_goals omega
theorem Wj:∀ {l:List Nat} {st:Nat},st < 6→run st l≠9→NB l
 | l,st,hs,hr,0=>fun h=>by
  rw [List.drop_zero] at h
  have key:∀ (p t:List Nat),(∀ st < 6,run st p=9)→l=p++t→False:=fun p t hp e=>by
   apply hr
   rw [e]
   unfold run
   rw [List.foldl_append]
   have:=hp st hs
   unfold run at this
   rw [this]
   exact Y4
  rcases h with h | h | h
  ·exact key [62,61,62,61] (l.drop 4) (by decide) (by rw [← h,List.take_append_drop])
  ·exact key [62,61,61,61,61] (l.drop 5) (by decide) (by rw [← h,List.take_append_drop])
  ·exact key [62,61,61,62] (l.drop 4) (by decide) (by rw [← h,List.take_append_drop])
 | [],st,hs,hr,a+1=>fun h=>by
  rw [List.drop_nil] at h
  rcases h with h | h | h <;> cases h
 | x::l,st,hs,hr,a+1=>by
  rw [List.drop_succ_cons]
  have hr':run (dl st x) l≠9:=hr
  rcases MU (x:=x) hs with q | q
  ·exact Wj q hr' a
  ·rw [q] at hr';exact absurd Y4 hr'
noncomputable def MH:List (List Nat):=[[62,32,62],[62,32,62,61],[62,61,32,61],[62,61,32,61,61],[62,61,32,62]]
noncomputable def MM:List (List Nat):=[[60],[62],[62,61],[61],[61,61]]
noncomputable def H6 (g last sign:List Nat):List Nat:=if (decide (g=[])&&(zM last&&zM sign))=true then [32] else g
noncomputable def H5 (g last sign:List Nat):List Nat:=if (decide (g=[])&&(decide (last∈MM)&&decide (sign∈MM)))=true then (if last++[32]++sign∈MH then [] else [32]) else g
noncomputable def uR (g last sign:List Nat):List Nat:=if last=[] then sign else H5 (H6 g last sign) last sign++sign
noncomputable def cls (last:List Nat):List Nat:=if last=[62] then [1,3] else if last=[62,61] then [2] else if last=[61] then [0,4] else if last=[61,61] then [0,5] else [0]
noncomputable def H4:List (List Nat):=[[],[32],[10]]
noncomputable def O8:List Nat:=[97,98,99,100,60,62,61,44,40,41,32,10]
theorem Yd:∀ last∈[]::ub,∀ sign∈ub,∀ g∈H4,(∀ st∈cls last,run st (uR g last sign)∈cls sign)∧(∀ x∈uR g last sign,x∈O8)∧(uR g last sign).count 60≤1∧(uR g last sign).length≤3∧(H5 (H6 g last sign) last sign).length≤3:=by decide +kernel
theorem Vx:∀ last∈[]::ub,(∀ st∈cls last,st < 6)∧last.length≤2:=by decide
theorem J6:∀ s∈ub,s≠[]∧s.length≤2:=by decide
section
variable {σ σ' σ0:St} {d k:Nat} {Q:V→St→Prop} {X:String→St→Prop} {s:List Nat} {pl nl l:Loc} {vs:List Nat} {ws:List (List Nat)}
structure TI (k:Nat) (o last:List Nat):Prop where
 e:last=[]→o=[]
 m:last∈[]::ub
 r:run 0 o∈cls last
 a:∀ x∈o,x∈O8
 c:o.count 60≤k
 l:o.length≤3 * k
theorem TI.next {k:Nat} {o last sign g:List Nat} (x:TI k o last) (hs:sign∈ub) (hg:g∈H4) {oo:List Nat} (e:oo=o++uR g last sign):TI (k+1) oo sign:=by
 subst e
 obtain ⟨h1,h2,h3,h4,_⟩:=Yd last x.m sign hs g hg
 refine ⟨fun z=>absurd z (J6 sign hs).1,List.mem_cons_of_mem _ hs,?_,fun y hy=>(List.mem_append.mp hy).elim (x.a y) (h2 y),?_,?_⟩
 ·unfold run
  rw [List.foldl_append]
  exact h1 _ x.r
 ·rw [List.count_append];exact Nat.add_le_add x.c h3
 ·rw [List.length_append];exact Nat.add_le_add x.l h4
structure XY (s:List Nat):Prop where
 g:J1 s
 a:xp s
 c:cl s 0≤13
 l:s.length≤900
theorem TI.ok {k:Nat} {o last:List Nat} (x:TI k o last) (hk:k≤13):XY o:=by
 have l:=x.l
 have h6:=(Vx last x.m).1 _ x.r
 have lo:o.length≤39:=Nat.le_trans l (Nat.mul_le_mul_left 3 hk)
 exact ⟨G9 (Wj (st:=0) (by decide) (Nat.ne_of_lt (Nat.lt_of_lt_of_le h6 (by decide)))) (za lo rfl),x.a,Nat.le_trans x.c hk,za lo rfl⟩
inductive LT (pl nl:Loc) (vs:List Nat) (σ0:St) (l:Loc) (ws:List (List Nat)):List V→Frm→St→Prop
 | mk {r:List V} (k:Nat) (o last:List Nat) {σ:St}:k+r.length≤13→(∀ v∈r,∃ w,w∈ub∧v=.str w)→Pk pl σ0 σ→y5 pl nl vs (11+k) σ→σ.m l=some (.lst (ws.map V.str))→TI k o last→LT pl nl vs σ0 l ws r [("pile",.ref pl),("out",.str o),("last",.str last)] σ
theorem Gb:∀ {r:Nat},r < 5→∃ g,g∈H4∧∀ σ,zD σ (.tup [.str [],.str [],.str [],.str [32],.str [10]]) (.int (r:Int))=some (.str g)
 | 0,_=>⟨[],.head _,fun _=>rfl⟩
 | 1,_=>⟨[],.head _,fun _=>rfl⟩
 | 2,_=>⟨[],.head _,fun _=>rfl⟩
 | 3,_=>⟨[32],.tail _ (.head _),fun _=>rfl⟩
 | 4,_=>⟨[10],.tail _ (.tail _ (.head _)),fun _=>rfl⟩
 | r+5,h=>absurd h (Nat.not_lt.mpr (Nat.le_add_left 5 r))
theorem HW {A:Type} {I K:A→Prop} {C:Prop} (h:(∀ a,I a→K a)→C) (r:∀ a,I a→K a):C:=h r
theorem MI {dg a b c e:Bool} {A B:Prop} (h2:(dg&&((a&&b)&&(c&&e)))=false→B) (h1:(dg&&((a&&b)&&(c&&e)))=true→A):cB dg (cB a (cB b (cB c (cB e A B) B) (cB b A B)) B) (cB dg A B):=by
 cases dg
 ·exact h2 rfl
 cases a
 ·exact h2 rfl
 cases b
 ·exact h2 rfl
 cases c
 ·exact h2 rfl
 cases e
 ·exact h2 rfl
 ·exact h1 rfl
theorem H9 {P P':Prop} {dg a b:Bool} {A B:Prop} (p:P) (p':P') (h2:(dg&&(a&&b))=false→B) (h1:(dg&&(a&&b))=true→A):cB dg (P∧cB a (P'∧cB b A B) (cB a A B)) (cB dg A B):=by
 cases dg
 ·exact h2 rfl
 refine ⟨p,?_⟩
 cases a
 ·exact h2 rfl
 refine ⟨p',?_⟩
 cases b
 ·exact h2 rfl
 ·exact h1 rfl
theorem Gy (hd:6≤d) (x:y5 pl nl vs 0 σ) (q:∀ s σ',Pk pl σ σ'→y5 pl nl vs 24 σ'→XY s→Q (.str s) σ'):ze (RC d) "_law_text" [.ref pl] σ Q X:=by
 refine zg (k:=4) Z9 hd rfl fun d hd=>VG hd x fun l ws σ1 k1 p1 m1 hne hw hl=>?_
 refine (g_ (jF m1)) (qG (LT pl nl vs σ l ws) (fun F σ3 h=>?_) (fun v rr F σ3 h Q' qn _ _=>?_) (.mk 0 [] [] (by rw [Nat.zero_add,List.length_map];exact hl) (fun v hv=>let ⟨w,h,e⟩:=List.mem_map.mp hv;⟨w,hw w h,e.symm⟩) k1 p1 m1 ⟨fun _=>rfl,.head _,by decide,yA,Nat.le_refl _,Nat.le_refl _⟩))
 ·obtain ⟨k,o,last,h1,h2,k2,p2,m2,ti⟩:=h
  exact q _ _ k2 (p2.mono (Nat.add_le_add_left h1 11)) (ti.ok h1)
 ·obtain ⟨k,o,last,h1,h2,k2,p2,m2,ti⟩:=h
  obtain ⟨sign,hs,rfl⟩:=h2 v (.head _)
  refine ⟨za (Nat.le_refl 5) rfl,yC (zi hd rfl) p2 (n:=5) (by decide) fun r σ4 hr k4 n4 p4=>?_⟩
  obtain ⟨g,hg,hit⟩:=Gb hr
  have ll:=(Vx last ti.m).2
  have ls:=(J6 sign hs).2
  refine (g_ (hit _)) ⟨Nat.le_trans (Nat.add_le_add_right ll 1) (by decide),by rw [List.length_append];exact Nat.le_trans (Nat.add_le_add (Nat.add_le_add_right ll 1) ls) (by decide),?_⟩
  apply HW (I:=fun gp=>gp=H6 g last sign)
  ·intro rest
   refine MI (fun h=>?_) fun h=>?_
   ·generalize e:g=g'
    exact rest g' (e.symm.trans (if_neg (ne_true_of_eq_false h)).symm)
   ·exact rest [32] (if_pos h).symm
  intro gp e1
  apply HW (I:=fun gq=>gq=H5 gp last sign)
  ·intro rest
   refine H9 (za (Nat.le_refl 5) rfl) (za (Nat.le_refl 5) rfl) (fun h=>?_) fun h=>⟨za (Nat.le_refl 5) rfl,zC (fun j=>?_) fun j=>?_⟩
   ·generalize e:gp=g'
    exact rest g' (e.symm.trans (if_neg (ne_true_of_eq_false h)).symm)
   ·exact rest [] ((if_pos h).trans (if_pos (d_t j))).symm
   ·exact rest [32] ((if_pos h).trans (if_neg (d_f j))).symm
  intro gq e2
  have m4:=k4.2 _ _ m2 hne
  have lk:k+1+rr.length≤13:=Nat.le_trans (Nat.le_of_eq (Nat.add_right_comm k 1 _)) h1
  have lg:gq.length≤3:=by rw [e2,e1];exact (Yd last ti.m sign hs g hg).2.2.2.2
  have h2:=fun v hv=>h2 v (List.mem_cons_of_mem _ hv)
  have lo:=Nat.le_trans ti.l (Nat.mul_le_mul_left 3 (Nat.le_trans (Nat.le_add_right k _) h1))
  refine zC (fun h=>qn 3 (jF m4) (.mk (k+1) sign sign lk h2 (k2.trans k4) p4 m4 (ti.next hs hg ?_))) fun h=>⟨Nat.le_trans (Nat.add_le_add lo lg) (by decide),by rw [List.length_append];exact Nat.le_trans (Nat.add_le_add (Nat.add_le_add lo lg) ls) (by decide),qn 3 (jF m4) (.mk (k+1) _ sign lk h2 (k2.trans k4) p4 m4 (ti.next hs hg ?_))⟩
  ·rw [ti.e (d_t h),uR,if_pos (d_t h)];rfl
  ·rw [uR,if_neg (d_f h),← e1,← e2,← List.append_assoc]
end
noncomputable def HP:E:=.new 378 "Token" [.ix (.x "row") (.k (.int 0)),.ix (.x "row") (.k (.int 1)),.ix (.x "row") (.k (.int 2)),.ix (.x "row") (.k (.int 3)),.ix (.x "row") (.k (.int 4)),.ix (.x "row") (.k (.int 5))]
noncomputable def goB:List S:=[.asg ["w"] (.ix (.x "both") (.call "_law_take" [.x "pile",.k (.int 2)])),
  .asg ["deed"] (.call "_law_take" [.x "pile",.k (.int 12)]),
  .iff (.not (.call "_law_do" [.x "src",.x "w",.x "deed",.call "_law_take" [.x "pile",.k (.int 6)]])) [.ret (.k (.bool false))] [],
  .iff (.or (.not (.call "_law_true" [.x "src",.ix (.x "both") (.k (.int 0))])) (.or (.not (.call "_law_true" [.x "src",.ix (.x "both") (.k (.int 1))])) (.cmp .ne (.call "_law_seen" [.x "handed"]) (.x "base")))) [.ret (.k (.bool false))] []]
noncomputable def JI:List S:=[.asg ["src"] (.call "_law_text" [.x "pile"]),
 .asg ["base"] (.call "_law_rows" [.x "src",.tup []]),
 .asg ["handed"] (.comp 377 HP ["row"] (.x "base")),
 .asg ["both"] (.tup [.call "_law_reader" [.x "handed",.x "base",.k (.int 0),.k (.bool true)],.call "_law_reader" [.x "handed",.x "base",.k (.int 1),.cmp .lt (.call "_law_take" [.x "pile",.k (.int 5)]) (.k (.int 4))]]),
 .forR "go" (.bin 379 .add (.k (.int 3)) (.call "_law_take" [.x "pile",.k (.int 3)])) goB,
 .asg ["first"] (.call "_law_take" [.x "pile",.k (.int 2)]),
 .iff (.not (.call "_law_close" [.x "src",.x "handed",.ix (.x "both") (.x "first"),.ix (.x "both") (.bin 380 .sub (.k (.int 1)) (.x "first"))])) [.ret (.k (.bool false))] [],
 .asg ["three"] (.call "_law_reader" [.x "handed",.x "base",.k (.int 2),.k (.bool true)]),
 .ret (.and (.call "_law_kinds" [.x "src",.x "three"]) (.and (.call "_law_true" [.x "src",.x "three"]) (.cmp .eq (.call "_law_seen" [.x "handed"]) (.x "base"))))]
section
variable {L L1 L2:PL} {B H:Loc} {W W1 W2:WR} {P:PS} {σ σ':St} {s:List Nat} {n d b k:Nat} {Q:V→St→Prop} {X:String→St→Prop} {pl nl:Loc} {vs:List Nat}
theorem Hs {A:Type} {fv gv:A→V} {f:Frm→(V→St→Prop)→St→Prop} {tg:List String} {l:Loc} {xs:List A} {Q:St→Prop} (w0:Wf σ) (h:σ.m l=some (.lst (xs.map fv))) (hl:xs.length≤900000)
  (hb:∀ a,∃ F,yn tg (fv a) []=some F∧∀ (Q':V→St→Prop) σ',Wf σ'→Q' (gv a) σ'.bump→f F Q' σ') (q:∀ σ',σ'.m (σ.loc k)=some (.lst (xs.map gv))→zt σ σ'→Wf σ'→Q σ'):
  jl f tg (σ.loc k) (fun σ'=>zX σ' (.ref l)=some (xs.map fv)) (xs.map fv) [] Q (σ.new k (.lst [])):=by
 have key:∀ (ys:List A) (acc:List V) (τ:St),acc.length+ys.length < 1000000→Wf τ→zt σ τ→τ.m (σ.loc k)=some (.lst acc)→(∀ σ',σ'.m (σ.loc k)=some (.lst (acc++ys.map gv))→zt σ σ'→Wf σ'→Q σ')→jl f tg (σ.loc k) (fun σ'=>zX σ' (.ref l)=some (xs.map fv)) (ys.map fv) acc Q τ:=by
  intro ys
  induction ys with
  | nil=>intro acc τ _ w s m q;exact q τ (by rw [List.map_nil,List.append_nil];exact m) s w
  | cons a r ih=>
   intro acc τ hl w s m q
   obtain ⟨F,hF,hf⟩:=hb a
   refine (g_ hF) (hf _ _ w ⟨m,jF (s.2 _ _ h),Nat.lt_of_le_of_lt (Nat.le_add_right _ _) hl,ih _ _ ?_ (w.bump.set (w.bump _ _ m) _) ((s.trans xU).set (w0.none (Nat.le_refl _)) _) zj fun σ' h=>q σ' (by rw [List.map_cons,← List.singleton_append,← List.append_assoc];exact h)⟩)
   ·rw [List.length_append];exact Nat.lt_of_le_of_lt (Nat.le_of_eq (Nat.add_assoc _ 1 _ |>.trans (congrArg _ (Nat.add_comm 1 _)))) hl
 exact key xs [] _ (Nat.lt_of_le_of_lt (Nat.le_of_eq (Nat.zero_add _)) (Nat.lt_of_le_of_lt hl (by decide))) (w0.new _ _) (zt.new w0 _ _) zp q
theorem y5.kp (x:y5 pl nl vs b σ) {i:Nat} (k:∀ l c,σ.m l=some c→l.1≠i→σ'.m l=some c) (h1:pl.1≠i) (h2:nl.1≠i) (w:Wf σ'):y5 pl nl vs b σ':=by
 obtain ⟨k0,h3,h4⟩:=x.p
 exact ⟨⟨k0,h3,k _ _ h4 h1⟩,k _ _ x.n h2,x.len,x.ne,w⟩
theorem y5.lst (x:y5 pl nl vs b σ) {l:Loc} {xs:List V} (h:σ.m l=some (.lst xs)) (k:Pk pl σ σ'):σ'.m l=some (.lst xs):=by
 obtain ⟨k0,h3,h4⟩:=x.p
 exact k.2 _ _ h fun z=>by rw [z,h4] at h;cases h
theorem Tw.pk (t:Tw s B H L1 L2 n W1 W2 σ) (p:y5 pl nl vs b σ) (k:Pk pl σ σ') (w:Wf σ') (h1:pl.1≠L1.i) (h2:pl.1≠L2.i):Tw s B H L1 L2 n W1 W2 σ':=by
 obtain ⟨ts,a1,a2,a3⟩:=t.hand
 obtain ⟨tb,b1,b2⟩:=t.base
 exact ⟨t.a.at (fun l c hi e=>k.2 l c e fun z=>h1 (z▸hi)) w,t.b.at (fun l c hi e=>k.2 l c e fun z=>h2 (z▸hi)) w,⟨tb,b1,p.lst b2 k⟩,⟨ts,a1,p.lst a2 k,a3⟩,t.ow⟩
theorem Xo (tx:XY s) {ts:List Tk} (hts:Rows s [] 0 ts) (htl:ts.length≤1000) (hH:σ.m H=some (.lst (ts.map Tk.v))) (i:Nat) (hd:10≤d) {place:Nat} {named:Bool}
  (q:∀ L W σ',L.i=i→L.place=place→σ'.ow=σ.ow→(∀ l c,σ.m l=some c→l.1≠i→σ'.m l=some c)→Wd s B L 0 σ' W σ'→Q (.ref L.lw) σ'):ze (RC d) "_law_reader" [.ref H,.ref B,.int (place:Int),.bool named] σ Q X:=
 YQ i (VC (σ:=σ.own i) tx.g tx.a tx.c hts htl hH rfl hd fun L W σ' e1 e2 _ k x=>q L W (σ'.own σ.ow) e1 e2 rfl k.2 (x.at (fun _ _ _ e=>e) x.ws.rd.wf))
theorem lex:∀ (n:Nat) {c:Nat},s.length - c < n→c≤s.length→∃ ts,Rows s [] c ts∧ts.length+c≤s.length+1
 | 0,_,h,_=>absurd h (Nat.not_lt_zero _)
 | n+1,c,h,hc=>by
  by_cases e:(sg s c).text=[]
  ·exact ⟨_,.fin e List.not_mem_nil,Nat.le_trans (Nat.le_of_eq (Nat.add_comm 1 c)) (Nat.succ_le_succ hc)⟩
  ·obtain ⟨h1,h2⟩:=zN e
   obtain ⟨ts,h3,h4⟩:=lex n (Nat.lt_of_lt_of_le (Nat.sub_lt_sub_left (Nat.lt_of_lt_of_le h1 h2) h1) (Nat.le_of_lt_succ h)) h2
   exact ⟨_,.plain e List.not_mem_nil h3,Nat.le_trans (Nat.le_of_eq (Nat.succ_add_eq_add_succ _ _)) (Nat.le_trans (Nat.add_le_add_left h1 _) h4)⟩
inductive Go (s:List Nat) (B H:Loc) (L1 L2:PL) (pl nl:Loc) (vs:List Nat):List V→Frm→St→Prop
 | mk {r:List V} (k b:Nat) (W1 W2:WR) {σ:St}:k+r.length≤6→Tw s B H L1 L2 k W1 W2 σ→y5 pl nl vs b σ→Go s B H L1 L2 pl nl vs r [("pile",.ref pl),("src",.str s),("base",.ref B),("handed",.ref H),("both",.tup [.ref L1.lw,.ref L2.lw])] σ
structure Es (L1 L2:PL) (r:Nat) (La Lb:PL):Prop where
 it:∀ τ,zD τ (.tup [.ref L1.lw,.ref L2.lw]) (.int (r:Int))=some (.ref La.lw)
 it2:∀ τ,zD τ (.tup [.ref L1.lw,.ref L2.lw]) (.int (1 - (r:Int)))=some (.ref Lb.lw)
 to:∀ {p:PL→PL→Prop},p L1 L2→p L2 L1→p La Lb
 back:∀ {p:PL→PL→Prop},(∀ {a b},p a b→p b a)→p La Lb→p L1 L2
theorem N9:∀ {r:Nat},r < 2→∃ La Lb,Es L1 L2 r La Lb
 | 0,_=>⟨L1,L2,fun _=>rfl,fun _=>rfl,fun h _=>h,fun _ h=>h⟩
 | 1,_=>⟨L2,L1,fun _=>rfl,fun _=>rfl,fun _ h=>h,fun s h=>s h⟩
 | r+2,h=>absurd h (Nat.not_lt.mpr (Nat.le_add_left 2 r))
noncomputable def TwX (s:List Nat) (B H:Loc) (n:Nat) (σ:St) (a b:PL):Prop:=∃ Wa Wb,Tw s B H a b n Wa Wb σ
theorem Tw.ex (t:Tw s B H L1 L2 n W1 W2 σ):TwX s B H n σ L1 L2:=⟨_,_,t⟩
theorem Gj (h:TwX s B H n σ L1 L2):TwX s B H n σ L2 L1:=h.elim fun _ h=>h.elim fun _ t=>t.swap.ex
theorem HL (hd:540≤d) (x:y5 pl nl vs 0 σ):jv (RC d) JI [("pile",.ref pl)] (eF fun v _=>v=.bool true) (eX fun _ _=>False) σ:=by
 refine Gy (zi hd rfl) x fun s σ1 k1 p1 tx=>?_
 have hl:=tx.g.1
 obtain ⟨ts,hts,htl⟩:=lex (s:=s) (s.length+1) (Nat.lt_succ_self _) (Nat.zero_le _)
 have htl:ts.length≤1000:=Nat.le_trans htl (Nat.le_trans (Nat.succ_le_succ tx.l) (by decide))
 refine ⟨Nat.zero_le _,xA fun _=>gJ (cuts:=[]) (zi hd rfl) hl hts fun B σ2 mB s2 w2 _=>?_⟩
 have p2:=p1.same s2 w2
 refine (g_ (jF mB)) (Hs (gv:=Tk.v) w2 mB (za htl rfl) (fun t=>⟨_,rfl,fun Q' σ' w q=>uq w (zi hd rfl) q⟩) fun σ3 mH s3 w3=>?_)
 generalize σ2.loc 377=H at mH
 have p3:=p2.same s3 w3
 have mB:=s3.2 _ _ mB
 obtain ⟨m,hB,hH,hp,hn⟩:∃ m,B.1≤m∧H.1≤m∧pl.1≤m∧nl.1≤m:=⟨B.1+(H.1+(pl.1+nl.1)),Nat.le_add_right _ _,Nat.le_trans (Nat.le_add_right _ _) (Nat.le_add_left _ _),Nat.le_trans (Nat.le_trans (Nat.le_add_right _ _) (Nat.le_add_left _ _)) (Nat.le_add_left _ _),Nat.le_trans (Nat.le_trans (Nat.le_add_left _ _) (Nat.le_add_left _ _)) (Nat.le_add_left _ _)⟩
 have ne:∀ {a i:Nat} (k:Nat),a≤m→i=m+(k+1)→a≠i:=fun k h e=>e▸Nat.ne_of_lt (Nat.lt_of_le_of_lt h (Nat.lt_add_of_pos_right (Nat.succ_pos k)))
 refine Xo tx hts htl mH (m+1) (zi hd rfl) fun L1 W1 σ4 a1 b1 o4 k4 x4=>?_
 have p4:=p3.kp k4 (ne 0 hp rfl) (ne 0 hn rfl) x4.ws.rd.wf
 have mB:=k4 _ _ mB (ne 0 hB rfl)
 have mH:=k4 _ _ mH (ne 0 hH rfl)
 refine yC (zi hd rfl) p4 (n:=5) (by decide) fun r σ5 hr k5 _ p5=>?_
 have x5:=x4.at (fun l c hi e=>k5.2 l c e fun z=>ne 0 hp a1 (z▸hi)) p5.wf
 refine Xo tx hts htl (p4.lst mH k5) (m+2) (zi hd rfl) fun L2 W2 σ6 a2 b2 o6 k6 x6=>?_
 have p6:=p5.kp k6 (ne 1 hp rfl) (ne 1 hn rfl) x6.ws.rd.wf
 have t6:Tw s B H L1 L2 0 W1 W2 σ6:=⟨x5.at (fun l c hi e=>k6 l c e (by rw [hi,a1];exact Nat.ne_of_lt (Nat.lt_succ_self _))) x6.ws.rd.wf,x6,⟨ts,hts,k6 _ _ (p4.lst mB k5) (ne 1 hB rfl)⟩,⟨ts,hts,k6 _ _ (p4.lst mH k5) (ne 1 hH rfl),htl⟩,ne 0 hB a1,ne 0 hH a1,ne 1 hB a2,ne 1 hH a2,by rw [a1,a2];exact Nat.ne_of_lt (Nat.lt_succ_self _)⟩
 clear x4 x5 x6 p1 p2 p3 p4 p5 mB mH
 refine ⟨za (Nat.le_refl 2) rfl,yC (zi hd rfl) p6 (n:=3) (by decide) fun r σ7 hr k7 _ p7=>?_⟩
 have t7:=t6.pk p6 k7 p7.wf (ne 0 hp a1) (ne 1 hp a2)
 have hrl:(3+(r:Int)).toNat=3+r:=by rw [show (3:Int)=((3:Nat):Int) from rfl,← Int.natCast_add];rfl
 refine ⟨Int.add_nonneg (by decide) (Int.natCast_nonneg r),Int.lt_of_lt_of_le (Int.add_lt_add_left (Int.ofNat_lt.mpr hr) 3) (by decide),?_⟩
 rw [hrl]
 refine qG (Go s B H L1 L2 pl nl vs) (fun F σ8 h=>?_) (fun v rr F σ8 h Q' qn _ _=>?_) (.mk 0 _ W1 W2 (by rw [List.length_map,List.length_range,Nat.zero_add];exact Nat.le_of_lt (Nat.add_lt_add_left hr 3)) t7 p7)
 ·obtain ⟨k,b,W1,W2,hk,t,p⟩:=h
  have hb:∀ {j n},Nat.ble (6+j) n=true→k+j≤n:=fun e=>Nat.le_trans (Nat.add_le_add_right hk _) (Nat.le_of_ble_eq_true e)
  refine yC (zi hd rfl) p (n:=2) (by decide) fun r σ9 hr k9 _ p9=>?_
  have t:=t.pk p k9 p9.wf (ne 0 hp a1) (ne 1 hp a2)
  obtain ⟨La,Lb,pk⟩:=N9 (L1:=L1) (L2:=L2) hr
  obtain ⟨Wa,Wb,t⟩:=pk.to (p:=TwX s B H k σ9) t.ex t.swap.ex
  have h3:=pk.to (p:=fun a _=>a.i≠m+3) (by rw [a1];exact Nat.ne_of_lt (Nat.add_lt_add_left (by decide:1 < 3) m)) (by rw [a2];exact Nat.ne_of_lt (Nat.add_lt_add_left (by decide:2 < 3) m))
  have hq:=pk.to (p:=fun a b=>a.place≤2∧b.place≤2) ⟨by rw [b1];decide,by rw [b2];decide⟩ ⟨by rw [b2];decide,by rw [b1];decide⟩
  refine (g_ (pk.it _)) ((g_ (pk.it2 _)) (GA t (zi hd rfl) (hb (j:=0) rfl) hq fun σ10 te=>?_))
  obtain ⟨Wa,Wb,t,_⟩:=te
  obtain ⟨ts,c1,c2,c3⟩:=t.hand
  obtain ⟨tb,e1,e2⟩:=t.base
  refine Xo tx c1 c3 c2 (m+3) (zi hd rfl) fun L3 W3 σ11 a3 _ _ k11 x3=>?_
  have t3:Tw s B H L3 La (k+11) W3 Wa σ11:=⟨x3.mono (Nat.zero_le _),t.a.at (fun l c hi e=>k11 l c e (hi▸h3)) x3.ws.rd.wf,⟨tb,e1,k11 _ _ e2 (ne 2 hB rfl)⟩,⟨ts,c1,k11 _ _ c2 (ne 2 hH rfl),c3⟩,ne 2 hB a3,ne 2 hH a3,t.ow.1,t.ow.2.1,by rw [a3];exact h3.symm⟩
  clear t x3 c1 c2 c3 e1 e2
  refine t3.go (fun _ x q=>JD x (zi hd rfl) (hb (j:=11) rfl) q) fun W3 σ12 _ _ t3=>t3.tr (zi hd rfl) (hb (j:=12) rfl) fun σ13 _ t3=>?_
  obtain ⟨ts,c1,c2,c3⟩:=t3.hand
  obtain ⟨tb,e1,e2⟩:=t3.base
  refine ZJ t3.wf (zi hd rfl) c2 c3 fun l' σ14 m14 s14 w14 _=>?_
  rw [c1.det e1] at m14
  exact (g_ (Jz m14 (s14.2 _ _ e2) (j3 (e1.asc tx.a)))) rfl
 ·obtain ⟨k,b,W1,W2,hk,t,p⟩:=h
  have hk:k+1+rr.length≤6:=Nat.le_trans (Nat.le_of_eq (Nat.add_right_comm k 1 _)) hk
  have hb:∀ {n},Nat.ble 6 n=true→k+1≤n:=fun e=>Nat.le_trans (Nat.le_trans (Nat.le_add_right _ _) hk) (Nat.le_of_ble_eq_true e)
  refine yC (zi hd rfl) p (n:=2) (by decide) fun r σ9 hr k9 _ p9=>?_
  have t:=t.pk p k9 p9.wf (ne 0 hp a1) (ne 1 hp a2)
  obtain ⟨La,Lb,pk⟩:=N9 (L1:=L1) (L2:=L2) hr
  obtain ⟨Wa,Wb,t⟩:=pk.to (p:=TwX s B H k σ9) t.ex t.swap.ex
  have h1:=pk.to (p:=fun a b=>pl.1≠a.i∧pl.1≠b.i∧nl.1≠a.i) ⟨ne 0 hp a1,ne 1 hp a2,ne 0 hn a1⟩ ⟨ne 1 hp a2,ne 0 hp a1,ne 1 hn a2⟩
  refine (g_ (pk.it _)) (yC (zi hd rfl) p9 (n:=12) (by decide) fun deed σ10 _ k10 _ p10=>yC (zi hd rfl) p10 (n:=6) (by decide) fun m6 σ11 hm k11 _ p11=>?_)
  have t:=(t.pk p9 k10 p10.wf h1.1 h1.2.1).pk p10 k11 p11.wf h1.1 h1.2.1
  refine t.go (fun ho x q=>Ep x (zi hd rfl) (Nat.le_of_succ_le (hb rfl)) ho hm q) fun Wa σ12 _ k12 t=>?_
  have p12:=p11.kp k12 h1.1 h1.2.2 t.wf
  obtain ⟨W1,W2,t⟩:=pk.back (p:=TwX s B H (k+1) σ12) Gj t.ex
  refine t.tr (zi hd rfl) (hb rfl) fun σ13 s13 t=>t.swap.tr (zi hd rfl) (hb rfl) fun σ14 s14 t=>?_
  have t:=t.swap
  obtain ⟨ts,c1,c2,c3⟩:=t.hand
  obtain ⟨tb,e1,e2⟩:=t.base
  refine ZJ t.wf (zi hd rfl) c2 c3 fun l' σ15 m15 s15 w15 _=>?_
  rw [c1.det e1] at m15
  exact (g_ (Jg m15 (s15.2 _ _ e2) (j3 (e1.asc tx.a)))) (qn 5 trivial (.mk (k+1) _ W1 W2 hk (t.same s15 w15) (p12.same (s13.trans (s14.trans s15)) w15)))
end
end
end
section
open PySem PySem.Calls PySem.W PyProof.Rows
structure LE (env:Env) (c:Addr):Prop where
 kind:env.scope.kind=.function
 glob:env.globals=mainGlobals
 blt:env.builtins=builtinsNs
 cel:env.cells.lookup ("nums":Str)=some c
 kn:env.kindOf ("nums":Str)=some .cell
structure LS (s₀:Shared) (N c:Addr) (m:Str→Option Value) (cv:Option Value) (s:Shared):Prop where
 same:∃ h tk,s={s₀ with heap:=h,toks:=tk}
 fr:Fr s₀.heap N s.heap m
 cell:∃ o,News s₀.heap N s.heap [(c,o)]∧o.data=.cell cv
section
variable {w:World} {A:Around} {E:Value→Shared→Prop} {s₀ s:Shared} {N c:Addr} {m:Str→Option Value} {cv:Option Value} {env:Env} {v:Value}
theorem LS.grow (x:LS s₀ N c m cv s) {h':Heap} (k:∀ b o,s.heap.get? b=some o→h'.get? b=some o) (tk:Nat):LS s₀ N c m cv {s with heap:=h',toks:=tk}:=by
 obtain ⟨⟨h,t,rfl⟩,F,o,n,d⟩:=x
 exact ⟨⟨h',tk,rfl⟩,F.keeps k,o,n.grown k,d⟩
theorem LS.is (x:LS s₀ N c m cv s):s.heap.IsCell c cv:=by
 obtain ⟨_,_,o,n,d⟩:=x
 exact ⟨o,(n _ (.head _)).1,d⟩
theorem qw (L:LE env c) (x:LS s₀ env.locals c m (some v) s) {p:Pos} {Q:Value→Shared→Prop} (q:Q v s):wpAny (model pw w) A (eval (.Name "nums" p) env) Q E s:=
 wpAny_Name (wpAny_loadName_cell L.kind L.kn L.cel x.is q) (by decide)
theorem uG (L:LE env c) (x:LS s₀ env.locals c m cv s) {Q:Unit→Shared→Prop} (q:∀ h',Heap.SameBut c s.heap h'→LS s₀ env.locals c m (some v) {s with heap:=h'}→Q () {s with heap:=h'}):wpAny (model pw w) A (storeName env "nums" v) Q E s:=by
 refine wpAny_storeName_cell L.kind L.kn L.cel x.is fun h' hc hs=>q h' hs ?_
 obtain ⟨⟨h,t,rfl⟩,F,o,n,d⟩:=x
 obtain ⟨o',e,d'⟩:=hc
 obtain ⟨n1,n2,n3⟩:=n _ (.head _)
 refine ⟨⟨h',t,rfl⟩,⟨F.ns.sameBut hs (Ne.symm n2),fun b ob e=>(hs.2 b fun z=>by rw [z,(show s₀.heap.get? c=none from n3)] at e;cases e).trans (F.keep b ob e),F.above⟩,o',fun p hp=>?_,d'⟩
 rcases List.mem_cons.mp hp with rfl | hp
 ·exact ⟨e,n2,n3⟩
 ·cases hp
theorem xc {i:Int} {k:Nat} {p:Pos} {Q:Value→Shared→Prop} (q:Q (.int i s.toks) {s with toks:=s.toks+1}):wpAny (model pw w) A (eval (.Constant (.int i) k p) env) Q E s:=fun _ _ _=>q
theorem jU {tk:Nat}:Keeps s {s with toks:=tk}:=⟨s.heap,tk,rfl,fun _ _ e=>e⟩
structure Oa (sc:Scope) (x:Str):Prop where
 kind:sc.kind=.function
 cell:∀ y∈sc.names,y.2≠.cell
 names:∀ y∈sc.names,y.2=.local→sc.names.lookup y.1=some .local
 x:sc.names.lookup x=some .local
theorem AreOf.take' {α:Type} {K:ItemKind α}:∀ {vs:List Value} {as:List α} (k:Nat),AreOf K vs as→AreOf K (vs.take k) (as.take k)
 | _,_,0,_=>.nil
 | _,_,_+1,.nil=>.nil
 | _,_,k+1,.cons a r=>.cons a (AreOf.take' k r)
theorem ja {f:Int→Int}:∀ {ys:List Value} {ns:List Int},CarriedAll ys (ns.map fun n=>PyData.int (f n))→IntsAre ys (ns.map f)
 | _,[],.nil=>.nil
 | _,_::_,.cons (.int _ t) r=>.cons _ t (ja r)
theorem st1 (L:LE env c) (hh:A.handled=none) (x:LS s₀ env.locals c m cv s) {sa:Addr} {vs:List Value} {ns:List Int} (hm:m ("script":Str)=some (.ref sa)) (hks:env.kindOf ("script":Str)=some .local) (hl:s.heap.IsList sa vs.toArray) (hi:IntsAre vs ns) (hn:ns.length≤63)
  {sc:Scope} {p0 p1 p2 p3 p4 p5 p6 p7 p8 p9 p10:Pos} {k1 k2:Nat} (hs:Oa sc "x") (hfree:∀ y∈sc.names,y.2≠.free) {Q:Flow→Shared→Prop}
  (q:∀ D ys s',LS s₀ env.locals c m (some (.ref D)) s'→s'.heap.PlainList D ys→IntsAre ys.toList ((ns.take 60).map (· % 2520))→s₀.heap.get? D=none→D≠c→D≠env.locals→Q .next s'):
  wpAny (model pw w) A (exec (.Assign [.Name "nums" p0] (.ListComp (.BinOp (.Name "x" p1) .Mod (.Constant (.int 2520) k1 p2) p3) [⟨.Name "x" p4,.Subscript (.Name "script" p5) (.Slice none (some (.Constant (.int 60) k2 p6)) none p7) p8,[],0⟩] sc p9) p10) env) Q E s:=by
 refine wpAny_Assign_stores ?_ ((jw _ _ _ _).trans ?_) rfl
 ·obtain ⟨o,n,d⟩:=x.cell
  refine ListComp_DCn (K:=.int) (h₀:=s₀.heap) (L:=env.locals) (m:=m) (pz:=fun _=>true) (d:=fun a=>PyData.int (a % 2520)) hh (closureFor_none hfree) hs.cell hs.kind hs.names hs.x ?_ (fun _=>rfl)
  refine Subscript_ (wpAny_Name (wpAny_loadName_local L.kind hks x.fr.ns hm ?_) (by decide))
  refine wpAny_Slice (wpAny_pure (xc (i:=60) (k:=k2) (p:=p6) (wpAny_pure ?_)))
  have G:=x.grow (h':=s.heap.push {cls:=.type "slice",data:=.fields #[.none,.int 60 s.toks,.none]}) (fun b ob e=>Heap.get?_push_of_some _ e) (s.toks+1)
  have g:=hl.push {cls:=.type "slice",data:=.fields #[.none,.int 60 s.toks,.none]}
  have ln:vs.length=ns.length:=hi.length
  refine tail_any (s:={s with heap:=s.heap.push {cls:=.type "slice",data:=.fields #[.none,.int 60 s.toks,.none]},toks:=s.toks+1}) g.typeIs slot_list_getitem.lookup (wpAny_getItem_list_slice g (.new _ _ _ _) .none (.int _ _) .none (by simp) ?_ (by simp [sizeLine_eq];omega)) rfl
  generalize hA:(s.heap.push {cls:=.type "slice",data:=.fields #[.none,.int 60 s.toks,.none]})=h1 at G g
  have k2':∀ b o,h1.get? b=some o→(h1.push {cls:=.type "list",data:=.seq (slicePick vs.toArray none (some 60) none)}).get? b=some o:=fun b o e=>Heap.get?_push_of_some _ e
  have G2:=G.grow k2' (s.toks+1)
  have hne:s₀.heap.get? c=none:=(n _ (.head _)).2.2
  have pk:(slicePick vs.toArray none (some 60) none)=(vs.take 60).toArray:=by
   have hb:kJ vs.toArray.size (vs.toArray.size:Int) (.int 60 0) (some (60,0)) (min 60 vs.length):=⟨rfl,by simp;omega,by simp;omega⟩
   have:=Jd (items:=vs.toArray) (a:=0) (b:=min 60 vs.length) (v:=.none) (w:=.int 60 0) (l:=none) (u:=some (60,0)) ⟨rfl,by simp,by simp⟩ hb
   refine this.trans ?_
   simp [pySl]
  rw [pk] at k2' G2 ⊢
  obtain ⟨o2,n2,d2⟩:=G2.cell
  refine ⟨[(c,o2)],h1.objs.size,vs.take 60,ns.take 60,rfl,⟨_,Heap.get?_push_size _ rfl,rfl,0,rfl⟩,?_,?_,G2.fr,n2,?_,?_,?_⟩
  ·exact AreOf.take' 60 hi.areOf
  ·rw [List.length_take,sizeLine_eq];omega
  ·intro C a v s₂ m₂ E' _ _ _ _ _ _
   exact wpAny_pure ⟨rfl,jU (tk:=s₂.toks)⟩
  ·intro C a v s₂ m₂ E' _ _ ha _ hns hx _
   obtain ⟨t,rfl⟩:=ha
   have kd:(compEnvC sc [] C env).scope.kind=.function:=hs.kind
   refine wpAny_BinOp (wpAny_Name (wpAny_loadName_local kd (lookup_relabel_local hs.x) hns hx ?_) (by decide))
   refine xc (mod_int' (by omega) ?_)
   rw [YF (by omega)]
   exact ⟨.int _ _,jU⟩
  ·intro D ys h' tk F' N' hD _ hpl hc
   show wpAny _ _ (assign (.Name "nums" p0) env (.ref D)) _ _ _
   have Ge:=G2
   obtain ⟨⟨hh0,tt,eqq⟩,_,_⟩:=Ge
   have X:LS s₀ env.locals c m cv {s with heap:=h',toks:=tk}:=⟨by obtain ⟨h0,t0,rfl⟩:=x.same;exact ⟨h',tk,rfl⟩,F',o2,N',d2⟩
   have dc:D≠c:=fun z=>hpl.2 (c,o2) (.head _) z.symm
   have dl:D≠env.locals:=hpl.ne_locals F'
   refine wpAny_assign_Name (uG L X fun h2 hs2 X2=>q D ys.toArray _ X2 (hpl.1.at fun o e=>(hs2.2 D dc).trans e) ?_ hD dc dl)
   rw [List.filter_eq_self.mpr fun _ _=>rfl] at hc
   exact ja (f:=(· % 2520)) hc
 ·unfold swapsWith
  have:(NameKind.cell==NameKind.local)=false:=rfl
  simp [L.kn,this]
theorem Jk {P:Params}:kX P "len"=none∧Ku P "len"=some (.builtin "len"):=by
 have hb:=List.all_eq_true.mp (ZO P) _ (zz (show bis.lookup "len"=some (.builtin "len") by unfold bis;rfl))
 simp only [Bool.and_eq_true] at hb
 exact ⟨zH hb.1,zH hb.2⟩
theorem GR {fv:Value} (h:∀ a,fv≠.ref a):∀ g:Heap,True→∃ k,(k=Keeper.frame∨k=Keeper.machine∨k=Keeper.boundFrame)∧Looks (model pw w) g (keeperOf fv) k:=fun g _=>by
 refine ⟨.machine,.inr (.inl rfl),Looks.of_pure ?_⟩
 cases fv <;> first | rfl | exact absurd rfl (h _)
theorem LS.gns (L:LE env c) (x:LS s₀ N c m cv s) (Y:YP w s₀.heap):s.heap.Ns env.globals (kX w.params):=by
 rw [L.glob];exact ((Zz w.params).keeps Y).keeps x.fr.keep
theorem LS.bns (L:LE env c) (x:LS s₀ N c m cv s) (Y:YP w s₀.heap):s.heap.Ns env.builtins (Ku w.params):=by
 rw [L.blt];exact ((V1 w.params).keeps Y).keeps x.fr.keep
theorem Yy {a:Int} {t:Tok}:∀ j:Nat,IntsAre (List.replicate j (Value.int a t)) (List.replicate j a)
 | 0=>.nil
 | j+1=>.cons _ _ (Yy j)
theorem K7 {z:Addr} {vs:List Value} {x:Int} {u:Tok} {Q:Value→Shared→Prop} (h:s.heap.get? z=some {cls:=.type "list",data:=.seq vs.toArray}) (h0:-(2 ^ 63:Int)≤x) (h1:x < 2 ^ 63) (hz:vs.length * x.toNat≤256)
  (q:Q (.ref s.heap.objs.size) {s with heap:=s.heap.push {cls:=.type "list",data:=.seq (List.replicate x.toNat vs).flatten.toArray}}):wpAny (model pw w) A (binaryOp .Mult (.ref z) (.int x u)) Q E s:=by
 have hz':vs.toArray.size * x.toNat≤256:=by simpa using hz
 refine wpAny_binaryOp_repeat_ref (T:="list") (U:="int") (by decide) ⟨_,h,rfl⟩ (fun s'=>typeIs_int s' x u) noFill_list_mul F.fills_int_mul F.slot_int_rmul repeat_list F.slot_int_index.lookup
  (call_meets F.slot_int_rmul (typeIs_int s x u) F.entry_int_rmul (F.args_int_rmul_2 _ _) (lm_int_rmul_list_any x u z vs.toArray 0 none #[])
   ⟨h,rfl,⟨_,h,rfl⟩,call_meets F.slot_list_mul ⟨_,h,rfl⟩ F.entry_list_mul (F.args_list_mul_2 _ _)
    (lm_list_mul_any z vs.toArray 0 none #[] x u (by simp [Builtin.List.listFitsIndex];omega) (by omega) (by simp [Builtin.List.listTooLong,sizeLine_eq];omega))
    ⟨h,?_⟩⟩)
 rw [listMul_foldl_if]
 exact q
theorem WL {z:Addr} {v:Value} {j:Nat} {u:Tok} {Q:Value→Shared→Prop} (h:s.heap.get? z=some {cls:=.type "list",data:=.seq [v].toArray}) (hj:j≤64) (q:Q (.ref s.heap.objs.size) {s with heap:=s.heap.push {cls:=.type "list",data:=.seq (List.replicate j v).toArray}}):
  wpAny (model pw w) A (binaryOp .Mult (.ref z) (.int (j:Int) u)) Q E s:=by
 have fl:(List.replicate j [v]).flatten=List.replicate j v:=by simp
 refine K7 h (by omega) (by omega) (by simp;omega) ?_
 rw [Int.toNat_natCast,fl]
 exact q
theorem st2 (L:LE env c) (Y:YP w s₀.heap) {D:Addr} {ys:List Value} {ns:List Int} (x:LS s₀ env.locals c m (some (.ref D)) s) (hp:s.heap.PlainList D ys.toArray) (hi:IntsAre ys ns) (hn:ns.length≤60) (hk:env.kindOf ("len":Str)=some .globalImplicit)
  {p0 p1 p2 p3 p4 p5 p6 p7 p8 p9 p10 p11:Pos} {k1 k2:Nat} {Q:Flow→Shared→Prop}
  (q:∀ D2 ys2 s',LS s₀ env.locals c m (some (.ref D2)) s'→s'.heap.PlainList D2 ys2.toArray→IntsAre ys2 (ns++List.replicate (64 - ns.length) 0)→s₀.heap.get? D2=none→D2≠c→D2≠env.locals→Q .next s'):
  wpAny (model pw w) A (exec (.Assign [.Name "nums" p0] (.BinOp (.Name "nums" p1) .Add (.BinOp (.List [.Constant (.int 0) k1 p2] p3) .Mult (.BinOp (.Constant (.int 64) k2 p4) .Sub (.Call (.Name "len" p5) [.Name "nums" p6] [] p7) p8) p9) p10) p11) env) Q E s:=by
 refine wpAny_Assign_stores ?_ rfl rfl
 have hl:ys.length=ns.length:=hi.length
 refine wpAny_BinOp (qw L x ?_)
 refine wpAny_BinOp ?_
 refine wpAny_List_spliced (spliced_cons (xc (k:=k1) (p:=p2) (spliced_nil ⟨by simp [sizeLine_eq],?_⟩)))
 have k1':∀ b o,s.heap.get? b=some o→(s.heap.push {cls:=.type "list",data:=.seq [Value.int 0 s.toks].toArray}).get? b=some o:=fun b o e=>Heap.get?_push_of_some _ e
 have X1:=x.grow k1' (s.toks+1)
 have P1:=hp.at fun o e=>k1' _ o e
 have Z1:(s.heap.push {cls:=.type "list",data:=.seq [Value.int 0 s.toks].toArray}).get? s.heap.objs.size=some {cls:=.type "list",data:=.seq [Value.int 0 s.toks].toArray}:=Heap.get?_push_size _ rfl
 generalize s.heap.push {cls:=.type "list",data:=.seq [Value.int 0 s.toks].toArray}=h1 at X1 P1 Z1 ⊢
 generalize s.heap.objs.size=z1 at Z1 ⊢
 refine wpAny_BinOp (xc ?_)
 show wpAny _ _ (do callWith p7 (← eval (.Name "len" p5) env) [] (backTo p7 (starEach [.Name "nums" p6] env)) []) _ _ _
 have X2:=X1.grow (fun _ _ e=>e) (s.toks+1+1)
 refine wpAny_bind (Name_function_global L.kind hk (loadGlobal_builtin (X2.gns L Y) (Jk (P:=w.params)).1 (X2.bns L Y) (Jk (P:=w.params)).2 ?_) (by decide))
 refine callWith_of (P:=fun _=>True) rfl (GR nofun) (evalArgs_plain (spliced_cons (qw L X2 (spliced_nil ⟨trivial,?_⟩))))
 refine Calls.call_len_list P1.isList (by simp;omega) ?_
 refine P.sub_int ?_
 have e64:(64 - ((ys.toArray.size:Nat):Int))=((64 - ns.length:Nat):Int):=by simp;omega
 rw [e64]
 generalize hj:64 - ns.length=j
 have hj':j≤64:=by omega
 refine WL Z1 hj' ?_
 have k2':∀ b o,h1.get? b=some o→(h1.push {cls:=.type "list",data:=.seq (List.replicate j (Value.int 0 s.toks)).toArray}).get? b=some o:=fun b o e=>Heap.get?_push_of_some _ e
 have X3:=X1.grow k2' (s.toks+1+1+1+1+1)
 have P3:=P1.at fun o e=>k2' _ o e
 have Z3:(h1.push {cls:=.type "list",data:=.seq (List.replicate j (Value.int 0 s.toks)).toArray}).get? h1.objs.size=some {cls:=.type "list",data:=.seq (List.replicate j (Value.int 0 s.toks)).toArray}:=Heap.get?_push_size _ rfl
 dsimp only
 generalize h1.push {cls:=.type "list",data:=.seq (List.replicate j (Value.int 0 s.toks)).toArray}=h2 at X3 P3 Z3 ⊢
 generalize h1.objs.size=z2 at Z3 ⊢
 obtain ⟨n0,P3⟩:=P3
 refine P.add_list P3 Z3 ?_ (by simp [sizeLine_eq];omega)
 have k3':∀ b o,h2.get? b=some o→(h2.push {cls:=.type "list",data:=.seq (ys.toArray++(List.replicate j (Value.int 0 s.toks)).toArray)}).get? b=some o:=fun b o e=>Heap.get?_push_of_some _ e
 have X4:=X3.grow k3' (s.toks+1+1+1+1+1)
 have Z4:(h2.push {cls:=.type "list",data:=.seq (ys.toArray++(List.replicate j (Value.int 0 s.toks)).toArray)}).get? h2.objs.size=some {cls:=.type "list",data:=.seq (ys.toArray++(List.replicate j (Value.int 0 s.toks)).toArray)}:=Heap.get?_push_size _ rfl
 have fr:h2.get? h2.objs.size=none:=zA
 have k4:s₀.heap.get? h2.objs.size=none:=by
  cases e:s₀.heap.get? h2.objs.size with
  | none=>rfl
  | some o=>have:=X3.fr.keep _ _ e;rw [fr] at this;cases this
 have d1:h2.objs.size≠c:=fun z=>by
  obtain ⟨o,n,_⟩:=X3.cell
  have:=(n _ (.head _)).1
  rw [← z] at this;rw [fr] at this;cases this
 have d2:h2.objs.size≠env.locals:=fun z=>by
  obtain ⟨o,_,_,e,_⟩:=X3.fr.ns
  rw [← z] at e;rw [fr] at e;cases e
 show wpAny _ _ (assign (.Name "nums" p0) env _) _ _ _
 refine wpAny_assign_Name (uG L X4 fun h3 hs3 X5=>q _ (ys++List.replicate j (Value.int 0 s.toks)) _ X5 ⟨0,(hs3.2 _ d1).trans (by rw [Z4];simp)⟩ (by rw [hj];exact hi.append (Yy j)) k4 d1 d2)
end
noncomputable def Og:V→Nat
 | .int i=>i.toNat
 | _=>0
noncomputable def qz:List Nat:=Jp.map Og
theorem WV:Jp=qz.map fun (b:Nat)=>V.int (b:Int):=rfl
theorem qy:qz.length=64:=rfl
theorem Kg:zE "_law_BASE"=some (.tup Jp):=by unfold zE;unfold y4 vI;rfl
theorem Y2 {ρ n h S}:∀ {vs:List Value} {bs:List Nat},RVs ρ n h S vs (bs.map fun (b:Nat)=>V.int (b:Int))→IntsAre vs (bs.map fun b=>((b:Nat):Int))
 | _,[],.nil=>.nil
 | _,_::_,.cons (.int _ _) rs=>.cons _ _ (Y2 rs)
section
variable {w:World} {A:Around} {E:Value→Shared→Prop} {s₀ s:Shared} {N c:Addr} {m:Str→Option Value} {cv:Option Value} {env:Env} {v:Value}
theorem GC {h:Heap} (Y:YP w h):∃ t items,kX w.params "_law_BASE"=some (.ref t)∧IsTup h t items∧IntsAre items.toList (qz.map fun b=>((b:Nat):Int)):=by
 obtain ⟨v,e,r⟩:=Jn (h:=h) (ρ:=fun _=>(0,0)) (n:=0) (S:=fun _=>False) Y (fun _ z=>z.elim) Kg
 cases r with
 | @tup a o items k l e1 e2 e3 e4 e5=>
  refine ⟨a,items,e,⟨o,e1,e2,k,e3⟩,?_⟩
  rw [WV] at e5
  exact Y2 e5
theorem qA {P:Params}:kX P "range"=none∧Ku P "range"=some (.type "range"):=by
 have hb:=List.all_eq_true.mp (ZO P) _ (zz (show bis.lookup "range"=some (.type "range") by unfold bis;rfl))
 simp only [Bool.and_eq_true] at hb
 exact ⟨zH hb.1,zH hb.2⟩
theorem IntsAre.at':∀ {vs:List Value} {ns:List Int} {i:Nat} {n:Int},IntsAre vs ns→ns[i]?=some n→∃ t,vs[i]?=some (.int n t)
 | _,_,0,_,.cons _ t _,e=>by cases e;exact ⟨t,rfl⟩
 | _,_,i+1,_,.cons _ _ r,e=>by simpa using IntsAre.at' r (by simpa using e)
theorem qK {x:Str} {k:Nat} {p:Pos} {Q:Value→Shared→Prop} (q:Q (.str x s.toks) {s with toks:=s.toks+1}):wpAny (model pw w) A (eval (.Constant (.str x) k p) env) Q E s:=fun _ _ _=>q
structure ScP (sc:Scope):Prop where
 kind:sc.kind=.function
 names:sc.names=[((".0":Str),NameKind.local),(("i":Str),.local),(("_law_BASE":Str),.globalImplicit),(("nums":Str),.free)]
theorem Ht {sc:Scope} (h:ScP sc) (hc:env.cells.lookup ("nums":Str)=some c):closureFor sc env=pure [(("nums":Str),c)]:=by
 unfold closureFor
 rw [h.names]
 simp [cellOf,hc]
theorem JW {sc:Scope} (h:ScP sc) (L:LE env c):(relabel sc env).names=[((".0":Str),NameKind.local),(("i":Str),.local),(("_law_BASE":Str),.globalImplicit),(("nums":Str),.cell)]:=by
 unfold relabel
 rw [h.names]
 simp [L.kind,L.kn]
theorem LS.other {d:Addr} (x:LS s₀ N c m cv s) {h':Heap} (hs:Heap.SameBut d s.heap h') (f0:s₀.heap.get? d=none) (dN:d≠N) (dc:d≠c) (tk:Nat):LS s₀ N c m cv {s with heap:=h',toks:=tk}:=by
 obtain ⟨⟨h,t,rfl⟩,F,o,n,dd⟩:=x
 refine ⟨⟨h',tk,rfl⟩,⟨F.ns.sameBut hs dN.symm,fun b ob e=>(hs.2 b fun z=>by rw [z,f0] at e;cases e).trans (F.keep b ob e),F.above⟩,o,fun p hp=>?_,dd⟩
 rcases List.mem_cons.mp hp with rfl | hp
 ·obtain ⟨a,b,e⟩:=n _ (.head _)
  exact ⟨(hs.2 _ dc.symm).trans a,b,e⟩
 ·cases hp
noncomputable def ji (ns:List Int) (i:Int):Int:=ns.getD i.toNat 0+((qz.getD i.toNat 0:Nat):Int)
theorem MV {h:Heap} {d:Addr} (e:h.get? d=some {cls:=.type "dict",data:=.dict #[]}):h.DictOf (PySem.strKind pw w) d []:=
 ⟨_,#[],0,e,⟨rfl,rfl,rfl⟩,rfl,fun _ he=>by simp at he,Pairs.nil,List.nodup_nil⟩
theorem Wm {sc:Scope} (L:LE env c) (Y:YP w s.heap) (hs:ScP sc) {C:Addr} {m₂:Str→Option Value} {a:Int} {tt:Tok} (ha:a∈rangeInts 0 1 64) (hns:s.heap.Ns (compEnvC sc [(("nums":Str),c)] C env).locals m₂) (hx:m₂ "i"=some (.int a tt)) {D0:Addr} {ys0:List Value} {ns:List Int}
  (hc:s.heap.IsCell c (some (.ref D0))) (hp:s.heap.IsList D0 ys0.toArray) (hi:IntsAre ys0 ns) (hn:ns.length=64) {p1 p2 p3 p4 p5 p6 p7:Pos}:
  wpAny (model pw w) A (eval (.BinOp (.Subscript (.Name "nums" p1) (.Name "i" p2) p3) .Add (.Subscript (.Name "_law_BASE" p4) (.Name "i" p5) p6) p7) (compEnvC sc [(("nums":Str),c)] C env))
   (fun y s₃=>Carried y (.int (ji ns a))∧Keeps s s₃) E s:=by
 rw [rangeInts_zero_one,List.mem_map] at ha
 obtain ⟨k,hk,rfl⟩:=ha
 rw [List.mem_range] at hk
 have sn:=JW hs L
 have kd:(compEnvC sc [(("nums":Str),c)] C env).scope.kind=.function:=hs.kind
 have kO:∀ (x:Str) (k:NameKind),[((".0":Str),NameKind.local),(("i":Str),.local),(("_law_BASE":Str),.globalImplicit),(("nums":Str),.cell)].lookup x=some k→(compEnvC sc [(("nums":Str),c)] C env).kindOf x=some k:=fun x k h=>by
  show (relabel sc env).names.lookup x=some k
  rw [sn];exact h
 obtain ⟨n1,e1⟩:∃ n,ns[k]?=some n:=⟨_,List.getElem?_eq_getElem (by omega)⟩
 obtain ⟨t1,e1'⟩:=IntsAre.at' hi e1
 obtain ⟨tb,items,gb,ht,hb⟩:=GC Y
 obtain ⟨n2,e2⟩:∃ n,qz[k]?=some n:=⟨_,List.getElem?_eq_getElem (by rw [qy];omega)⟩
 obtain ⟨t2,e2'⟩:=IntsAre.at' hb (show (qz.map fun b=>((b:Nat):Int))[k]?=some (n2:Int) by rw [List.getElem?_map,e2];rfl)
 have hsz:items.size=64:=by have:=hb.length;simp [qy] at this;exact this
 have nameI:∀ {p:Pos} {Q:Value→Shared→Prop},Q (.int (k:Int) tt) s→wpAny (model pw w) A (eval (.Name "i" p) (compEnvC sc [(("nums":Str),c)] C env)) Q E s:=fun q=>wpAny_Name (wpAny_loadName_local kd (kO _ _ (by decide)) hns hx q) (by decide)
 refine wpAny_BinOp (Subscript_ (wpAny_Name (wpAny_loadName_cell kd (kO _ _ (by decide)) (c:=c) (by simp [compEnvC]) hc (nameI ?_)) (by decide)))
 refine tail_any hp.typeIs slot_list_getitem.lookup (wpAny_getItem_list hp (by omega) (by omega) (by simpa using e1') ?_) rfl
 have gns:s.heap.Ns (compEnvC sc [(("nums":Str),c)] C env).globals (kX w.params):=by
  show s.heap.Ns env.globals _
  rw [L.glob];exact (Zz w.params).keeps Y
 refine Subscript_ (Name_function_global kd (kO _ _ (by decide)) (loadGlobal_global gns gb (nameI ?_)) (by decide))
 refine tail_any ht.typeIs slot_tuple_getitem.lookup (getItem_tuple ht (by omega) (by omega) (j:=k) (by rw [Xj (by omega) (by omega)];simp) (by rw [← Array.getElem?_toList];exact e2') ?_) rfl
 refine P.add_int ⟨?_,jU⟩
 have:ji ns (k:Int)=n1+(n2:Int):=by simp [ji,List.getD,e1,e2]
 rw [this]
 exact .int _ _
theorem st3 (L:LE env c) (hh:A.handled=none) (Y:YP w s₀.heap) {D0:Addr} {ys0:List Value} {ns:List Int} (x:LS s₀ env.locals c m (some (.ref D0)) s) (hp:s.heap.PlainList D0 ys0.toArray) (hi:IntsAre ys0 ns) (hn:ns.length=64)
  (hk:env.kindOf ("range":Str)=some .globalImplicit) (hkp:env.kindOf ("pile":Str)=some .local) {sc:Scope} (hs:ScP sc) {p0 p1 p2 p3 p4 p5 p6 p7 p8 p9 p10 p11 p12 p13 p14 p15 p16 p17:Pos} {k1 k2 k3 k4:Nat} {Q:Flow→Shared→Prop}
  (q:∀ D P ys s' tt,LS s₀ env.locals c (fun y=>if y=("pile":Str) then some (.ref P) else m y) (some (.ref D0)) s'→s'.heap.PlainList D ys→IntsAre ys.toList ((List.range 64).map fun (i:Nat)=>ji ns i)→
   s'.heap.DictOf (PySem.strKind pw w) P [(("nums":Str),.ref D),(("next":Str),.int 0 tt)]→s₀.heap.get? D=none→s₀.heap.get? P=none→D≠P→D≠env.locals→P≠env.locals→Q .next s'):
  wpAny (model pw w) A (exec (.Assign [.Name "pile" p0] (.Dict [some (.Constant (.str "nums") k1 p1),some (.Constant (.str "next") k2 p2)]
   [.ListComp (.BinOp (.Subscript (.Name "nums" p3) (.Name "i" p4) p5) .Add (.Subscript (.Name "_law_BASE" p6) (.Name "i" p7) p8) p9) [⟨.Name "i" p10,.Call (.Name "range" p11) [.Constant (.int 64) k3 p12] [] p13,[],0⟩] sc p14,.Constant (.int 0) k4 p15] p16) p17) env) Q E s:=by
 refine wpAny_Assign_stores ?_ rfl rfl
 refine wpAny_Dict_pairs (knd:=PySem.strKind pw w) (pairs:=[(eval (.Constant (.str "nums") k1 p1) env,do let x ← eval (.ListComp (.BinOp (.Subscript (.Name "nums" p3) (.Name "i" p4) p5) .Add (.Subscript (.Name "_law_BASE" p6) (.Name "i" p7) p8) p9) [⟨.Name "i" p10,.Call (.Name "range" p11) [.Constant (.int 64) k3 p12] [] p13,[],0⟩] sc p14) env;standAt p16;pure x),
  (eval (.Constant (.str "next") k2 p2) env,do let x ← eval (.Constant (.int 0) k4 p15) env;standAt p16;pure x)]) rfl (by simp) (by simp) ?_
 have kd:∀ b o,s.heap.get? b=some o→(s.heap.push {cls:=.type "dict",data:=.dict #[]}).get? b=some o:=fun b o e=>Heap.get?_push_of_some _ e
 have X1:=x.grow kd (s.toks+1)
 have P1:=hp.at fun o e=>kd _ o e
 have Z1:(s.heap.push {cls:=.type "dict",data:=.dict #[]}).get? s.heap.objs.size=some {cls:=.type "dict",data:=.dict #[]}:=Heap.get?_push_size _ rfl
 have fz:s.heap.get? s.heap.objs.size=none:=zA
 have f0:s₀.heap.get? s.heap.objs.size=none:=by
  cases e:s₀.heap.get? s.heap.objs.size with
  | none=>rfl
  | some o=>have:=x.fr.keep _ _ e;rw [fz] at this;cases this
 have dN:s.heap.objs.size≠env.locals:=fun z=>by
  obtain ⟨o,_,_,e,_⟩:=x.fr.ns
  rw [← z] at e;rw [fz] at e;cases e
 have dc:s.heap.objs.size≠c:=fun z=>by
  obtain ⟨o,n,_⟩:=x.cell
  have:=(n _ (.head _)).1
  rw [← z] at this;rw [fz] at this;cases this
 have d0:s.heap.objs.size≠D0:=fun z=>by
  obtain ⟨n,e⟩:=hp
  rw [← z] at e;rw [fz] at e;cases e
 generalize s.heap.push {cls:=.type "dict",data:=.dict #[]}=h1 at X1 P1 Z1 ⊢
 generalize s.heap.objs.size=d at Z1 f0 dN dc d0 ⊢
 refine evalPairs_cons (qK ?_)
 refine wpAny_bind ?_
 refine ListComp_DCr (h₀:=s₀.heap) (L:=env.locals) (m:=m) (pz:=fun _=>true) (d:=fun a=>PyData.int (ji ns a)) (cl:=[(("nums":Str),c)]) hh (Ht hs L.cel) (fun y hy z=>?_) hs.kind (fun y hy z=>?_) (by rw [hs.names];decide) ?_ (fun _=>rfl)
 ·rw [hs.names] at hy;simp only [List.mem_cons,List.not_mem_nil,or_false] at hy;rcases hy with rfl | rfl | rfl | rfl <;> cases z
 ·rw [hs.names] at hy ⊢;simp only [List.mem_cons,List.not_mem_nil,or_false] at hy;rcases hy with rfl | rfl | rfl | rfl <;> first | cases z;done | decide
 show wpAny _ _ (do callWith p13 (← eval (.Name "range" p11) env) [] (backTo p13 (starEach [.Constant (.int 64) k3 p12] env)) []) _ _ _
 refine wpAny_bind (Name_function_global L.kind hk (loadGlobal_builtin (X1.gns L Y) (qA (P:=w.params)).1 (X1.bns L Y) (qA (P:=w.params)).2 ?_) (by decide))
 refine callWith_of (P:=fun _=>True) rfl (GR nofun) (evalArgs_plain (spliced_cons (xc (k:=k3) (p:=p12) (spliced_nil ⟨trivial,?_⟩))))
 refine call_range_1 ?_
 dsimp only
 generalize hro:({cls:=.type "range",data:=.fields #[.int 0 _,.int 64 _,.int 1 _]}:Obj)=ro
 have kr:∀ b o,h1.get? b=some o→(h1.push ro).get? b=some o:=fun b o e=>Heap.get?_push_of_some _ e
 have X2:=X1.grow kr (s.toks+1+1+1+1)
 have P2:=P1.at fun o e=>kr _ o e
 have Z2:=kr _ _ Z1
 have IR:IsRange (h1.push ro) h1.objs.size 0 64 1 (s.toks+1+1) (s.toks+1) (s.toks+1+1+1):=by rw [← hro];exact IsRange.new _ _ _ _ _ _ _
 obtain ⟨oc,n2,dcl⟩:=X2.cell
 have cl2:=n2 _ (.head _)
 refine ⟨[(c,oc),(d,{cls:=.type "dict",data:=.dict #[]})],h1.objs.size,0,64,1,_,_,_,64,rfl,IR,small_one (by decide) (by decide) (by decide) (by decide),by decide,by decide,X2.fr,fun p hp=>?_,?_,?_,?_⟩
 ·rcases List.mem_cons.mp hp with rfl | hp
  ·exact cl2
  ·rcases List.mem_cons.mp hp with rfl | hp
   ·exact ⟨Z2,dN,f0⟩
   ·cases hp
 ·intro C a v s₂ m₂ E' _ _ _ _ _ _
  exact wpAny_pure ⟨rfl,jU (tk:=s₂.toks)⟩
 ·intro C a v s₂ m₂ E' hC ha hv _ hns hx hkk
  obtain ⟨tt,rfl⟩:=hv
  exact Wm L (Y.keeps fun b o e=>hkk _ _ (X2.fr.keep _ _ e)) hs ha hns hx ⟨oc,hkk _ _ cl2.1,dcl⟩ (P2.isList.at fun o e=>hkk _ _ e) hi hn
 ·intro D ys h' tk F' N' hD _ hpl hc
  rw [List.filter_eq_self.mpr fun _ _=>rfl] at hc
  have hints:=ja hc
  refine wpAny_bind (wpAny_standAt (wpAny_pure ?_))
  refine evalPairs_cons (qK (k:=k2) (p:=p2) ?_)
  refine wpAny_bind (xc (k:=k4) (p:=p15) (wpAny_bind (wpAny_standAt (wpAny_pure ?_))))
  refine evalPairs_nil ?_
  have dD:d≠D:=fun z=>hpl.2 _ (.tail _ (.head _)) z
  have Zd:h'.get? d=some {cls:=.type "dict",data:=.dict #[]}:=(N' _ (.tail _ (.head _))).1
  refine ⟨[(("nums":Str),.ref D),(("next":Str),.int 0 (tk+1))],⟨strKind_is _ _ _ _,rfl,strKind_is _ _ _ _,rfl,trivial⟩,MV Zd,fun h2 hd hs2=>?_⟩
  have X3:LS s₀ env.locals c m (some (.ref D0)) {s with heap:=h',toks:=tk}:=⟨by obtain ⟨h0,t0,rfl⟩:=x.same;exact ⟨h',tk,rfl⟩,F',oc,fun p hp=>N' p (by rcases List.mem_cons.mp hp with rfl | hp;exact .head _;cases hp),dcl⟩
  have X4:=X3.other (d:=d) hs2 f0 dN dc ((s.toks+1+1)+2)
  have D2:h2.PlainList D ys.toArray:=hpl.1.at fun o e=>(hs2.2 D dD.symm).trans e
  have DN:D≠env.locals:=hpl.ne_locals F'
  rw [wC _ _ (by simp;decide),List.nil_append] at hd
  show wpAny _ _ (assign (.Name "pile" p0) env _) _ _ _
  refine wpAny_assign_Name (wpAny_storeName_local hkp X4.fr.ns (fun h3 hn3 hs3=>?_) (by rw [L.kind];rfl))
  refine q D d ys.toArray _ (tk+1) ?_ (D2.at fun o e=>(hs3.2 D DN).trans e) ?_ (hd.sameBut hs3 dN) hD f0 dD.symm DN dN
  ·obtain ⟨_,F4,o4,n4,d4⟩:=X4
   refine ⟨by obtain ⟨h0,t0,rfl⟩:=x.same;exact ⟨h3,_,rfl⟩,F4.set hn3 hs3,o4,n4.set hs3,d4⟩
  ·rw [rangeInts_zero_one,List.map_map] at hints
   exact hints
end
noncomputable def lawD:DefRec:=match D_ 112 with
 | .FunctionDef name args body _ _ _ scope _ _ pos=>⟨name,args,body,scope,pos⟩
 | _=>⟨"",⟨[],[],none,[],[],none,[]⟩,[],⟨.function,[],false,false,[]⟩,⟨0,0,0,0⟩⟩
noncomputable def QI (sc:List (Str×NameKind)) (n:String) (e:E):Stmt→Bool
 | .Assign [.Name m px] y spos=>m==Str.ofString n&&okE sc e y&&sc.lookup m==some .local&&px.line==y.pos.line&&(match y with
  | .ListComp _ _ s _=>!(s.names.any fun (n',k)=>n'==m&&(k==.local||k==.cell))
  | _=>false)
 | _=>false
noncomputable def GP (sc:List (Str×NameKind)):List Stmt→Bool
 | a::b::h::r=>jt sc (JI.take 2) [a,b]&&QI sc "handed" (.comp 377 HP ["row"] (.x "base")) h&&jt sc (JI.drop 3) r
 | _=>false
theorem QG:GP lawD.scope.names (lawD.body.drop 3)=true:=by kernel_rfl
theorem Ui {K:Fc} {d:Nat} (O:K.Ok (d+1)) {k:Nat} {e:E} {tg:List String} {it:E} {n:String} {x:Stmt} (h:QI K.env.scope.names n (.comp k e tg it) x=true):SS K (RC d) (.asg [n] (.comp k e tg it)) x:=by
 unfold QI at h
 split at h
 ·simp only [Bool.and_eq_true,beq_iff_eq] at h
  obtain ⟨⟨⟨⟨rfl,h1⟩,h2⟩,h3⟩,h4⟩:=h
  rename_i px y spos
  split at h4
  ·refine Uq O rfl h1 ?_ (zy rfl h2)
   have hk:K.env.blockKind=.function:=by simp [Env.blockKind,O.kind,ScopeKind.isAnnotationScope]
   have hl:=zy (K:=K) rfl h2
   unfold swapsWith
   dsimp only
   rw [hk,hl]
   have e1:(ScopeKind.function==ScopeKind.function)=true:=rfl
   have e2:((some NameKind.local:Option NameKind)==some .local)=true:=rfl
   rw [e1,e2,h3,h4]
   simp
  ·cases h4
 ·cases h
theorem Ug {K:Fc} {d:Nat} (FO:FOk K (d+1)) (hs:lawD.scope.names=K.env.scope.names):SSs K (RC d) JI (lawD.body.drop 3):=by
 have h:=QG
 rw [hs] at h
 unfold GP at h
 split at h
 ·simp only [Bool.and_eq_true] at h
  obtain ⟨⟨h1,h2⟩,h3⟩:=h
  rename_i a b hh r e
  rw [e]
  obtain ⟨h1,h1'⟩:=zb (show (okS _ _ a&&(okS _ _ b&&_))=true from h1)
  exact wd (Xg _ FO rfl _ h1) (wd (Xg _ FO rfl _ (zb h1').1) (wd (Ui FO.toOk h2) (yS _ FO rfl _ h3)))
 ·cases h
noncomputable def scB (sc:Scope) (x:Str):Bool:=(sc.kind==.function)&&(sc.names.all fun y=>y.2 != .cell&&(y.2 != .local||sc.names.lookup y.1==some .local))&&sc.names.lookup x==some .local
theorem UB {sc:Scope} {x:Str} (h:scB sc x=true):Oa sc x:=by
 simp only [scB,Bool.and_eq_true,List.all_eq_true,bne_iff_ne,Bool.or_eq_true,beq_iff_eq] at h
 exact ⟨h.1.1,fun y hy=>(h.1.2 y hy).1,fun y hy e=>(h.1.2 y hy).2.elim (fun z=>absurd e z) id,h.2⟩
theorem QW:∃ (p0 p1 p2 p3 p4 p5 p6 p7 p8 p9 p10:Pos) (k1 k2:Nat) (sc:Scope),lawD.body=(.Assign [.Name "nums" p0] (.ListComp (.BinOp (.Name "x" p1) .Mod (.Constant (.int 2520) k1 p2) p3) [⟨.Name "x" p4,.Subscript (.Name "script" p5) (.Slice none (some (.Constant (.int 60) k2 p6)) none p7) p8,[],0⟩] sc p9) p10)::lawD.body.drop 1∧
  (scB sc "x"&&sc.names.all fun y=>y.2 != .free)=true:=
 ⟨_,_,_,_,_,_,_,_,_,_,_,_,_,_,rfl,by kernel_rfl⟩
theorem QV:∃ (p0 p1 p2 p3 p4 p5 p6 p7 p8 p9 p10 p11:Pos) (k1 k2:Nat),lawD.body.drop 1=(.Assign [.Name "nums" p0] (.BinOp (.Name "nums" p1) .Add (.BinOp (.List [.Constant (.int 0) k1 p2] p3) .Mult (.BinOp (.Constant (.int 64) k2 p4) .Sub (.Call (.Name "len" p5) [.Name "nums" p6] [] p7) p8) p9) p10) p11)::lawD.body.drop 2:=
 ⟨_,_,_,_,_,_,_,_,_,_,_,_,_,_,rfl⟩
theorem QU:∃ (p0 p1 p2 p3 p4 p5 p6 p7 p8 p9 p10 p11 p12 p13 p14 p15 p16 p17:Pos) (k1 k2 k3 k4:Nat) (sc:Scope),lawD.body.drop 2=(.Assign [.Name "pile" p0] (.Dict [some (.Constant (.str "nums") k1 p1),some (.Constant (.str "next") k2 p2)]
   [.ListComp (.BinOp (.Subscript (.Name "nums" p3) (.Name "i" p4) p5) .Add (.Subscript (.Name "_law_BASE" p6) (.Name "i" p7) p8) p9) [⟨.Name "i" p10,.Call (.Name "range" p11) [.Constant (.int 64) k3 p12] [] p13,[],0⟩] sc p14,.Constant (.int 0) k4 p15] p16) p17)::lawD.body.drop 3∧ScP sc:=
 ⟨_,_,_,_,_,_,_,_,_,_,_,_,_,_,_,_,_,_,_,_,_,_,_,rfl,⟨rfl,rfl⟩⟩
theorem WW:cellsFrom (n+1) lawD.scope.names []=[(("nums":Str),n+1)]:=by rfl
theorem jT:lawD.scope.kind=.function∧lawD.scope.isCoroutine=false∧lawD.scope.isGenerator=false:=⟨rfl,rfl,rfl⟩
theorem yF:lawD.scope.names.lookup ("nums":Str)=some .cell∧lawD.scope.names.lookup ("script":Str)=some .local∧lawD.scope.names.lookup ("pile":Str)=some .local∧lawD.scope.names.lookup ("len":Str)=some .globalImplicit∧lawD.scope.names.lookup ("range":Str)=some .globalImplicit:=
 ⟨by kernel_rfl,by kernel_rfl,by kernel_rfl,by kernel_rfl,by kernel_rfl⟩
theorem WX {pm cd doc v:Value}:bindArgs (docDef lawD.name lawD.params lawD.body lawD.scope pm cd doc) ⟨[v],[]⟩=pure [(("script":Str),v)]:=by rfl
theorem K9:lawD.params.defaults=[]:=rfl
noncomputable def nl0:Loc:=(0,0,0)
noncomputable def pl0:Loc:=(0,0,1)
noncomputable def uK (vs:List Nat):St:=⟨fun l=>if l=pl0 then some (.ds [([110,117,109,115],.ref nl0),([110,101,120,116],.int ((0:Nat):Int))]) else if l=nl0 then some (.lst (vs.map fun (a:Nat)=>V.int (a:Int))) else none,2,0⟩
noncomputable def uO (D P:Addr):Loc→Addr×Addr:=fun l=>if l=pl0 then (P,P) else (D,D)
theorem ne0:nl0≠pl0:=by decide
theorem Q8 (vs:List Nat):(uK vs).m pl0=some (.ds [([110,117,109,115],.ref nl0),([110,101,120,116],.int ((0:Nat):Int))]):=by
 simp [uK]
theorem Q9 (vs:List Nat):(uK vs).m nl0=some (.lst (vs.map fun (a:Nat)=>V.int (a:Int))):=by
 simp [uK,ne0]
theorem xN {vs:List Nat} {l:Loc} {c:zu} (h:(uK vs).m l=some c):(l=pl0∧c=.ds [([110,117,109,115],.ref nl0),([110,101,120,116],.int ((0:Nat):Int))])∨(l=nl0∧c=.lst (vs.map fun (a:Nat)=>V.int (a:Int))):=by
 simp only [uK] at h
 split at h
 ·cases h;exact .inl ⟨‹_›,rfl⟩
 ·split at h
  ·cases h;exact .inr ⟨‹_›,rfl⟩
  ·cases h
theorem Yx {ρ n h S}:∀ {ys:List Value} {vs:List Nat},IntsAre ys (vs.map fun (a:Nat)=>(a:Int))→RVs ρ n h S ys (vs.map fun (a:Nat)=>V.int (a:Int))
 | _,[],.nil=>.nil
 | _,_::_,.cons _ t r=>.cons (.int _ t) (Yx r)
theorem Vp {w:World} {h:Heap} {ρ n S} {D P:Addr} {tt:Tok} (hd:h.DictOf (PySem.strKind pw w) P [(("nums":Str),.ref D),(("next":Str),.int 0 tt)]) (hD:ρ nl0=(D,D)) (hn:0 < n):
  ∃ kvs,h.DictOf (PySem.strKind pw w) P kvs∧RKs sv ρ n h S kvs [([110,117,109,115],.ref nl0),([110,101,120,116],.int ((0:Nat):Int))]:=by
 refine ⟨_,hd,?_⟩
 have e1:("nums":Str)=sv [110,117,109,115]:=y6 "nums"
 have e2:("next":Str)=sv [110,101,120,116]:=y6 "next"
 rw [e1,e2]
 have r:RV ρ n h S (.ref D) (.ref nl0):=by
  have:(Value.ref D)=.ref (ρ nl0).1:=by rw [hD]
  rw [this];exact .ref hn
 exact .cons r (.cons (.int _ _) .nil)
theorem ws0 {w:World} {h:Heap} (Y:YP w h) {vs:List Nat} {D P N:Addr} {ys:Array Value} {tt:Tok} (hp:h.PlainList D ys) (hi:IntsAre ys.toList (vs.map fun (a:Nat)=>(a:Int))) (hd:h.DictOf (PySem.strKind pw w) P [(("nums":Str),.ref D),(("next":Str),.int 0 tt)])
  (dp:D≠P) (dN:D≠N) (pN:P≠N) (nD:(hf w.params).get? D=none) (nP:(hf w.params).get? P=none) (nN:(hf w.params).get? N=none):WS w (uK vs) (uO D P) [N] h:=by
 have rp:uO D P pl0=(P,P):=if_pos rfl
 have rn:uO D P nl0=(D,D):=if_neg ne0
 refine ⟨Y,fun l c e=>?_,fun l l' c c' e e' z=>?_,fun l c e z=>?_,fun a z=>?_⟩
 ·rcases xN e with ⟨rfl,rfl⟩ | ⟨rfl,rfl⟩
  ·refine ⟨(by decide:(1:Nat) < 2),?_⟩
   rw [rp]
   exact ⟨rfl,Vp hd rn (Nat.succ_pos _)⟩
  ·refine ⟨(by decide:(0:Nat) < 2),?_⟩
   rw [rn]
   obtain ⟨k,e⟩:=hp
   exact ⟨rfl,ys,k,e,Yx hi⟩
 ·rcases xN e with ⟨rfl,rfl⟩ | ⟨rfl,rfl⟩ <;> rcases xN e' with ⟨rfl,rfl⟩ | ⟨rfl,rfl⟩
  ·rfl
  ·rw [rp,rn] at z;exact absurd z.symm dp
  ·rw [rp,rn] at z;exact absurd z dp
  ·rfl
 ·rcases xN e with ⟨rfl,rfl⟩ | ⟨rfl,rfl⟩
  ·rw [rp] at z;exact pN (List.mem_singleton.mp z)
  ·rw [rn] at z;exact dN (List.mem_singleton.mp z)
 ·rcases z with ⟨l,c,e,rfl⟩ | z
  ·rcases xN e with ⟨rfl,rfl⟩ | ⟨rfl,rfl⟩
   ·rw [rp];exact nP
   ·rw [rn];exact nD
  ·rw [List.mem_singleton.mp z];exact nN
theorem K3 {ns:List Int} (h:∀ n∈ns,0≤n) (i:Int):ji ns i=((ji ns i).toNat:Int):=by
 have:0≤ns.getD i.toNat 0:=by
  rw [List.getD]
  cases e:ns[i.toNat]? with
  | none=>simp
  | some n=>exact h n (List.mem_of_getElem? e)
 unfold ji
 omega
theorem G3 {w:World} {s:Shared} {a sa:Addr} {o:Obj} {pm cd doc:Value} {vs:List Value} {ns:List Int} (Y:YP w s.heap) (ho:s.heap.get? a=some o) (hd:o.data=.func (docDef lawD.name lawD.params lawD.body lawD.scope pm cd doc)) (hcd:s.heap.CodeRec cd lawD.name)
  (hl:s.heap.IsList sa vs.toArray) (hi:IntsAre vs ns) (hn:ns.length≤63):
  codeAny (model pw w) callerA (.call (.ref a) ⟨[.ref sa],[]⟩) (fun r s'=>r=.ok (.ret (.bool true))∧(∀ b o,s.heap.get? b=some o→s'.heap.get? b=some o)∧s'.os=s.os∧s'.gens=s.gens) s:=by
 refine call_cells_ret (by decide) ho hd Y.lim hcd WX (fun x hx=>?_) (fun h₁ tk F X=>?_) jT.2.1 jT.2.2 jT.1
 ·rw [List.mem_singleton.mp hx];exact .inl yF.2.1
 generalize hN:s.heap.objs.size=N at F X ⊢
 have hcells:=WW (n:=N)
 generalize henv:envOfC lawD.name lawD.scope N a cd=env
 have eL:env.locals=N:=by rw [← henv];rfl
 have eF:env.frame=some N:=by rw [← henv];rfl
 have eS:env.scope=lawD.scope:=by rw [← henv];rfl
 have kO:∀ x:Str,env.kindOf x=lawD.scope.names.lookup x:=fun x=>by rw [← henv];rfl
 have L:LE env (N+1):=by
  refine ⟨by rw [eS];exact jT.1,by rw [← henv];rfl,by rw [← henv];rfl,?_,(kO _).trans yF.1⟩
  rw [← henv];show (cellsFrom (N+1) lawD.scope.names []).lookup _=_;rw [hcells];rfl
 obtain ⟨oc,e1,e2⟩:=X.cell ("nums":Str) (N+1) (by rw [hcells];rfl)
 have fN:s.heap.get? N=none:=hN▸zA
 have fc:s.heap.get? (N+1)=none:=by
  cases q:s.heap.get? (N+1) with
  | none=>rfl
  | some o=>have:=Heap.lt_size q;rw [hN] at this;exact absurd this (Nat.not_lt.mpr (Nat.le_succ N))
 have LS0:LS s env.locals (N+1) (bindL env.kindOf [(("script":Str),.ref sa)] fun _=>none) (bindC env.kindOf [(("script":Str),.ref sa)] (fun _=>none) ("nums":Str)) {s with heap:=h₁,toks:=tk}:=by
  rw [eL,← henv]
  exact ⟨⟨_,_,rfl⟩,F,oc,fun p hp=>by rw [List.mem_singleton.mp hp];exact ⟨e1,Nat.succ_ne_self N,fc⟩,e2⟩
 have hms:bindL env.kindOf [(("script":Str),Value.ref sa)] (fun _=>none) ("script":Str)=some (.ref sa):=by
  unfold bindL bindL
  rw [if_pos ((kO _).trans yF.2.1)];simp
 generalize bindL env.kindOf [(("script":Str),Value.ref sa)] (fun _=>none)=m0 at LS0 hms
 generalize (bindC env.kindOf [(("script":Str),Value.ref sa)] (fun _=>none) ("nums":Str))=cv0 at LS0
 have hh:(callerA.deeper env).handled=none:=rfl
 obtain ⟨p0,p1,p2,p3,p4,p5,p6,p7,p8,p9,p10,k1,k2,sc,b0,hsc⟩:=QW
 simp only [Bool.and_eq_true,List.all_eq_true,bne_iff_ne] at hsc
 rw [b0]
 refine wpAny_execs_cons (st1 L hh LS0 hms ((kO _).trans yF.2.1) (hl.at fun o e=>F.keep _ _ e) hi hn (UB hsc.1) hsc.2 fun D1 ys1 s1 X1 P1 I1 n1 _ _=>?_)
 obtain ⟨p0,p1,p2,p3,p4,p5,p6,p7,p8,p9,p10,p11,k1,k2,b1⟩:=QV
 rw [b1]
 have ln1:((ns.take 60).map (· % 2520)).length≤60:=by rw [List.length_map,List.length_take];omega
 refine wpAny_execs_cons (st2 L Y X1 (ys:=ys1.toList) (by rw [Array.toArray_toList];exact P1) I1 ln1 ((kO _).trans yF.2.2.2.1) fun D2 ys2 s2 X2 P2 I2 n2 _ _=>?_)
 obtain ⟨p0,p1,p2,p3,p4,p5,p6,p7,p8,p9,p10,p11,p12,p13,p14,p15,p16,p17,k1,k2,k3,k4,sc2,b2,hsc2⟩:=QU
 rw [b2]
 generalize hns:(ns.take 60).map (· % 2520)++List.replicate (64 - ((ns.take 60).map (· % 2520)).length) 0=nn at I2
 have nn64:nn.length=64:=by rw [← hns,List.length_append,List.length_replicate];omega
 have nn0:∀ n∈nn,0≤n:=fun n hm=>by
  rw [← hns,List.mem_append] at hm
  rcases hm with hm | hm
  ·obtain ⟨x,_,rfl⟩:=List.mem_map.mp hm
   exact Int.emod_nonneg _ (by decide)
  ·rw [(List.mem_replicate.mp hm).2];exact Int.le_refl _
 refine wpAny_execs_cons (st3 L hh Y X2 P2 I2 nn64 ((kO _).trans yF.2.2.2.2) ((kO _).trans yF.2.2.1) hsc2 fun D P ys s3 tt X3 P3 I3 DO nD nP dp dN pN=>?_)
 have fo:∀ {b:Addr},s.heap.get? b=none→(hf w.params).get? b=none:=fun {b} e=>by
  cases q:(hf w.params).get? b with
  | none=>rfl
  | some o=>have:=Y _ _ q;rw [e] at this;cases this
 have Y3:YP w s3.heap:=Y.keeps X3.fr.keep
 have I4:IntsAre ys.toList (((List.range 64).map fun (i:Nat)=>(ji nn i).toNat).map fun (a:Nat)=>(a:Int)):=by
  rw [List.map_map]
  have:((fun (a:Nat)=>(a:Int))∘fun (i:Nat)=>(ji nn i).toNat)=fun (i:Nat)=>ji nn i:=funext fun i=>(K3 nn0 i).symm
  rw [this];exact I3
 generalize hvv:((List.range 64).map fun (i:Nat)=>(ji nn i).toNat)=vv at I4
 have vv64:vv.length=64:=by rw [← hvv,List.length_map,List.length_range]
 have W:=ws0 Y3 P3 I4 DO dp (eL▸dN) (eL▸pN) (fo nD) (fo nP) (fo fN)
 let K:Fc:={w:=w,A:=callerA.deeper env,env:=env,N:=N,fk:=[],st:=[env]}
 have FO:FOk K (560+1):=⟨⟨L.kind,eL,L.glob,L.blt,rfl,rfl,⟨(by show callerA.depth+1+561 < 990;decide),(by show callerA.units+3+12 * 561+200 < 9900;decide)⟩⟩,⟨[],rfl⟩,eF⟩
 have ns3:s3.heap.Ns N (fun y=>if y=("pile":Str) then some (.ref P) else m0 y):=eL▸X3.fr.ns
 have thr:∃ o,s3.heap.get? N=some o:=let ⟨o,_,_,e,_⟩:=ns3;⟨o,e⟩
 have I:K.In ⟨uK vv,uO D P,s3.heap⟩ (fun y=>if y=("pile":Str) then some (.ref P) else m0 y) s3:=by
  refine ⟨rfl,W,ns3,fun e he=>?_,fun b hb=>?_,by simp [K],fun b hb=>?_⟩
  ·rw [List.mem_singleton.mp he]
   obtain ⟨o',es,ep,q1,q2,_⟩:=ns3
   exact ⟨by rw [L.kind];nofun,N,o',eF,q1,fun vs q=>by rw [q2] at q;cases q⟩
  ·simp only [K,frs,List.filterMap_cons,eF,List.filterMap_nil] at hb
   exact hb
  ·rw [List.mem_singleton.mp hb];exact thr
 have FR:FrR K ⟨uK vv,uO D P,s3.heap⟩ (fun y=>if y=("pile":Str) then some (.ref P) else m0 y) [("pile",.ref pl0)]:=fun n mv hl=>by
  rw [List.lookup_cons] at hl
  split at hl
  ·rename_i q
   rw [beq_iff_eq] at q
   subst q
   cases hl
   refine ⟨.ref P,if_pos rfl,?_⟩
   have:(Value.ref P)=.ref (uO D P pl0).1:=by rw [show uO D P pl0=(P,P) from if_pos rfl]
   show RV _ _ _ _ (Value.ref P) _
   rw [this];exact .ref (by decide:(1:Nat) < 2)
  ·cases hl
 have wf:Wf (uK vv):=fun l c e=>(W.cells l c e).1
 have pb:y5 pl0 nl0 vv 0 (uK vv):=⟨⟨0,Nat.le_refl _,Q8 vv⟩,Q9 vv,vv64,ne0,wf⟩
 have go:=Ug FO (by show _=env.scope.names;rw [eS]) _ _ _ _ _ _ I FR (HL (d:=560) (by decide) pb)
 refine wpAny_mono go (fun f s4 z'=>z'.el fun fl F4 c4 m4 q1 q2 q3 q4 q5 q6 q7=>?_) fun e s4 z'=>z'.el fun C md ea F4 m4 c4 _ q _=>?_
 ·cases q1 with
  | next=>cases q2
  | brk=>exact q2.elim
  | cont=>exact q2.elim
  | ret r=>
   cases q2
   cases r
   obtain ⟨⟨h3,t3,rfl⟩,F3,_⟩:=X3
   refine ⟨rfl,fun b ob e=>?_,q7,q6⟩
   rw [q3.heap]
   refine q5.keep b ob (F3.keep b ob e) fun z=>?_
   rcases z with ⟨l,c,e',rfl⟩ | z
   ·have:s.heap.get? ((uO D P) l).2=none:=by
     rcases xN e' with ⟨rfl,_⟩ | ⟨rfl,_⟩
     ·rw [show uO D P pl0=(P,P) from if_pos rfl];exact nP
     ·rw [show uO D P nl0=(D,D) from if_neg ne0];exact nD
    have e2:s.heap.get? ((uO D P) l).2=some ob:=e
    rw [this] at e2;cases e2
   ·rw [List.mem_singleton.mp z,fN] at e;cases e
 ·cases q
theorem law_walk (q:Program) (ll:List Str):WalkO q ll (fun _ _=>True) YP PySem.Challenge.rw_xm0535_01.row.toRowW lawD [] fun f vs=>PySem.call f vs:=by
 intro w s₀ s₁ mg mb G Y a o pm cd doc dV kV ho hd hcd hD hmg hg args vals as hpre hlay hrd hwl hlo
 wrow_args hpre hlay hrd hwl hlo
 all_goals (
  rename IntsAre _ _=>hI
  rename s₁.heap.IsList _ _=>hL
  rename ¬ _ < _=>hc
  have e1:dV=.none:=hD.pos.elim (fun z=>z.2) fun z=>absurd K9 z.1
  have e2:kV=.none:=hD.kw.elim (fun z=>z.2) fun z=>absurd rfl z.1
  subst e1 e2
  refine enter_call ?_
  refine codeAny_mono (G3 Y ho hd hcd hL hI (by omega)) fun r s' ⟨e,k,eo,eg⟩=>?_
  subst e
  exact ⟨.inl ⟨_,.bool true,[],rfl,fun _=>rfl,.bool true,by kernel_rfl,fun _=>⟨List.nodup_nil,fun a h=>nomatch h⟩⟩,.of_keep k,eo,.of_eq (eg.trans hg)⟩)
end
end Mine
end
open PySem PySem.W PyProof.Rows
theorem Mine.promised0:PySem.Challenge.rw_xm0535_01.row.toRowW.promised:=by w_witness2
theorem PySem.Challenge.cw_xm0535_01_holds : PySem.Challenge.rw_xm0535_01.Holds := by
 exact Mine.head Mine.lawD (by kernel_rfl) (by kernel_rfl) (by kernel_rfl) Mine.promised0 (Mine.law_walk Mine.q Mine.loose)
